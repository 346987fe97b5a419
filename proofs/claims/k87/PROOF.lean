import PyProof.Rows.All
import Wide.All
import OpenK.AllK
import Wide.FinOn
import HandS.ForMost
import HandS.ForExc
import HandS.CallSlots
import HandS.IsInst
import HandS.TupMul
import HandS.TupAny
import KE.KMinKey
import HandS.SortKw
import PyProof.ListMulRoad
import PyProof.FactsAll.tuple_2
import HandS.Style
import HandS.Star
import HandS.SortInts
import PySem.Challenge.RW_upforgood_k87_numbers_of_stars
set_option Elab.async false
set_option linter.all false
set_option maxRecDepth 100000
set_option maxHeartbeats 0
/-! VL: the hand layer by values: data, what stands for it in the heap, readings as functions of values. -/
namespace VL
open PySem PySem.Spec PyProof.Rows L2

/-! ### data -/
inductive D where
  | non | bl (b : Bool) | int (i : Int) | str (x : Str)
  | lst (xs : List D) | tup (xs : List D)
  | dct (ks : List Key) (vs : List D)
  | ins (C : Addr) (ns : List Str) (vs : List D)
  | tag (v : V) (d : D)
  | val (v : V)
  | scr (is : List Int)
/-- without tags -/
def D.s : D → D
  | .tag _ d => d.s
  | d => d
mutual
def Rep (K : PySem.W.Frag) (G : Hp) : D → V → Prop
  | .non, v => v = .non
  | .bl b, v => v = .bl b
  | .int i, v => v = .int i
  | .str x, v => v = .str x
  | .lst ds, v => ∃ a vs, v = .ref a ∧ G a = some (.lst vs) ∧ Reps K G ds vs
  | .tup ds, v => ∃ a vs, v = .ref a ∧ G a = some (.tup vs) ∧ Reps K G ds vs
  | .dct ks ds, v => ∃ a vs, v = .ref a ∧ G a = some (.dK (ks.zip vs)) ∧ ks.length = vs.length ∧ Reps K G ds vs
  | .ins C ns ds, v => ∃ a dx vs, v = .ref a ∧ G a = some (.ins C dx (ns.zip vs)) ∧ ns.length = vs.length ∧ Reps K G ds vs
  | .tag w d, v => v = w ∧ Rep K G d v
  | .val w, v => v = w
  | .scr is, v => ∃ a, v = .ref a ∧ SqL K G a (is.map V.int)
def Reps (K : PySem.W.Frag) (G : Hp) : List D → List V → Prop
  | [], vs => vs = []
  | d :: ds, vs => ∃ v ws, vs = v :: ws ∧ Rep K G d v ∧ Reps K G ds ws
end
abbrev Ex (H H' : Hp) : Prop := ∀ a o, H a = some o → H' a = some o
theorem Ex.refl (H : Hp) : Ex H H := fun _ _ h => h
theorem Ex.trans {H H1 H2 : Hp} (a : Ex H H1) (b : Ex H1 H2) : Ex H H2 := fun x o h => b x o (a x o h)
theorem Ex.new {H : Hp} {p : Addr} {o : HO} (h : H p = none) : Ex H (upd H p o) := fun a u e => by
  rw [upd_ne (ne_of_none e h)]
  exact e
theorem ex_rd {H H' : Hp} {a : Addr} {u : HO} (e : Ex H H') (h : Rd H a u) : Rd H' a u := by
  rcases h with h | ⟨o, h⟩
  · exact .inl (e a _ h)
  · exact .inr ⟨o, e a _ h⟩
theorem ex_t {K : PySem.W.Frag} {H H' : Hp} {a : Addr} {xs : List V} (e : Ex H H') (h : SqT K H a xs) : SqT K H' a xs := by
  rcases h with h | h
  · exact .inl (ex_rd e h)
  · exact .inr h
theorem ex_l {K : PySem.W.Frag} {H H' : Hp} {a : Addr} {xs : List V} (e : Ex H H') (h : SqL K H a xs) : SqL K H' a xs := by
  rcases h with h | h
  · exact .inl (ex_rd e h)
  · exact .inr h
mutual
theorem Rep.mono {K : PySem.W.Frag} {G G' : Hp} (e : Ex G G') : ∀ (d : D) (v : V), Rep K G d v → Rep K G' d v
  | .non, v, h => by simpa [Rep] using h
  | .bl b, v, h => by simpa [Rep] using h
  | .int i, v, h => by simpa [Rep] using h
  | .str x, v, h => by simpa [Rep] using h
  | .lst ds, v, h => by
    rw [Rep] at h ⊢
    obtain ⟨a, vs, h1, h2, h3⟩ := h
    exact ⟨a, vs, h1, e _ _ h2, Reps.mono e ds vs h3⟩
  | .tup ds, v, h => by
    rw [Rep] at h ⊢
    obtain ⟨a, vs, h1, h2, h3⟩ := h
    exact ⟨a, vs, h1, e _ _ h2, Reps.mono e ds vs h3⟩
  | .dct ks ds, v, h => by
    rw [Rep] at h ⊢
    obtain ⟨a, vs, h1, h2, h3, h4⟩ := h
    exact ⟨a, vs, h1, e _ _ h2, h3, Reps.mono e ds vs h4⟩
  | .ins C ns ds, v, h => by
    rw [Rep] at h ⊢
    obtain ⟨a, dx, vs, h1, h2, h3, h4⟩ := h
    exact ⟨a, dx, vs, h1, e _ _ h2, h3, Reps.mono e ds vs h4⟩
  | .tag w d, v, h => by
    rw [Rep] at h ⊢
    exact ⟨h.1, Rep.mono e d v h.2⟩
  | .val w, v, h => by simpa [Rep] using h
  | .scr is, v, h => by
    rw [Rep] at h ⊢
    obtain ⟨a, h1, h2⟩ := h
    exact ⟨a, h1, ex_l e h2⟩
theorem Reps.mono {K : PySem.W.Frag} {G G' : Hp} (e : Ex G G') : ∀ (ds : List D) (vs : List V), Reps K G ds vs → Reps K G' ds vs
  | [], vs, h => by simpa [Reps] using h
  | d :: ds, vs, h => by
    rw [Reps] at h ⊢
    obtain ⟨v, ws, h1, h2, h3⟩ := h
    exact ⟨v, ws, h1, Rep.mono e d v h2, Reps.mono e ds ws h3⟩
end
section
variable {K : PySem.W.Frag} {G : Hp}
theorem Rep.s : ∀ {d : D} {v : V}, Rep K G d v → Rep K G d.s v
  | .non, _, h => h
  | .bl _, _, h => h
  | .int _, _, h => h
  | .str _, _, h => h
  | .lst _, _, h => h
  | .tup _, _, h => h
  | .dct _ _, _, h => h
  | .ins _ _ _, _, h => h
  | .tag w d, v, h => by
    rw [Rep] at h
    show Rep K G d.s v
    exact Rep.s h.2
  | .val _, _, h => h
  | .scr _, _, h => h
theorem reps_nil {vs : List V} : Reps K G [] vs ↔ vs = [] := by rw [Reps]
theorem reps_cons {d : D} {ds : List D} {vs : List V} : Reps K G (d :: ds) vs ↔ ∃ v ws, vs = v :: ws ∧ Rep K G d v ∧ Reps K G ds ws := by rw [Reps]
theorem Reps.cons {d : D} {ds : List D} {v : V} {vs : List V} (h : Rep K G d v) (r : Reps K G ds vs) : Reps K G (d :: ds) (v :: vs) := reps_cons.mpr ⟨v, vs, rfl, h, r⟩
theorem Reps.length : ∀ {ds : List D} {vs : List V}, Reps K G ds vs → vs.length = ds.length
  | [], vs, h => by rw [reps_nil.mp h]; rfl
  | d :: ds, vs, h => by
    obtain ⟨v, ws, rfl, _, r⟩ := reps_cons.mp h
    rw [List.length_cons, List.length_cons, Reps.length r]
theorem Reps.get : ∀ {ds : List D} {vs : List V} {i : Nat} {d : D}, Reps K G ds vs → ds[i]? = some d → ∃ v, vs[i]? = some v ∧ Rep K G d v
  | [], _, _, _, _, e => by simp at e
  | d :: ds, vs, 0, _, h, e => by
    obtain ⟨v, ws, rfl, q, r⟩ := reps_cons.mp h
    simp at e; subst e
    exact ⟨v, rfl, q⟩
  | d :: ds, vs, i + 1, _, h, e => by
    obtain ⟨v, ws, rfl, q, r⟩ := reps_cons.mp h
    obtain ⟨u, e1, e2⟩ := Reps.get (i := i) r (by simpa using e)
    exact ⟨u, by simpa using e1, e2⟩
theorem Reps.get' {ds : List D} {vs : List V} {i : Nat} {v : V} (r : Reps K G ds vs) (e : vs[i]? = some v) : ∃ d, ds[i]? = some d ∧ Rep K G d v := by
  have hl := r.length
  have hi : i < ds.length := by rw [← hl]; exact (List.getElem?_eq_some_iff.mp e).1
  obtain ⟨u, e1, e2⟩ := r.get (List.getElem?_eq_getElem hi)
  rw [e] at e1; cases e1
  exact ⟨_, List.getElem?_eq_getElem hi, e2⟩
theorem Reps.append : ∀ {ds es : List D} {vs ws : List V}, Reps K G ds vs → Reps K G es ws → Reps K G (ds ++ es) (vs ++ ws)
  | [], _, vs, _, h, r => by
    rw [reps_nil.mp h]; exact r
  | d :: ds, es, vs, ws, h, r => by
    obtain ⟨v, us, rfl, q, r'⟩ := reps_cons.mp h
    exact Reps.cons q (Reps.append r' r)
theorem Reps.take : ∀ {ds : List D} {vs : List V} (n : Nat), Reps K G ds vs → Reps K G (ds.take n) (vs.take n)
  | _, _, 0, _ => by simp [reps_nil]
  | [], vs, n + 1, h => by rw [reps_nil.mp h]; simp [reps_nil]
  | d :: ds, vs, n + 1, h => by
    obtain ⟨v, us, rfl, q, r'⟩ := reps_cons.mp h
    exact Reps.cons q (Reps.take n r')
theorem Reps.drop : ∀ {ds : List D} {vs : List V} (n : Nat), Reps K G ds vs → Reps K G (ds.drop n) (vs.drop n)
  | _, _, 0, h => h
  | [], vs, n + 1, h => by rw [reps_nil.mp h]; simp [reps_nil]
  | d :: ds, vs, n + 1, h => by
    obtain ⟨v, us, rfl, q, r'⟩ := reps_cons.mp h
    exact Reps.drop n r'
theorem Reps.set {d : D} {v : V} (q : Rep K G d v) : ∀ {ds : List D} {vs : List V} (i : Nat), Reps K G ds vs → Reps K G (ds.set i d) (vs.set i v)
  | [], vs, i, h => by rw [reps_nil.mp h]; simp [reps_nil]
  | e :: ds, vs, 0, h => by
    obtain ⟨u, us, rfl, _, r'⟩ := reps_cons.mp h
    exact Reps.cons q r'
  | e :: ds, vs, i + 1, h => by
    obtain ⟨u, us, rfl, q', r'⟩ := reps_cons.mp h
    exact Reps.cons q' (Reps.set q i r')
theorem Reps.reverse : ∀ {ds : List D} {vs : List V}, Reps K G ds vs → Reps K G ds.reverse vs.reverse
  | [], vs, h => by rw [reps_nil.mp h]; simp [reps_nil]
  | d :: ds, vs, h => by
    obtain ⟨v, us, rfl, q, r'⟩ := reps_cons.mp h
    rw [List.reverse_cons, List.reverse_cons]
    exact Reps.append (Reps.reverse r') (Reps.cons q (reps_nil.mpr rfl))
theorem Reps.rep {ds : List D} {vs : List V} (h : Reps K G ds vs) : ∀ k : Nat, Reps K G (List.replicate k ds).flatten (List.replicate k vs).flatten
  | 0 => by simp [reps_nil]
  | k + 1 => by
    rw [List.replicate_succ, List.replicate_succ, List.flatten_cons, List.flatten_cons]
    exact Reps.append h (Reps.rep h k)
theorem reps_ints : ∀ {is : List Int} {vs : List V}, Reps K G (is.map D.int) vs ↔ vs = is.map V.int
  | [], vs => by simp [reps_nil]
  | i :: is, vs => by
    rw [List.map_cons, reps_cons, List.map_cons]
    constructor
    · rintro ⟨v, ws, rfl, h1, h2⟩
      rw [Rep] at h1
      rw [h1, reps_ints.mp h2]
    · rintro rfl
      exact ⟨_, _, rfl, by rw [Rep], reps_ints.mpr rfl⟩
theorem reps_bls : ∀ {is : List Bool} {vs : List V}, Reps K G (is.map D.bl) vs ↔ vs = is.map V.bl
  | [], vs => by simp [reps_nil]
  | i :: is, vs => by
    rw [List.map_cons, reps_cons, List.map_cons]
    constructor
    · rintro ⟨v, ws, rfl, h1, h2⟩
      rw [Rep] at h1
      rw [h1, reps_bls.mp h2]
    · rintro rfl
      exact ⟨_, _, rfl, by rw [Rep], reps_bls.mpr rfl⟩
end

/-! ### what a name holds -/
/-- nothing known; data that stays; a list, a dict that this name alone holds -/
inductive DV where
  | u | f (d : D) | o (ds : List D) | od (ks : List Key) (ds : List D)
def DV.own : DV → Bool
  | .o _ => true
  | .od _ _ => true
  | _ => false
abbrev En := List DV
/-- fixed through a def's body: the heap at the entry, what stays of it, the places whose lists are the callers' -/
structure Fr where
  H0 : Hp
  G0 : Hp
  R : List (Nat × Addr)
/-- the address is a caller's list at place i, or new -/
def Mine (F : Fr) (i : Nat) (p : Addr) : Prop := (i, p) ∈ F.R ∨ F.H0 p = none
def VarOk (K : PySem.W.Frag) (F : Fr) (G H : Hp) (i : Nat) : DV → Option V → Prop
  | .u, _ => True
  | .f d, x => ∃ v, x = some v ∧ Rep K G d v
  | .o ds, x => ∃ p vs, x = some (.ref p) ∧ G p = none ∧ Mine F i p ∧ H p = some (.lst vs) ∧ Reps K G ds vs
  | .od ks ds, x => ∃ p vs, x = some (.ref p) ∧ G p = none ∧ Mine F i p ∧ H p = some (.dK (ks.zip vs)) ∧ ks.length = vs.length ∧ Reps K G ds vs
def OwnAt (env : En) (σ : L2.St) (i : Nat) (p : Addr) : Prop := ∃ dv, env[i]? = some dv ∧ dv.own = true ∧ σ[i]? = some (some (.ref p))
structure Ok (K : PySem.W.Frag) (Rs : List Nat) (F : Fr) (env : En) (σ : L2.St) (G H : Hp) : Prop where
  sub : Ex G H
  fr : ∀ a o, F.H0 a = some o → a ∉ F.R.map (·.2) → H a = some o
  nw : ∀ a o, G a = some o → F.G0 a = some o ∨ F.H0 a = none
  g0 : Ex F.G0 G
  rs : F.R.map (·.1) = Rs
  rp : ∀ i a, (i, a) ∈ F.R → σ[i]? = some (some (.ref a)) ∧ H a ≠ none
  rh : ∀ i a, (i, a) ∈ F.R → F.H0 a ≠ none
  len : σ.length = env.length
  var : ∀ i dv x, env[i]? = some dv → σ[i]? = some x → VarOk K F G H i dv x
  dis : ∀ i j p, OwnAt env σ i p → OwnAt env σ j p → i = j
def RRep (K : PySem.W.Frag) (F : Fr) (env : En) (σ : L2.St) (G H : Hp) : DV → V → Prop
  | .u, _ => False
  | .f d, v => Rep K G d v
  | .o ds, v => ∃ p vs, v = .ref p ∧ G p = none ∧ F.H0 p = none ∧ H p = some (.lst vs) ∧ Reps K G ds vs ∧ ∀ i, ¬ OwnAt env σ i p
  | .od ks ds, v => ∃ p vs, v = .ref p ∧ G p = none ∧ F.H0 p = none ∧ H p = some (.dK (ks.zip vs)) ∧ ks.length = vs.length ∧ Reps K G ds vs ∧ ∀ i, ¬ OwnAt env σ i p

section
variable {K : PySem.W.Frag} {Rs : List Nat} {F : Fr} {env : En} {σ : L2.St} {G G' H H' : Hp}
theorem VarOk.tracked {i : Nat} {dv : DV} {x : Option V} {p : Addr} (h : VarOk K F G H i dv x) (ho : dv.own = true) (hx : x = some (.ref p)) : G p = none ∧ Mine F i p ∧ ∃ o, H p = some o := by
  cases dv with
  | u => cases ho
  | f d => cases ho
  | o ds =>
    obtain ⟨q, vs, e, h1, h2, h3, _⟩ := h
    rw [hx] at e; cases e
    exact ⟨h1, h2, _, h3⟩
  | od ks ds =>
    obtain ⟨q, vs, e, h1, h2, h3, _⟩ := h
    rw [hx] at e; cases e
    exact ⟨h1, h2, _, h3⟩
theorem Ok.own (ok : Ok K Rs F env σ G H) {i : Nat} {p : Addr} (h : OwnAt env σ i p) : G p = none ∧ Mine F i p ∧ ∃ o, H p = some o := by
  obtain ⟨dv, h1, h2, h3⟩ := h
  exact (ok.var i dv _ h1 h3).tracked h2 rfl
/-- what H does not track was not there at the entry -/
theorem Ok.fresh (ok : Ok K Rs F env σ G H) {p : Addr} (h : H p = none) : F.H0 p = none := by
  cases q : F.H0 p with
  | none => rfl
  | some o =>
    by_cases hp : p ∈ F.R.map (·.2)
    · obtain ⟨⟨i, a⟩, hm, e⟩ := List.mem_map.mp hp
      simp only at e; subst e
      exact absurd h (ok.rp i a hm).2
    · rw [ok.fr p o q hp] at h; cases h
theorem Ok.gnone (ok : Ok K Rs F env σ G H) {p : Addr} (h : H p = none) : G p = none := by
  cases q : G p with
  | none => rfl
  | some o => rw [ok.sub p o q] at h; cases h
theorem VarOk.ext {i : Nat} {dv : DV} {x : Option V} (h : VarOk K F G H i dv x) (e : Ex G G') (hk : ∀ p o, x = some (.ref p) → dv.own = true → H p = some o → H' p = some o ∧ G' p = none) : VarOk K F G' H' i dv x := by
  cases dv with
  | u => trivial
  | f d =>
    obtain ⟨v, h1, h2⟩ := h
    exact ⟨v, h1, Rep.mono e d v h2⟩
  | o ds =>
    obtain ⟨p, vs, h1, h2, h3, h4, h5⟩ := h
    obtain ⟨a, b⟩ := hk p _ h1 rfl h4
    exact ⟨p, vs, h1, b, h3, a, Reps.mono e ds vs h5⟩
  | od ks ds =>
    obtain ⟨p, vs, h1, h2, h3, h4, h5, h6⟩ := h
    obtain ⟨a, b⟩ := hk p _ h1 rfl h4
    exact ⟨p, vs, h1, b, h3, a, h5, Reps.mono e ds vs h6⟩
/-- THE STEP: the heap changes where no name of the frame looks; what stays may grow -/
theorem Ok.step (ok : Ok K Rs F env σ G H) (e : Ex G G') (sub : Ex G' H') (keep : ∀ a o, H a = some o → G' a = none → H' a = some o)
    (nw : ∀ a o, G' a = some o → G a = some o ∨ F.H0 a = none) (ow : ∀ i p, OwnAt env σ i p → G' p = none) : Ok K Rs F env σ G' H' := by
  have kp : ∀ a o, H a = some o → H' a ≠ none := fun a o h => by
    cases q : G' a with
    | none => rw [keep a o h q]; simp
    | some u => rw [sub a u q]; simp
  refine ⟨sub, fun a o h hn => ?_, fun a o h => ?_, ok.g0.trans e, ok.rs, fun i a h => ⟨(ok.rp i a h).1, ?_⟩, ok.rh, ok.len, fun i dv x h1 h2 => ?_, ok.dis⟩
  · have hH := ok.fr a o h hn
    cases q : G' a with
    | none => exact keep a o hH q
    | some u =>
      rcases nw a u q with z | z
      · have := ok.sub a u z
        rw [hH] at this; cases this
        exact sub a _ q
      · rw [h] at z; cases z
  · rcases nw a o h with z | z
    · exact ok.nw a o z
    · exact .inr z
  · obtain ⟨o, q⟩ := Option.ne_none_iff_exists'.mp (ok.rp i a h).2
    exact kp a o q
  · refine (ok.var i dv x h1 h2).ext e fun p o hx ho hp => ?_
    have hg := ow i p ⟨dv, h1, ho, by rw [h2, hx]⟩
    exact ⟨keep p o hp hg, hg⟩
/-- a new object that stays -/
theorem Ok.new (ok : Ok K Rs F env σ G H) {p : Addr} {o : HO} (h : H p = none) : Ok K Rs F env σ (upd G p o) (upd H p o) ∧ Ex G (upd G p o) := by
  have hg := ok.gnone h
  refine ⟨ok.step (Ex.new hg) (fun a u q => ?_) (fun a u q n => ?_) (fun a u q => ?_) (fun i q z => ?_), Ex.new hg⟩
  · by_cases e : a = p
    · subst e; rw [upd_same] at q ⊢; exact q
    · rw [upd_ne e] at q ⊢; exact ok.sub a u q
  · have e : a ≠ p := fun z => by subst z; rw [upd_same] at n; cases n
    rw [upd_ne e]; exact q
  · by_cases e : a = p
    · subst e; exact .inr (ok.fresh h)
    · rw [upd_ne e] at q; exact .inl q
  · obtain ⟨h1, _, u, h3⟩ := ok.own z
    have e : q ≠ p := fun z => by subst z; rw [h] at h3; cases h3
    rw [upd_ne e]; exact h1
/-- a new object, that nobody holds yet -/
theorem Ok.newO (ok : Ok K Rs F env σ G H) {p : Addr} {o : HO} (h : H p = none) : Ok K Rs F env σ G (upd H p o) := by
  refine ok.step (Ex.refl G) (fun a u q => ?_) (fun a u q _ => ?_) (fun a u q => .inl q) (fun i q z => (ok.own z).1)
  · have := ok.sub a u q
    rw [upd_ne (ne_of_none this h)]; exact this
  · rw [upd_ne (ne_of_none q h)]; exact q
theorem Ok.notOwn (ok : Ok K Rs F env σ G H) {p : Addr} (h : H p = none) (i : Nat) : ¬ OwnAt env σ i p := fun z => by
  obtain ⟨_, _, o, q⟩ := ok.own z
  rw [h] at q; cases q
/-- a new list as a result -/
theorem Ok.rlst (ok : Ok K Rs F env σ G H) {p : Addr} {vs : List V} {ds : List D} (h : H p = none) (r : Reps K G ds vs) : Ok K Rs F env σ G (upd H p (.lst vs)) ∧ RRep K F env σ G (upd H p (.lst vs)) (.o ds) (.ref p) :=
  ⟨ok.newO h, p, vs, rfl, ok.gnone h, ok.fresh h, upd_same, r, ok.notOwn h⟩
theorem Ok.rtup (ok : Ok K Rs F env σ G H) {p : Addr} {vs : List V} {ds : List D} (h : H p = none) (r : Reps K G ds vs) : ∃ G', Ex G G' ∧ Ok K Rs F env σ G' (upd H p (.tup vs)) ∧ RRep K F env σ G' (upd H p (.tup vs)) (.f (.tup ds)) (.ref p) := by
  obtain ⟨a, b⟩ := ok.new (o := .tup vs) h
  refine ⟨_, b, a, ?_⟩
  show Rep _ _ _ _
  rw [Rep]
  exact ⟨p, vs, rfl, upd_same, Reps.mono b ds vs r⟩
/-! ### an owned result given away: it stays from then on -/
def fz (r : DV) (k : D → Prop) : Prop := match r with
  | .f d => k d
  | .o ds => k (.lst ds)
  | .od ks ds => k (.dct ks ds)
  | .u => False
/-- it stays -/
theorem Ok.stays (ok : Ok K Rs F env σ G H) {p : Addr} {o : HO} (h : H p = some o) (hg : G p = none) (h0 : F.H0 p = none) (hn : ∀ i, ¬ OwnAt env σ i p) : Ok K Rs F env σ (upd G p o) H ∧ Ex G (upd G p o) := by
  refine ⟨ok.step (Ex.new hg) (fun a u q => ?_) (fun a u q n => q) (fun a u q => ?_) (fun i q z => ?_), Ex.new hg⟩
  · by_cases e : a = p
    · subst e; rw [upd_same] at q; cases q; exact h
    · rw [upd_ne e] at q; exact ok.sub a u q
  · by_cases e : a = p
    · subst e; exact .inr h0
    · rw [upd_ne e] at q; exact .inl q
  · have e : q ≠ p := fun e => hn i (e ▸ z)
    rw [upd_ne e]; exact (ok.own z).1
theorem Ok.freeze (ok : Ok K Rs F env σ G H) {r : DV} {v : V} (h : RRep K F env σ G H r v) {k : D → Prop} (hk : fz r k) : ∃ d G', k d ∧ Ex G G' ∧ Ok K Rs F env σ G' H ∧ Rep K G' d v := by
  cases r with
  | u => cases hk
  | f d => exact ⟨d, G, hk, Ex.refl G, ok, h⟩
  | o ds =>
    obtain ⟨p, vs, rfl, hg, h0, hp, r, hn⟩ := h
    obtain ⟨a, b⟩ := ok.stays hp hg h0 hn
    refine ⟨_, _, hk, b, a, ?_⟩
    rw [Rep]
    exact ⟨p, vs, rfl, upd_same, Reps.mono b ds vs r⟩
  | od ks ds =>
    obtain ⟨p, vs, rfl, hg, h0, hp, hl, r, hn⟩ := h
    obtain ⟨a, b⟩ := ok.stays hp hg h0 hn
    refine ⟨_, _, hk, b, a, ?_⟩
    rw [Rep]
    exact ⟨p, vs, rfl, upd_same, hl, Reps.mono b ds vs r⟩
end
end VL
/-! VL: the judgements, expressions. -/
namespace VL
open PySem PySem.Spec PyProof.Rows L2

/-! ### what is raised -/
structure Er where
  C : Addr
  ns : List Str
  ds : List D
def ERep (K : PySem.W.Frag) (G H : Hp) (e : Er) (cls : Value) (d : Option Addr) : Prop :=
  cls = .ref e.C ∧ ((e.ns = [] ∧ d = none) ∨ ∃ a vs, d = some a ∧ H a = some (.xd (e.ns.zip vs)) ∧ e.ns.length = vs.length ∧ Reps K G e.ds vs)
abbrev EmT := Er → En → Prop
def Link (K : PySem.W.Frag) (Rs : List Nat) (F : Fr) (W : WX) (Em : EmT) : Prop :=
  ∀ e env σ G H cls d, Ok K Rs F env σ G H → ERep K G H e cls d → Em e env → W cls d σ H
/-! ### readings by values -/
inductive Arg where
  | val (d : D) | ref (i : Nat)
def ArgRep (K : PySem.W.Frag) (G : Hp) (σ : L2.St) : Arg → V → Prop
  | .val d, v => Rep K G d v
  | .ref i, v => σ[i]? = some (some v)
def ArgsRep (K : PySem.W.Frag) (G : Hp) (σ : L2.St) : List Arg → List V → Prop
  | [], vs => vs = []
  | a :: as, vs => ∃ v ws, vs = v :: ws ∧ ArgRep K G σ a v ∧ ArgsRep K G σ as ws
abbrev ME := En → (DV → En → Prop) → EmT → Prop
abbrev MO := En → (Arg → En → Prop) → EmT → Prop
abbrev MT := En → (Bool → En → Prop) → EmT → Prop
abbrev MA := En → (List Arg → En → Prop) → EmT → Prop
section
variable (K : PySem.W.Frag) (Rs : List Nat) (W : WX)
def SemE (t : TE) (m : ME) : Prop := ∀ (F : Fr) (env : En) (σ : L2.St) (G H : Hp) (Q : VK) (Qm : DV → En → Prop) (Em : EmT), Ok K Rs F env σ G H → Link K Rs F W Em → m env Qm Em →
  (∀ r env' v G' H', Ok K Rs F env' σ G' H' → Ex G G' → RRep K F env' σ G' H' r v → Qm r env' → Q v H') → t σ H Q
def SemO (t : TE) (m : MO) : Prop := ∀ (F : Fr) (env : En) (σ : L2.St) (G H : Hp) (Q : VK) (Qm : Arg → En → Prop) (Em : EmT), Ok K Rs F env σ G H → Link K Rs F W Em → m env Qm Em →
  (∀ a env' v G' H', Ok K Rs F env' σ G' H' → Ex G G' → ArgRep K G' σ a v → Qm a env' → Q v H') → t σ H Q
def SemT (t : TT) (m : MT) : Prop := ∀ (F : Fr) (env : En) (σ : L2.St) (G H : Hp) (Q : Bool → Hp → Prop) (Qm : Bool → En → Prop) (Em : EmT), Ok K Rs F env σ G H → Link K Rs F W Em → m env Qm Em →
  (∀ b env' G' H', Ok K Rs F env' σ G' H' → Ex G G' → Qm b env' → Q b H') → t σ H Q
def SemA (t : TA) (m : MA) : Prop := ∀ (F : Fr) (env : En) (σ : L2.St) (G H : Hp) (Q : List V → Hp → Prop) (Qm : List Arg → En → Prop) (Em : EmT), Ok K Rs F env σ G H → Link K Rs F W Em → m env Qm Em →
  (∀ as env' vs G' H', Ok K Rs F env' σ G' H' → Ex G G' → ArgsRep K G' σ as vs → Qm as env' → Q vs H') → t σ H Q
end
structure DE (X : Cx) (Rs : List Nat) (W : WX) (e : Expr) (t : TE) (m : ME) : Prop where
  p : PE X e t
  s : SemE X.K Rs W t m
structure DO (X : Cx) (Rs : List Nat) (W : WX) (e : Expr) (t : TE) (m : MO) : Prop where
  p : PE X e t
  s : SemO X.K Rs W t m
structure DT (X : Cx) (Rs : List Nat) (W : WX) (e : Expr) (t : TT) (m : MT) : Prop where
  p : PT X e t
  s : SemT X.K Rs W t m
structure DW (X : Cx) (Rs : List Nat) (W : WX) (e : Expr) (t : TT) (m : MT) : Prop where
  p : PW X e t
  s : SemT X.K Rs W t m
structure DA (X : Cx) (Rs : List Nat) (W : WX) (es : List Expr) (t : TA) (m : MA) : Prop where
  p : PA X es t
  s : SemA X.K Rs W t m
section
variable {K : PySem.W.Frag} {Rs : List Nat} {F : Fr} {env : En} {σ : L2.St} {G G' H H' : Hp}
theorem ArgRep.mono {a : Arg} {v : V} (e : Ex G G') (h : ArgRep K G σ a v) : ArgRep K G' σ a v := by
  cases a with
  | val d => exact Rep.mono e d v h
  | ref i => exact h
theorem ArgsRep.mono (e : Ex G G') : ∀ {as : List Arg} {vs : List V}, ArgsRep K G σ as vs → ArgsRep K G' σ as vs
  | [], _, h => h
  | a :: as, _, ⟨v, ws, h1, h2, h3⟩ => ⟨v, ws, h1, h2.mono e, ArgsRep.mono e h3⟩
/-- data that can be read here: of a list, a dict the top may be one that a name holds -/
def View (K : PySem.W.Frag) (G H : Hp) : D → V → Prop
  | .lst ds, v => ∃ a vs, v = .ref a ∧ H a = some (.lst vs) ∧ Reps K G ds vs
  | .dct ks ds, v => ∃ a vs, v = .ref a ∧ H a = some (.dK (ks.zip vs)) ∧ ks.length = vs.length ∧ Reps K G ds vs
  | d, v => Rep K G d v
theorem View.of {d : D} {v : V} (e : Ex G H) (h : Rep K G d v) : View K G H d v := by
  cases d with
  | lst ds =>
    rw [Rep] at h
    obtain ⟨a, vs, h1, h2, h3⟩ := h
    exact ⟨a, vs, h1, e _ _ h2, h3⟩
  | dct ks ds =>
    rw [Rep] at h
    obtain ⟨a, vs, h1, h2, h3, h4⟩ := h
    exact ⟨a, vs, h1, e _ _ h2, h3, h4⟩
  | _ => exact h
def look (env : En) (a : Arg) (k : D → Prop) : Prop := match a with
  | .val d => k d.s
  | .ref i => match env.getD i .u with
    | .f d => k d.s
    | .o ds => k (.lst ds)
    | .od ks ds => k (.dct ks ds)
    | .u => False
theorem getD_some {env : En} {i : Nat} {dv : DV} (h : env.getD i .u = dv) (hn : dv ≠ .u) : env[i]? = some dv := by
  rw [List.getD_eq_getElem?_getD] at h
  cases q : env[i]? with
  | none => rw [q] at h; exact absurd h.symm hn
  | some x => rw [q] at h; simp at h; rw [h]
theorem Ok.look (ok : Ok K Rs F env σ G H) {a : Arg} {v : V} {k : D → Prop} (h : ArgRep K G σ a v) (hk : look env a k) : ∃ d, k d ∧ View K G H d v := by
  cases a with
  | val d => exact ⟨d.s, hk, View.of ok.sub (Rep.s h)⟩
  | ref i =>
    have h : σ[i]? = some (some v) := h
    unfold VL.look at hk
    simp only at hk
    split at hk
    · rename_i d e
      obtain ⟨w', e1, e2⟩ := ok.var i _ _ (getD_some e (by simp)) h
      cases e1
      exact ⟨d.s, hk, View.of ok.sub (Rep.s e2)⟩
    · rename_i ds e
      obtain ⟨p, vs, e1, _, _, e2, e3⟩ := ok.var i _ _ (getD_some e (by simp)) h
      cases e1
      exact ⟨_, hk, p, vs, rfl, e2, e3⟩
    · rename_i ks ds e
      obtain ⟨p, vs, e1, _, _, e2, e3, e4⟩ := ok.var i _ _ (getD_some e (by simp)) h
      cases e1
      exact ⟨_, hk, p, vs, rfl, e2, e3, e4⟩
    · cases hk
end

/-! ### names, constants, operands -/
section
variable {X : Cx} {Rs : List Nat} {W : WX} {e a b c : Expr} {pos p : Pos} {ma mb mc : MO}
def mC (d : D) : ME := fun env Q _ => Q (.f d) env
theorem sem_c {K : PySem.W.Frag} {d : D} {v : V} (h : ∀ G, Rep K G d v) : SemE K Rs W (tC v) (mC d) := fun F env σ G H Q Qm Em ok _ hm q => q (.f d) _ _ _ _ ok (Ex.refl G) (h G) hm
theorem de_int {i : Int} {j} : DE X Rs W (.Constant (.int i) j pos) (tC (.int i)) (mC (.int i)) := ⟨pe_int, sem_c fun _ => by rw [Rep]⟩
theorem de_bl {i : Bool} {j} : DE X Rs W (.Constant (.bool i) j pos) (tC (.bl i)) (mC (.bl i)) := ⟨pe_bl, sem_c fun _ => by rw [Rep]⟩
theorem de_non {j} : DE X Rs W (.Constant .none j pos) (tC .non) (mC .non) := ⟨pe_non, sem_c fun _ => by rw [Rep]⟩
theorem de_str {i : Str} {j} : DE X Rs W (.Constant (.str i) j pos) (tC (.str i)) (mC (.str i)) := ⟨pe_str, sem_c fun _ => by rw [Rep]⟩
/-- a module's constant -/
theorem de_glob {x : Str} {d : D} {v : V} {u : Value} (hg : Gl X x) (hm : X.mg x = some u) (r : RelV v u) (hr : ∀ G, Rep X.K G d v) (hd : (x == ("__debug__" : Str)) = false := by decide) : DE X Rs W (.Name x pos) (tC v) (mC d) := ⟨pe_glob hg hm r hd, sem_c hr⟩
/-- a name as it is -/
def oVar (i : Nat) : MO := fun env Q _ => (match env.getD i .u with | .u => False | _ => Q (.ref i) env)
theorem Ok.slot {K : PySem.W.Frag} {F : Fr} {env : En} {σ : L2.St} {G H : Hp} (ok : Ok K Rs F env σ G H) {i : Nat} {dv : DV} (h : env.getD i .u = dv) (hn : dv ≠ .u) : ∃ v, σ[i]? = some (some v) ∧ VarOk K F G H i dv (some v) := by
  have e := getD_some h hn
  have hi : i < σ.length := by rw [ok.len]; exact (List.getElem?_eq_some_iff.mp e).1
  have hv := ok.var i dv _ e (List.getElem?_eq_getElem hi)
  cases dv with
  | u => exact absurd rfl hn
  | f d =>
    obtain ⟨v, e1, e2⟩ := hv
    exact ⟨v, by rw [List.getElem?_eq_getElem hi, e1], v, rfl, e2⟩
  | o ds =>
    obtain ⟨q, vs, e1, e2⟩ := hv
    exact ⟨.ref q, by rw [List.getElem?_eq_getElem hi, e1], q, vs, rfl, e2⟩
  | od ks ds =>
    obtain ⟨q, vs, e1, e2⟩ := hv
    exact ⟨.ref q, by rw [List.getElem?_eq_getElem hi, e1], q, vs, rfl, e2⟩
theorem sem_ovar {K : PySem.W.Frag} {i : Nat} : SemO K Rs W (tVar i) (oVar i) := fun F env σ G H Q Qm Em ok _ hm q => by
  unfold oVar at hm
  split at hm
  · cases hm
  · rename_i dv hn
    obtain ⟨v, h1, _⟩ := ok.slot (i := i) rfl (fun z => hn z)
    exact ⟨v, h1, q (.ref i) _ _ _ _ ok (Ex.refl G) h1 hm⟩
theorem do_var (i : Nat) {x : Str} (hN : X.N[i]? = some x := by rfl) (hv : Vis X.env.scope x := by first | exact Or.inl rfl | exact Or.inr (Or.inl rfl) | exact Or.inr (Or.inr rfl)) (hd : (x == ("__debug__" : Str)) = false := by decide)
    (hcd : (x == ("__classdict__" : Str)) = false := by decide) : DO X Rs W (.Name x pos) (tVar i) (oVar i) := ⟨pe_var hN hv hd hcd, sem_ovar⟩
/-- any other expression as an operand: its value stays -/
def oVal (m : ME) : MO := fun env Q Em => m env (fun r e => fz r fun d => Q (.val d) e) Em
theorem do_val {m : ME} (h : DE X Rs W e t_h m) : DO X Rs W e t_h (oVal m) := by
  obtain ⟨h1, h2⟩ := h
  refine ⟨h1, fun F env σ G H Q Qm Em ok lk hm q => h2 F env σ G H Q _ Em ok lk hm fun r env' v G' H' ok' ex' rr hq => ?_⟩
  obtain ⟨d, G2, hd, e2, ok2, rd⟩ := ok'.freeze rr hq
  exact q (.val d) _ _ _ _ ok2 (ex'.trans e2) rd hd
/-- a name as a value: what it holds stays from then on -/
def mVar (i : Nat) : ME := fun env Q _ => match env.getD i .u with
  | .f d => Q (.f d) env
  | .o ds => Q (.f (.lst ds)) (env.set i (.f (.lst ds)))
  | .od ks ds => Q (.f (.dct ks ds)) (env.set i (.f (.dct ks ds)))
  | .u => False
theorem Ok.setF {K : PySem.W.Frag} {F : Fr} {env : En} {σ : L2.St} {G H : Hp} (ok : Ok K Rs F env σ G H) {i : Nat} {d : D} {v : V} (hv : σ[i]? = some (some v)) (hr : Rep K G d v) : Ok K Rs F (env.set i (.f d)) σ G H := by
  refine ⟨ok.sub, ok.fr, ok.nw, ok.g0, ok.rs, ok.rp, ok.rh, by rw [List.length_set]; exact ok.len, fun j dv x h1 h2 => ?_, fun j k p h1 h2 => ?_⟩
  · by_cases e : i = j
    · subst e
      have hi : i < env.length := by rw [← ok.len]; exact (List.getElem?_eq_some_iff.mp hv).1
      rw [List.getElem?_set_self hi] at h1; cases h1
      rw [hv] at h2; cases h2
      exact ⟨v, rfl, hr⟩
    · rw [List.getElem?_set_ne e] at h1
      exact ok.var j dv x h1 h2
  · have key : ∀ j, OwnAt (env.set i (.f d)) σ j p → OwnAt env σ j p := fun j ⟨dv, z1, z2, z3⟩ => by
      by_cases e : i = j
      · subst e
        have hi : i < env.length := by rw [← ok.len]; exact (List.getElem?_eq_some_iff.mp hv).1
        rw [List.getElem?_set_self hi] at z1; cases z1
        cases z2
      · rw [List.getElem?_set_ne e] at z1
        exact ⟨dv, z1, z2, z3⟩
    exact ok.dis j k p (key j h1) (key k h2)
theorem not_mine {F : Fr} {i : Nat} {p : Addr} (hi : i ∉ F.R.map (·.1)) (h : Mine F i p) : F.H0 p = none := by
  rcases h with h | h
  · exact absurd (List.mem_map.mpr ⟨_, h, rfl⟩) hi
  · exact h
/-- what a name alone holds stays from then on -/
theorem Ok.letgo {K : PySem.W.Frag} {F : Fr} {env : En} {σ : L2.St} {G H : Hp} (ok : Ok K Rs F env σ G H) {i : Nat} {p : Addr} {o : HO} {d : D} (hi : i ∉ Rs) (hv : OwnAt env σ i p) (hp : H p = some o) (hr : ∀ G', Ex G G' → G' p = some o → Rep K G' d (.ref p)) :
    ∃ G', Ex G G' ∧ Ok K Rs F (env.set i (.f d)) σ G' H ∧ Rep K G' d (.ref p) := by
  obtain ⟨hg, hm, _⟩ := ok.own hv
  have h0 := not_mine (by rw [ok.rs]; exact hi) hm
  obtain ⟨dv, hv1, hv2, hv3⟩ := hv
  have exg : Ex G (upd G p o) := Ex.new hg
  have hrep := hr _ exg upd_same
  have hil : i < env.length := (List.getElem?_eq_some_iff.mp hv1).1
  have key : ∀ j q, OwnAt (env.set i (.f d)) σ j q → OwnAt env σ j q ∧ j ≠ i := fun j q ⟨dw, z1, z2, z3⟩ => by
    by_cases e : i = j
    · subst e
      rw [List.getElem?_set_self hil] at z1; cases z1
      cases z2
    · rw [List.getElem?_set_ne e] at z1
      exact ⟨⟨dw, z1, z2, z3⟩, fun z => e z.symm⟩
  refine ⟨_, exg, ⟨fun a u q => ?_, ok.fr, fun a u q => ?_, ok.g0.trans exg, ok.rs, ok.rp, ok.rh, by rw [List.length_set]; exact ok.len, fun j dw x z1 z2 => ?_, fun j k q z1 z2 => ok.dis j k q (key j q z1).1 (key k q z2).1⟩, hrep⟩
  · by_cases e : a = p
    · subst e; rw [upd_same] at q; cases q; exact hp
    · rw [upd_ne e] at q; exact ok.sub a u q
  · by_cases e : a = p
    · subst e; exact .inr h0
    · rw [upd_ne e] at q; exact ok.nw a u q
  · by_cases e : i = j
    · subst e
      rw [List.getElem?_set_self hil] at z1; cases z1
      rw [hv3] at z2; cases z2
      exact ⟨_, rfl, hrep⟩
    · rw [List.getElem?_set_ne e] at z1
      refine (ok.var j dw x z1 z2).ext exg fun q u hx ho hq => ⟨hq, ?_⟩
      have ow : OwnAt env σ j q := ⟨dw, z1, ho, by rw [z2, hx]⟩
      have ne : q ≠ p := fun z => e (ok.dis i j p ⟨dv, hv1, hv2, hv3⟩ (z ▸ ow))
      rw [upd_ne ne]; exact (ok.own ow).1
theorem sem_var {K : PySem.W.Frag} {i : Nat} (hi : i ∉ Rs) : SemE K Rs W (tVar i) (mVar i) := fun F env σ G H Q Qm Em ok _ hm q => by
  unfold mVar at hm
  split at hm
  · rename_i d e
    obtain ⟨v, h1, v', h2, h3⟩ := ok.slot e (by simp)
    cases h2
    exact ⟨v, h1, q (.f d) _ _ _ _ ok (Ex.refl G) h3 hm⟩
  · rename_i ds e
    obtain ⟨v, h1, p, vs, h2, h3, h4, h5, h6⟩ := ok.slot e (by simp)
    cases h2
    obtain ⟨G', a1, a2, a3⟩ := ok.letgo hi ⟨_, getD_some e (by simp), rfl, h1⟩ h5 (d := .lst ds) fun G' e g => by
      rw [Rep]
      exact ⟨p, vs, rfl, g, Reps.mono e ds vs h6⟩
    exact ⟨_, h1, q (.f (.lst ds)) _ _ _ _ a2 a1 a3 hm⟩
  · rename_i ks ds e
    obtain ⟨v, h1, p, vs, h2, h3, h4, h5, h6, h7⟩ := ok.slot e (by simp)
    cases h2
    obtain ⟨G', a1, a2, a3⟩ := ok.letgo hi ⟨_, getD_some e (by simp), rfl, h1⟩ h5 (d := .dct ks ds) fun G' e g => by
      rw [Rep]
      exact ⟨p, vs, rfl, g, h6, Reps.mono e ds vs h7⟩
    exact ⟨_, h1, q (.f (.dct ks ds)) _ _ _ _ a2 a1 a3 hm⟩
  · cases hm
theorem de_var (i : Nat) {x : Str} (hi : i ∉ Rs := by decide) (hN : X.N[i]? = some x := by rfl) (hv : Vis X.env.scope x := by first | exact Or.inl rfl | exact Or.inr (Or.inl rfl) | exact Or.inr (Or.inr rfl)) (hd : (x == ("__debug__" : Str)) = false := by decide)
    (hcd : (x == ("__classdict__" : Str)) = false := by decide) : DE X Rs W (.Name x pos) (tVar i) (mVar i) := ⟨pe_var hN hv hd hcd, sem_var hi⟩
/-- a name whose list is given away (return x) -/
def mMove (i : Nat) : ME := fun env Q _ => match env.getD i .u with
  | .f d => Q (.f d) env
  | .o ds => Q (.o ds) (env.set i .u)
  | .od ks ds => Q (.od ks ds) (env.set i .u)
  | .u => False
theorem Ok.drop {K : PySem.W.Frag} {F : Fr} {env : En} {σ : L2.St} {G H : Hp} (ok : Ok K Rs F env σ G H) (i : Nat) : Ok K Rs F (env.set i .u) σ G H := by
  have key : ∀ j p, OwnAt (env.set i .u) σ j p → OwnAt env σ j p := fun j p ⟨dv, z1, z2, z3⟩ => by
    by_cases e : i = j
    · subst e
      by_cases hi : i < env.length
      · rw [List.getElem?_set_self hi] at z1; cases z1; cases z2
      · rw [List.getElem?_eq_none (by rw [List.length_set]; omega)] at z1; cases z1
    · rw [List.getElem?_set_ne e] at z1
      exact ⟨dv, z1, z2, z3⟩
  refine ⟨ok.sub, ok.fr, ok.nw, ok.g0, ok.rs, ok.rp, ok.rh, by rw [List.length_set]; exact ok.len, fun j dv x h1 h2 => ?_, fun j k p h1 h2 => ok.dis j k p (key j p h1) (key k p h2)⟩
  by_cases e : i = j
  · subst e
    by_cases hi : i < env.length
    · rw [List.getElem?_set_self hi] at h1; cases h1; trivial
    · rw [List.getElem?_eq_none (by rw [List.length_set]; omega)] at h1; cases h1
  · rw [List.getElem?_set_ne e] at h1
    exact ok.var j dv x h1 h2
theorem Ok.dropped {K : PySem.W.Frag} {F : Fr} {env : En} {σ : L2.St} {G H : Hp} (ok : Ok K Rs F env σ G H) {i : Nat} {p : Addr} (h : OwnAt env σ i p) : ∀ j, ¬ OwnAt (env.set i .u) σ j p := fun j ⟨dv, z1, z2, z3⟩ => by
  by_cases e : i = j
  · subst e
    obtain ⟨_, q, _, _⟩ := h
    have hi : i < env.length := (List.getElem?_eq_some_iff.mp q).1
    rw [List.getElem?_set_self hi] at z1; cases z1; cases z2
  · rw [List.getElem?_set_ne e] at z1
    exact e (ok.dis i j p h ⟨dv, z1, z2, z3⟩)
theorem sem_move {K : PySem.W.Frag} {i : Nat} (hi : i ∉ Rs) : SemE K Rs W (tVar i) (mMove i) := fun F env σ G H Q Qm Em ok _ hm q => by
  unfold mMove at hm
  split at hm
  · rename_i d e
    obtain ⟨v, h1, v', h2, h3⟩ := ok.slot e (by simp)
    cases h2
    exact ⟨v, h1, q (.f d) _ _ _ _ ok (Ex.refl G) h3 hm⟩
  · rename_i ds e
    obtain ⟨v, h1, p, vs, h2, h3, h4, h5, h6⟩ := ok.slot e (by simp)
    cases h2
    have ow : OwnAt env σ i p := ⟨_, getD_some e (by simp), rfl, h1⟩
    exact ⟨_, h1, q (.o ds) _ _ _ _ (ok.drop i) (Ex.refl G) ⟨p, vs, rfl, h3, not_mine (by rw [ok.rs]; exact hi) h4, h5, h6, ok.dropped ow⟩ hm⟩
  · rename_i ks ds e
    obtain ⟨v, h1, p, vs, h2, h3, h4, h5, h6, h7⟩ := ok.slot e (by simp)
    cases h2
    have ow : OwnAt env σ i p := ⟨_, getD_some e (by simp), rfl, h1⟩
    exact ⟨_, h1, q (.od ks ds) _ _ _ _ (ok.drop i) (Ex.refl G) ⟨p, vs, rfl, h3, not_mine (by rw [ok.rs]; exact hi) h4, h5, h6, h7, ok.dropped ow⟩ hm⟩
  · cases hm
theorem de_move (i : Nat) {x : Str} (hi : i ∉ Rs := by decide) (hN : X.N[i]? = some x := by rfl) (hv : Vis X.env.scope x := by first | exact Or.inl rfl | exact Or.inr (Or.inl rfl) | exact Or.inr (Or.inr rfl)) (hd : (x == ("__debug__" : Str)) = false := by decide)
    (hcd : (x == ("__classdict__" : Str)) = false := by decide) : DE X Rs W (.Name x pos) (tVar i) (mMove i) := ⟨pe_var hN hv hd hcd, sem_move hi⟩

/-! ### operators -/
abbrev Op2 := D → D → (DV → Prop) → Prop
def SemOp (K : PySem.W.Frag) (r : R2) (g : Op2) : Prop := ∀ (Rs : List Nat) (F : Fr) (env : En) (σ : L2.St) (G H : Hp) (x y : V) (d e : D) (Q : VK) (Qm : DV → Prop), Ok K Rs F env σ G H → View K G H d x → View K G H e y → g d e Qm →
  (∀ z v G' H', Ok K Rs F env σ G' H' → Ex G G' → RRep K F env σ G' H' z v → Qm z → Q v H') → r x y H Q
def mOp (g : Op2) (ma mb : MO) : ME := fun env Q Em => ma env (fun x e1 => mb e1 (fun y e2 => look e2 x fun d => look e2 y fun e => g d e fun z => Q z e2) Em) Em
theorem sem_op {K : PySem.W.Frag} {r : R2} {g : Op2} {ta tb : TE} (ho : SemOp K r g) (ha : SemO K Rs W ta ma) (hb : SemO K Rs W tb mb) : SemE K Rs W (tOp r ta tb) (mOp g ma mb) := fun F env σ G H Q Qm Em ok lk hm q =>
  ha F env σ G H _ _ Em ok lk hm fun x e1 v1 G1 H1 ok1 x1 r1 m1 => hb F e1 σ G1 H1 _ _ Em ok1 lk m1 fun y e2 v2 G2 H2 ok2 x2 r2 m2 => by
    obtain ⟨d, md, vd⟩ := ok2.look (r1.mono x2) m2
    obtain ⟨e, me, ve⟩ := ok2.look r2 md
    exact ho Rs F e2 σ G2 H2 v1 v2 d e Q _ ok2 vd ve me fun z v G3 H3 ok3 x3 rr mz => q z e2 v G3 H3 ok3 ((x1.trans x2).trans x3) rr mz
theorem de_op {op : Operator} {r : R2} {g : Op2} (ho : OpR X (binaryOp op) r) (hs : SemOp X.K r g) (ha : DO X Rs W a t_ha ma) (hb : DO X Rs W b t_hb mb) : DE X Rs W (.BinOp a op b pos) (tOp r t_ha t_hb) (mOp g ma mb) := by
  obtain ⟨a1, a2⟩ := ha
  obtain ⟨b1, b2⟩ := hb
  exact ⟨pe_op ho a1 b1, sem_op hs a2 b2⟩
theorem de_cmp {op : CmpOp} {r : R2} {g : Op2} (ho : OpR X (compareOp op) r) (hs : SemOp X.K r g) (ha : DO X Rs W a t_ha ma) (hb : DO X Rs W b t_hb mb) (hm : behindInMarks op b = false) : DE X Rs W (.Compare a [op] [b] pos) (tOp r t_ha t_hb) (mOp g ma mb) := by
  obtain ⟨a1, a2⟩ := ha
  obtain ⟨b1, b2⟩ := hb
  exact ⟨pe_cmpR ho a1 b1 hm, sem_op hs a2 b2⟩
/-- as a test -/
def bool_ (r : DV) (k : Bool → Prop) : Prop := match r with
  | .f (.bl b) => k b
  | _ => False
def tB' (m : ME) : MT := fun env Q Em => m env (fun r e => bool_ r fun b => Q b e) Em
theorem bool_rep {K : PySem.W.Frag} {F : Fr} {env : En} {σ : L2.St} {G H : Hp} {r : DV} {v : V} {k : Bool → Prop} (h : RRep K F env σ G H r v) (hk : bool_ r k) : ∃ b, v = .bl b ∧ k b := by
  unfold bool_ at hk
  split at hk
  · rename_i b
    have h : Rep K G (.bl b) v := h
    rw [Rep] at h
    exact ⟨b, h, hk⟩
  · cases hk
theorem sem_test {K : PySem.W.Frag} {t : TE} {m : ME} (h : SemE K Rs W t m) : SemT K Rs W (tTest t) (tB' m) := fun F env σ G H Q Qm Em ok lk hm q =>
  h F env σ G H _ _ Em ok lk hm fun r e1 v G1 H1 ok1 x1 rr mq => by
    obtain ⟨k, e, mk⟩ := bool_rep rr mq
    exact ⟨k, e, q k e1 G1 H1 ok1 x1 mk⟩
theorem dt_cmp {op : CmpOp} {r : R2} {g : Op2} (ho : OpR X (compareOp op) r) (hs : SemOp X.K r g) (ha : DO X Rs W a t_ha ma) (hb : DO X Rs W b t_hb mb) (hm : behindInMarks op b = false) : DT X Rs W (.Compare a [op] [b] pos) (tTest (tOp r t_ha t_hb)) (tB' (mOp g ma mb)) := by
  obtain ⟨a1, a2⟩ := ha
  obtain ⟨b1, b2⟩ := hb
  exact ⟨pt_cmpR ho a1 b1 hm, sem_test (sem_op hs a2 b2)⟩
/-- a < b < c -/
def mChain (g g' : Op2) (ma mb mc : MO) : ME := fun env Q Em => ma env (fun x e1 => mb e1 (fun y e2 => look e2 x fun d => look e2 y fun e => g d e fun z => bool_ z fun k =>
  if k = true then mc e2 (fun w e3 => look e3 y fun e' => look e3 w fun f => g' e' f fun z => Q z e3) Em else Q (.f (.bl false)) e2) Em) Em
theorem sem_chain {K : PySem.W.Frag} {r r' : R2} {g g' : Op2} {ta tb tc : TE} (ho : SemOp K r g) (ho' : SemOp K r' g') (ha : SemO K Rs W ta ma) (hb : SemO K Rs W tb mb) (hc : SemO K Rs W tc mc) : SemE K Rs W (tChain r r' ta tb tc) (mChain g g' ma mb mc) := fun F env σ G H Q Qm Em ok lk hm q =>
  ha F env σ G H _ _ Em ok lk hm fun x e1 v1 G1 H1 ok1 x1 r1 m1 => hb F e1 σ G1 H1 _ _ Em ok1 lk m1 fun y e2 v2 G2 H2 ok2 x2 r2 m2 => by
    obtain ⟨d, md, vd⟩ := ok2.look (r1.mono x2) m2
    obtain ⟨e, me, ve⟩ := ok2.look r2 md
    refine ho Rs F e2 σ G2 H2 v1 v2 d e _ _ ok2 vd ve me fun z v G3 H3 ok3 x3 rr mz => ?_
    obtain ⟨k, ek, mk⟩ := bool_rep rr mz
    refine ⟨k, ek, ?_⟩
    cases k with
    | false => exact q (.f (.bl false)) e2 _ G3 H3 ok3 ((x1.trans x2).trans x3) (show Rep K G3 (.bl false) (.bl false) by rw [Rep]) mk
    | true =>
      refine hc F e2 σ G3 H3 _ _ Em ok3 lk mk fun w e3 v3 G4 H4 ok4 x4 r4 m4 => ?_
      obtain ⟨d', md', vd'⟩ := ok4.look (r2.mono (x3.trans x4)) m4
      obtain ⟨f, mf, vf⟩ := ok4.look r4 md'
      exact ho' Rs F e3 σ G4 H4 v2 v3 d' f Q _ ok4 vd' vf mf fun z v G5 H5 ok5 x5 rr mz => q z e3 v G5 H5 ok5 (((x1.trans x2).trans x3).trans (x4.trans x5)) rr mz
theorem de_chain {op op' : CmpOp} {r r' : R2} {g g' : Op2} (ho : OpR X (compareOp op) r) (ho' : OpR X (compareOp op') r') (hs : SemOp X.K r g) (hs' : SemOp X.K r' g') (ha : DO X Rs W a t_ha ma) (hb : DO X Rs W b t_hb mb) (hc : DO X Rs W c t_hc mc)
    (hm : lastMarks [op, op'] [b, c] = false := by with_unfolding_all rfl) : DE X Rs W (.Compare a [op, op'] [b, c] pos) (tChain r r' t_ha t_hb t_hc) (mChain g g' ma mb mc) := by
  obtain ⟨a1, a2⟩ := ha
  obtain ⟨b1, b2⟩ := hb
  obtain ⟨c1, c2⟩ := hc
  exact ⟨pe_chain ho ho' a1 b1 c1 hm, sem_chain hs hs' a2 b2 c2⟩
theorem dt_chain {op op' : CmpOp} {r r' : R2} {g g' : Op2} (ho : OpR X (compareOp op) r) (ho' : OpR X (compareOp op') r') (hs : SemOp X.K r g) (hs' : SemOp X.K r' g') (ha : DO X Rs W a t_ha ma) (hb : DO X Rs W b t_hb mb) (hc : DO X Rs W c t_hc mc)
    (hm : lastMarks [op, op'] [b, c] = false := by with_unfolding_all rfl) : DT X Rs W (.Compare a [op, op'] [b, c] pos) (tTest (tChain r r' t_ha t_hb t_hc)) (tB' (mChain g g' ma mb mc)) := by
  obtain ⟨a1, a2⟩ := ha
  obtain ⟨b1, b2⟩ := hb
  obtain ⟨c1, c2⟩ := hc
  exact ⟨pt_chain ho ho' a1 b1 c1 hm, sem_test (sem_chain hs hs' a2 b2 c2)⟩
/-- one-place -/
abbrev Op1 := D → (DV → Prop) → Prop
def SemU (K : PySem.W.Frag) (r : V → Hp → VK → Prop) (g : Op1) : Prop := ∀ (Rs : List Nat) (F : Fr) (env : En) (σ : L2.St) (G H : Hp) (x : V) (d : D) (Q : VK) (Qm : DV → Prop), Ok K Rs F env σ G H → View K G H d x → g d Qm →
  (∀ z v G' H', Ok K Rs F env σ G' H' → Ex G G' → RRep K F env σ G' H' z v → Qm z → Q v H') → r x H Q
def mUn (g : Op1) (ma : MO) : ME := fun env Q Em => ma env (fun x e1 => look e1 x fun d => g d fun z => Q z e1) Em
theorem de_un {op : UnaryOp} {r : V → Hp → VK → Prop} {g : Op1} (ho : UnR X (unaryOp op) r) (hs : SemU X.K r g) (ha : DO X Rs W a t_ha ma) : DE X Rs W (.UnaryOp op a pos) (tUn r t_ha) (mUn g ma) := by
  obtain ⟨a1, a2⟩ := ha
  refine ⟨pe_un ho a1, fun F env σ G H Q Qm Em ok lk hm q => a2 F env σ G H _ _ Em ok lk hm fun x e1 v1 G1 H1 ok1 x1 r1 m1 => ?_⟩
  obtain ⟨d, md, vd⟩ := ok1.look r1 m1
  exact hs Rs F e1 σ G1 H1 v1 d Q _ ok1 vd md fun z v G3 H3 ok3 x3 rr mz => q z e1 v G3 H3 ok3 (x1.trans x3) rr mz
/-! ### tests -/
/-- a value's truth -/
def truth (d : D) (k : Bool → Prop) : Prop := match d with
  | .non => k false
  | .bl b => k b
  | .int i => k (i != 0)
  | .str y => y.length ≤ sizeLine ∧ k ((y.length : Int) != 0)
  | .lst ds => k (!ds.isEmpty)
  | .tup ds => k (!ds.isEmpty)
  | _ => False
theorem emp_reps {K : PySem.W.Frag} {G : Hp} {ds : List D} {vs : List V} (r : Reps K G ds vs) : (!vs.isEmpty) = !ds.isEmpty := by
  cases ds with
  | nil => rw [reps_nil.mp r]; rfl
  | cons d ds =>
    obtain ⟨v, ws, rfl, _, _⟩ := reps_cons.mp r
    rfl
theorem truth_rep {K : PySem.W.Frag} {G H : Hp} {d : D} {v : V} {k : Bool → Prop} (hs : Ex G H) (h : View K G H d v) (hk : truth d k) : ∃ b, TruV K v H b ∧ k b := by
  cases d with
  | non => have h : Rep K G .non v := h; rw [Rep] at h; subst h; exact ⟨false, rfl, hk⟩
  | bl b => have h : Rep K G (.bl b) v := h; rw [Rep] at h; subst h; exact ⟨b, rfl, hk⟩
  | int i => have h : Rep K G (.int i) v := h; rw [Rep] at h; subst h; exact ⟨_, rfl, hk⟩
  | str y => have h : Rep K G (.str y) v := h; rw [Rep] at h; subst h; exact ⟨_, ⟨hk.1, rfl⟩, hk.2⟩
  | lst ds =>
    obtain ⟨a, vs, rfl, h2, h3⟩ := h
    exact ⟨_, .inl ⟨vs, .of h2, rfl⟩, by rw [emp_reps h3]; exact hk⟩
  | tup ds =>
    have h : Rep K G (.tup ds) v := h
    rw [Rep] at h
    obtain ⟨a, vs, rfl, h2, h3⟩ := h
    exact ⟨_, .inr (.inl ⟨vs, .of (hs _ _ h2), rfl⟩), by rw [emp_reps h3]; exact hk⟩
  | _ => cases hk
def tTruth (K : PySem.W.Frag) (ta : TE) : TT := fun σ H Q => ta σ H fun x H' => ∃ k, TruV K x H' k ∧ Q k H'
def tTru (ma : MO) : MT := fun env Q Em => ma env (fun x e1 => look e1 x fun d => truth d fun b => Q b e1) Em
theorem dt_truth (ha : DO X Rs W a t_ha ma) (he : ∀ whole, isTrue a X.env whole = (do let v ← whole; standAt a.pos; holding [v] (truthy v)) := by intro _; rfl) : DT X Rs W a (tTruth X.K t_ha) (tTru ma) := by
  obtain ⟨a1, a2⟩ := ha
  refine ⟨pt_truth a1 he, fun F env σ G H Q Qm Em ok lk hm q => a2 F env σ G H _ _ Em ok lk hm fun x e1 v1 G1 H1 ok1 x1 r1 m1 => ?_⟩
  obtain ⟨d, md, vd⟩ := ok1.look r1 m1
  obtain ⟨b, hb, mb⟩ := truth_rep ok1.sub vd md
  exact ⟨b, hb, q b e1 G1 H1 ok1 x1 mb⟩
variable {rest : List Expr} {ta' tb' : MT}
def tAnd' (t u : MT) : MT := fun env Q Em => t env (fun c e1 => if c = true then u e1 Q Em else Q false e1) Em
def tOr' (t u : MT) : MT := fun env Q Em => t env (fun c e1 => if c = true then Q true e1 else u e1 Q Em) Em
def tNot' (t : MT) : MT := fun env Q Em => t env (fun c e1 => Q (!c) e1) Em
theorem DW.dt (h : DW X Rs W e t_h ta') : DT X Rs W e t_h ta' := let ⟨a, b⟩ := h; ⟨a.pt, b⟩
theorem dw_and1 (h : DT X Rs W a t_h ta') : DW X Rs W (.BoolOp .And [a] pos) t_h ta' := let ⟨a, b⟩ := h; ⟨pw_and1 a, b⟩
theorem dw_or1 (h : DT X Rs W a t_h ta') : DW X Rs W (.BoolOp .Or [a] pos) t_h ta' := let ⟨a, b⟩ := h; ⟨pw_or1 a, b⟩
theorem dw_and (ha : DT X Rs W a t_ha ta') (hb : DW X Rs W (.BoolOp .And (b :: rest) pos) t_hb tb') : DW X Rs W (.BoolOp .And (a :: b :: rest) pos) (tAnd t_ha t_hb) (tAnd' ta' tb') := by
  obtain ⟨a1, a2⟩ := ha
  obtain ⟨b1, b2⟩ := hb
  refine ⟨pw_and a1 b1, fun F env σ G H Q Qm Em ok lk hm q => a2 F env σ G H _ _ Em ok lk hm fun c e1 G1 H1 ok1 x1 m1 => ?_⟩
  cases c with
  | true => exact b2 F e1 σ G1 H1 _ _ Em ok1 lk m1 fun c e2 G2 H2 ok2 x2 m2 => q c e2 G2 H2 ok2 (x1.trans x2) m2
  | false => exact q false e1 G1 H1 ok1 x1 m1
theorem dw_or (ha : DT X Rs W a t_ha ta') (hb : DW X Rs W (.BoolOp .Or (b :: rest) pos) t_hb tb') : DW X Rs W (.BoolOp .Or (a :: b :: rest) pos) (tOr t_ha t_hb) (tOr' ta' tb') := by
  obtain ⟨a1, a2⟩ := ha
  obtain ⟨b1, b2⟩ := hb
  refine ⟨pw_or a1 b1, fun F env σ G H Q Qm Em ok lk hm q => a2 F env σ G H _ _ Em ok lk hm fun c e1 G1 H1 ok1 x1 m1 => ?_⟩
  cases c with
  | false => exact b2 F e1 σ G1 H1 _ _ Em ok1 lk m1 fun c e2 G2 H2 ok2 x2 m2 => q c e2 G2 H2 ok2 (x1.trans x2) m2
  | true => exact q true e1 G1 H1 ok1 x1 m1
theorem dt_not (h : DT X Rs W a t_h ta') : DT X Rs W (.UnaryOp .Not a pos) (tNot t_h) (tNot' ta') := by
  obtain ⟨a1, a2⟩ := h
  exact ⟨pt_not a1, fun F env σ G H Q Qm Em ok lk hm q => a2 F env σ G H _ _ Em ok lk hm fun c e1 G1 H1 ok1 x1 m1 => q (!c) e1 G1 H1 ok1 x1 m1⟩
/-! ### and, or, not as values (bools but for the last) -/
def mAnd (ma mb : ME) : ME := fun env Q Em => ma env (fun r e1 => bool_ r fun c => if c = true then mb e1 Q Em else Q (.f (.bl false)) e1) Em
def mOr (ma mb : ME) : ME := fun env Q Em => ma env (fun r e1 => bool_ r fun c => if c = true then Q (.f (.bl true)) e1 else mb e1 Q Em) Em
def mNot (ma : ME) : ME := fun env Q Em => ma env (fun r e1 => bool_ r fun c => Q (.f (.bl (!c))) e1) Em
variable {na nb : ME}
theorem de_one {op} (h : DE X Rs W a t_h na) : DE X Rs W (.BoolOp op [a] pos) t_h na := let ⟨a, b⟩ := h; ⟨pe_one a, b⟩
theorem de_and (ha : DE X Rs W a t_ha na) (hb : DE X Rs W (.BoolOp .And (b :: rest) pos) t_hb nb) : DE X Rs W (.BoolOp .And (a :: b :: rest) pos) (tAndV t_ha t_hb) (mAnd na nb) := by
  obtain ⟨a1, a2⟩ := ha
  obtain ⟨b1, b2⟩ := hb
  refine ⟨pe_and a1 b1, fun F env σ G H Q Qm Em ok lk hm q => a2 F env σ G H _ _ Em ok lk hm fun r e1 v1 G1 H1 ok1 x1 rr m1 => ?_⟩
  obtain ⟨c, e, mc⟩ := bool_rep rr m1
  refine ⟨c, e, ?_⟩
  cases c with
  | true => exact b2 F e1 σ G1 H1 _ _ Em ok1 lk mc fun z e2 v G2 H2 ok2 x2 r2 m2 => q z e2 v G2 H2 ok2 (x1.trans x2) r2 m2
  | false => exact q (.f (.bl false)) e1 _ G1 H1 ok1 x1 (show Rep X.K G1 (.bl false) (.bl false) by rw [Rep]) mc
theorem de_or (ha : DE X Rs W a t_ha na) (hb : DE X Rs W (.BoolOp .Or (b :: rest) pos) t_hb nb) : DE X Rs W (.BoolOp .Or (a :: b :: rest) pos) (tOrV t_ha t_hb) (mOr na nb) := by
  obtain ⟨a1, a2⟩ := ha
  obtain ⟨b1, b2⟩ := hb
  refine ⟨pe_or a1 b1, fun F env σ G H Q Qm Em ok lk hm q => a2 F env σ G H _ _ Em ok lk hm fun r e1 v1 G1 H1 ok1 x1 rr m1 => ?_⟩
  obtain ⟨c, e, mc⟩ := bool_rep rr m1
  refine ⟨c, e, ?_⟩
  cases c with
  | false => exact b2 F e1 σ G1 H1 _ _ Em ok1 lk mc fun z e2 v G2 H2 ok2 x2 r2 m2 => q z e2 v G2 H2 ok2 (x1.trans x2) r2 m2
  | true => exact q (.f (.bl true)) e1 _ G1 H1 ok1 x1 (show Rep X.K G1 (.bl true) (.bl true) by rw [Rep]) mc
theorem de_not (ha : DE X Rs W a t_ha na) : DE X Rs W (.UnaryOp .Not a pos) (tNotV t_ha) (mNot na) := by
  obtain ⟨a1, a2⟩ := ha
  refine ⟨pe_not a1, fun F env σ G H Q Qm Em ok lk hm q => a2 F env σ G H _ _ Em ok lk hm fun r e1 v1 G1 H1 ok1 x1 rr m1 => ?_⟩
  obtain ⟨c, e, mc⟩ := bool_rep rr m1
  exact ⟨c, e, q (.f (.bl (!c))) e1 _ G1 H1 ok1 x1 (show Rep X.K G1 (.bl (!c)) (.bl (!c)) by rw [Rep]) mc⟩
/-- a if t else b -/
def mIf (t : MT) (ma mb : ME) : ME := fun env Q Em => t env (fun c e1 => if c = true then ma e1 Q Em else mb e1 Q Em) Em
theorem de_if (hc : DT X Rs W c t_hc ta') (ha : DE X Rs W a t_ha na) (hb : DE X Rs W b t_hb nb) : DE X Rs W (.IfExp c a b pos) (tIf t_hc t_ha t_hb) (mIf ta' na nb) := by
  obtain ⟨t1, t2⟩ := hc
  obtain ⟨a1, a2⟩ := ha
  obtain ⟨b1, b2⟩ := hb
  refine ⟨pe_ifExp t1 a1 b1, fun F env σ G H Q Qm Em ok lk hm q => t2 F env σ G H _ _ Em ok lk hm fun c e1 G1 H1 ok1 x1 m1 => ?_⟩
  cases c with
  | true => exact a2 F e1 σ G1 H1 _ _ Em ok1 lk m1 fun z e2 v G2 H2 ok2 x2 r2 m2 => q z e2 v G2 H2 ok2 (x1.trans x2) r2 m2
  | false => exact b2 F e1 σ G1 H1 _ _ Em ok1 lk m1 fun z e2 v G2 H2 ok2 x2 r2 m2 => q z e2 v G2 H2 ok2 (x1.trans x2) r2 m2
/-! ### arguments, displays -/
variable {es : List Expr} {mas : MA}
def aNil : MA := fun env Q _ => Q [] env
def aCons (ma : MO) (mr : MA) : MA := fun env Q Em => ma env (fun x e1 => mr e1 (fun xs e2 => Q (x :: xs) e2) Em) Em
theorem da_nil : DA X Rs W [] tNil aNil := ⟨pa_nil, fun F env σ G H Q Qm Em ok lk hm q => q [] _ _ _ _ ok (Ex.refl G) rfl hm⟩
theorem da_cons (ha : DO X Rs W e t_ha ma) (hr : DA X Rs W es t_hr mas) (hs : starEach (e :: es) X.env = (false, eval e X.env) :: starEach es X.env := by rfl) : DA X Rs W (e :: es) (tCons t_ha t_hr) (aCons ma mas) := by
  obtain ⟨a1, a2⟩ := ha
  obtain ⟨b1, b2⟩ := hr
  exact ⟨pa_cons a1 b1 hs, fun F env σ G H Q Qm Em ok lk hm q => a2 F env σ G H _ _ Em ok lk hm fun x e1 v1 G1 H1 ok1 x1 r1 m1 => b2 F e1 σ G1 H1 _ _ Em ok1 lk m1 fun xs e2 vs G2 H2 ok2 x2 r2 m2 =>
    q (x :: xs) e2 _ G2 H2 ok2 (x1.trans x2) ⟨v1, vs, rfl, r1.mono x2, r2⟩ m2⟩
def allV : List Arg → (List D → Prop) → Prop
  | [], k => k []
  | .val d :: as, k => allV as fun ds => k (d :: ds)
  | .ref _ :: _, _ => False
theorem allV_rep {K : PySem.W.Frag} {G : Hp} {σ : L2.St} : ∀ {as : List Arg} {vs : List V} {k : List D → Prop}, ArgsRep K G σ as vs → allV as k → ∃ ds, k ds ∧ Reps K G ds vs
  | [], _, _, h, hk => ⟨[], hk, reps_nil.mpr h⟩
  | .val d :: as, _, k, ⟨v, ws, e, h1, h2⟩, hk => by
    obtain ⟨ds, a1, a2⟩ := allV_rep (as := as) h2 hk
    exact ⟨d :: ds, a1, reps_cons.mpr ⟨v, ws, e, h1, a2⟩⟩
  | .ref _ :: _, _, _, _, hk => hk.elim
def mTup (ma : MA) : ME := fun env Q Em => ma env (fun as e1 => allV as fun ds => ds.length ≤ sizeLine ∧ Q (.f (.tup ds)) e1) Em
def mLst (ma : MA) : ME := fun env Q Em => ma env (fun as e1 => allV as fun ds => ds.length ≤ sizeLine ∧ Q (.o ds) e1) Em
theorem de_tup {k} (ha : DA X Rs W es t_ha mas) : DE X Rs W (.Tuple es k pos) (tTup t_ha) (mTup mas) := by
  obtain ⟨a1, a2⟩ := ha
  refine ⟨pe_tup a1, fun F env σ G H Q Qm Em ok lk hm q => a2 F env σ G H _ _ Em ok lk hm fun as e1 vs G1 H1 ok1 x1 r1 m1 => ?_⟩
  obtain ⟨ds, md, rd⟩ := allV_rep r1 m1
  refine ⟨by rw [rd.length]; exact md.1, fun p hp => ?_⟩
  obtain ⟨G2, x2, ok2, rr⟩ := ok1.rtup hp rd
  exact q (.f (.tup ds)) e1 _ G2 _ ok2 (x1.trans x2) rr md.2
theorem de_lst (ha : DA X Rs W es t_ha mas) : DE X Rs W (.List es pos) (tLst t_ha) (mLst mas) := by
  obtain ⟨a1, a2⟩ := ha
  refine ⟨pe_lst a1, fun F env σ G H Q Qm Em ok lk hm q => a2 F env σ G H _ _ Em ok lk hm fun as e1 vs G1 H1 ok1 x1 r1 m1 => ?_⟩
  obtain ⟨ds, md, rd⟩ := allV_rep r1 m1
  refine ⟨by rw [rd.length]; exact md.1, fun p hp => ?_⟩
  obtain ⟨ok2, rr⟩ := ok1.rlst hp rd
  exact q (.o ds) e1 _ G1 _ ok2 x1 rr md.2
end
end VL
/-! VL: statements, loops, comprehensions. -/
namespace VL
open PySem PySem.Spec PyProof.Rows L2

section
variable {K : PySem.W.Frag} {Rs : List Nat} {F : Fr} {env : En} {σ : L2.St} {G G' H H' : Hp}
/-! ### a pending object is protected -/
open Classical in
/-- the frame as seen by a part of the body: what stands now and is no name's own stays as it is -/
noncomputable def Fr.now (F : Fr) (env : En) (σ : L2.St) (G H : Hp) : Fr := ⟨fun a => if ∃ i, i ∉ F.R.map (·.1) ∧ OwnAt env σ i a then none else H a, G, F.R⟩
theorem now_R : (F.now env σ G H).R = F.R := rfl
theorem now_G : (F.now env σ G H).G0 = G := rfl
theorem now_some {a : Addr} (h : ¬ ∃ i, i ∉ F.R.map (·.1) ∧ OwnAt env σ i a) : (F.now env σ G H).H0 a = H a := if_neg h
theorem now_none {a : Addr} (h : ∃ i, i ∉ F.R.map (·.1) ∧ OwnAt env σ i a) : (F.now env σ G H).H0 a = none := if_pos h
theorem now_cases (a : Addr) : (∃ i, i ∉ F.R.map (·.1) ∧ OwnAt env σ i a) ∧ (F.now env σ G H).H0 a = none ∨ (F.now env σ G H).H0 a = H a := by
  by_cases h : ∃ i, i ∉ F.R.map (·.1) ∧ OwnAt env σ i a
  · exact .inl ⟨h, now_none h⟩
  · exact .inr (now_some h)
theorem Ok.toNow (ok : Ok K Rs F env σ G H) : Ok K Rs (F.now env σ G H) env σ G H := by
  refine ⟨ok.sub, fun a o h hn => ?_, fun a o h => .inl h, Ex.refl G, ok.rs, ok.rp, fun i a h => ?_, ok.len, fun i dv x h1 h2 => ?_, ok.dis⟩
  · rcases now_cases (F := F) (env := env) (σ := σ) (G := G) (H := H) a with ⟨_, z⟩ | z
    · rw [z] at h; cases h
    · rw [z] at h; exact h
  · rw [now_some fun ⟨j, hj, w⟩ => ok.rh i a h (not_mine hj (ok.own w).2.1)]
    exact (ok.rp i a h).2
  · have hv := ok.var i dv x h1 h2
    have mine : ∀ p, dv.own = true → x = some (.ref p) → Mine F i p → Mine (F.now env σ G H) i p := fun p ho hx hm => by
      by_cases hi : i ∈ F.R.map (·.1)
      · rcases hm with hm | hm
        · exact .inl hm
        · obtain ⟨⟨j, b⟩, hj, e⟩ := List.mem_map.mp hi
          simp only at e; subst e
          have := (ok.rp j b hj).1
          rw [h2, hx] at this
          cases this
          exact .inl hj
      · exact .inr (now_none ⟨i, hi, dv, h1, ho, by rw [h2, hx]⟩)
    cases dv with
    | u => trivial
    | f d => exact hv
    | o ds =>
      obtain ⟨p, vs, e, a1, a2, a3, a4⟩ := hv
      exact ⟨p, vs, e, a1, mine p rfl e a2, a3, a4⟩
    | od ks ds =>
      obtain ⟨p, vs, e, a1, a2, a3, a4⟩ := hv
      exact ⟨p, vs, e, a1, mine p rfl e a2, a3, a4⟩
/-- back to the frame -/
theorem Ok.ofNow {env' : En} {σ' : L2.St} (ok0 : Ok K Rs F env σ G H) (ok : Ok K Rs (F.now env σ G H) env' σ' G' H') : Ok K Rs F env' σ' G' H' := by
  have h0 : ∀ a, (∃ i, i ∉ F.R.map (·.1) ∧ OwnAt env σ i a) → F.H0 a = none := fun a ⟨i, hi, ow⟩ => not_mine hi (ok0.own ow).2.1
  have free : ∀ a, (F.now env σ G H).H0 a = none → F.H0 a = none := fun a z => by
    rcases now_cases (F := F) (env := env) (σ := σ) (G := G) (H := H) a with ⟨w, _⟩ | w
    · exact h0 a w
    · exact ok0.fresh (w ▸ z)
  refine ⟨ok.sub, fun a o h hn => ?_, fun a o h => ?_, ok0.g0.trans ok.g0, ok.rs, ok.rp, ok0.rh, ok.len, fun i dv x h1 h2 => ?_, ok.dis⟩
  · have hH := ok0.fr a o h hn
    refine ok.fr a o ?_ hn
    rw [now_some fun z => by rw [h0 a z] at h; cases h]
    exact hH
  · rcases ok.nw a o h with z | z
    · exact ok0.nw a o z
    · exact .inr (free a z)
  · have hv := ok.var i dv x h1 h2
    have mine : ∀ p, Mine (F.now env σ G H) i p → Mine F i p := fun p hm => by
      rcases hm with hm | hm
      · exact .inl hm
      · exact .inr (free p hm)
    cases dv with
    | u => trivial
    | f d => exact hv
    | o ds =>
      obtain ⟨p, vs, e, a1, a2, a3, a4⟩ := hv
      exact ⟨p, vs, e, a1, mine p a2, a3, a4⟩
    | od ks ds =>
      obtain ⟨p, vs, e, a1, a2, a3, a4⟩ := hv
      exact ⟨p, vs, e, a1, mine p a2, a3, a4⟩
/-- a result under the part's frame is one under the frame -/
theorem RRep.ofNow {env' : En} {σ' : L2.St} {r : DV} {v : V} (ok0 : Ok K Rs F env σ G H) (ok : Ok K Rs (F.now env σ G H) env' σ' G' H') (h : RRep K (F.now env σ G H) env' σ' G' H' r v) : RRep K F env' σ' G' H' r v := by
  have h0 : ∀ a, (∃ i, i ∉ F.R.map (·.1) ∧ OwnAt env σ i a) → F.H0 a = none := fun a ⟨i, hi, ow⟩ => not_mine hi (ok0.own ow).2.1
  have free : ∀ a, (F.now env σ G H).H0 a = none → F.H0 a = none := fun a z => by
    rcases now_cases (F := F) (env := env) (σ := σ) (G := G) (H := H) a with ⟨w, _⟩ | w
    · exact h0 a w
    · exact ok0.fresh (w ▸ z)
  cases r with
  | u => exact h
  | f d => exact h
  | o ds =>
    obtain ⟨p, vs, e, a1, a2, a3⟩ := h
    exact ⟨p, vs, e, a1, free p a2, a3⟩
  | od ks ds =>
    obtain ⟨p, vs, e, a1, a2, a3⟩ := h
    exact ⟨p, vs, e, a1, free p a2, a3⟩
theorem Link.toNow {W : WX} {Em : EmT} (ok0 : Ok K Rs F env σ G H) (l : Link K Rs F W Em) : Link K Rs (F.now env σ G H) W Em := fun e env' σ' G' H' cls d ok h1 h2 => l e env' σ' G' H' cls d (ok0.ofNow ok) h1 h2
/-- what is pending at p is still there -/
theorem Ok.pend {env' : En} {σ' : L2.St} {p : Addr} {o : HO} (ok0 : Ok K Rs F env σ G H) (hp : H p = some o) (hg : G p = none) (h0 : F.H0 p = none) (hn : ∀ i, ¬ OwnAt env σ i p) (ok : Ok K Rs (F.now env σ G H) env' σ' G' H') :
    H' p = some o ∧ G' p = none ∧ ∀ i, ¬ OwnAt env' σ' i p := by
  have hr : ∀ i, (i, p) ∉ F.R := fun i h => ok0.rh i p h h0
  have e0 : (F.now env σ G H).H0 p = some o := by rw [now_some fun ⟨i, _, w⟩ => hn i w]; exact hp
  refine ⟨ok.fr p o e0 fun hm => ?_, ?_, fun i w => ?_⟩
  · obtain ⟨⟨i, b⟩, hm2, e⟩ := List.mem_map.mp hm
    simp only at e; subst e
    exact hr i hm2
  · cases q : G' p with
    | none => rfl
    | some u =>
      rcases ok.nw p u q with z | z
      · rw [show (F.now env σ G H).G0 = G from rfl, hg] at z; cases z
      · rw [e0] at z; cases z
  · rcases (ok.own w).2.1 with z | z
    · exact hr i z
    · rw [e0] at z; cases z
end

/-! ### statements -/
structure MEnds where
  nx : En → Prop
  rt : DV → En → Prop
  bk : En → Prop := fun _ => False
  ct : En → Prop := fun _ => False
abbrev MS := MEnds → EmT → En → Prop
structure ELink (K : PySem.W.Frag) (Rs : List Nat) (F : Fr) (G : Hp) (D : Ends) (M : MEnds) : Prop where
  nx : ∀ env σ G' H, Ok K Rs F env σ G' H → Ex G G' → M.nx env → D.nx σ H
  rt : ∀ r env σ v G' H, Ok K Rs F env σ G' H → Ex G G' → RRep K F env σ G' H r v → M.rt r env → D.rt v H
  bk : ∀ env σ G' H, Ok K Rs F env σ G' H → Ex G G' → M.bk env → D.bk σ H
  ct : ∀ env σ G' H, Ok K Rs F env σ G' H → Ex G G' → M.ct env → D.ct σ H
theorem ELink.mono {K : PySem.W.Frag} {Rs : List Nat} {F : Fr} {G G' : Hp} {D : Ends} {M : MEnds} (l : ELink K Rs F G D M) (e : Ex G G') : ELink K Rs F G' D M :=
  ⟨fun env σ G2 H ok x => l.nx env σ G2 H ok (e.trans x), fun r env σ v G2 H ok x => l.rt r env σ v G2 H ok (e.trans x), fun env σ G2 H ok x => l.bk env σ G2 H ok (e.trans x), fun env σ G2 H ok x => l.ct env σ G2 H ok (e.trans x)⟩
def SemS (K : PySem.W.Frag) (Rs : List Nat) (W : WX) (t : TS) (m : MS) : Prop := ∀ (F : Fr) (env : En) (σ : L2.St) (G H : Hp) (D : Ends) (M : MEnds) (Em : EmT), Ok K Rs F env σ G H → Link K Rs F W Em → ELink K Rs F G D M → m M Em env → t D σ H
structure DS (X : Cx) (Rs : List Nat) (W : WX) (st : Stmt) (t : TS) (m : MS) : Prop where
  p : PS X st t
  s : SemS X.K Rs W t m
structure DSs (X : Cx) (Rs : List Nat) (W : WX) (sts : List Stmt) (t : TS) (m : MS) : Prop where
  p : PSs X sts t
  s : SemS X.K Rs W t m
section
variable {X : Cx} {Rs : List Nat} {W : WX} {st : Stmt} {rest : List Stmt} {e a b c o i : Expr} {pos p : Pos} {m m1 m2 : MS} {me : ME} {mt : MT}
def mNext : MS := fun M _ env => M.nx env
def mSeq (m1 m2 : MS) : MS := fun M Em env => m1 ⟨fun e => m2 M Em e, M.rt, M.bk, M.ct⟩ Em env
theorem sem_seq {K : PySem.W.Frag} {t u : TS} (h1 : SemS K Rs W t m1) (h2 : SemS K Rs W u m2) : SemS K Rs W (tSeq t u) (mSeq m1 m2) := fun F env σ G H D M Em ok lk el hm =>
  h1 F env σ G H _ ⟨fun e => m2 M Em e, M.rt, M.bk, M.ct⟩ Em ok lk ⟨fun env' σ' G' H' ok' x hn => h2 F env' σ' G' H' D M Em ok' lk (el.mono x) hn, el.rt, el.bk, el.ct⟩ hm
theorem dss_nil : DSs X Rs W [] tNext mNext := ⟨pss_nil, fun F env σ G H D M Em ok lk el hm => el.nx env σ G H ok (Ex.refl G) hm⟩
theorem dss_one (h : DS X Rs W st t_h m) : DSs X Rs W [st] t_h m := let ⟨a, b⟩ := h; ⟨pss_one a, b⟩
theorem dss_cons (h1 : DS X Rs W st t_h1 m1) (h2 : DSs X Rs W rest t_h2 m2) : DSs X Rs W (st :: rest) (tSeq t_h1 t_h2) (mSeq m1 m2) := by
  obtain ⟨a1, a2⟩ := h1
  obtain ⟨b1, b2⟩ := h2
  exact ⟨pss_cons a1 b1, sem_seq a2 b2⟩
theorem ds_pass : DS X Rs W (.Pass pos) tNext mNext := ⟨ps_pass, fun F env σ G H D M Em ok lk el hm => el.nx env σ G H ok (Ex.refl G) hm⟩
def mBreak : MS := fun M _ env => M.bk env
def mCont : MS := fun M _ env => M.ct env
theorem ds_break : DS X Rs W (.Break pos) tBreak mBreak := ⟨ps_break, fun F env σ G H D M Em ok lk el hm => el.bk env σ G H ok (Ex.refl G) hm⟩
theorem ds_continue : DS X Rs W (.Continue pos) tCont mCont := ⟨ps_continue, fun F env σ G H D M Em ok lk el hm => el.ct env σ G H ok (Ex.refl G) hm⟩
def mNever : MS := fun _ _ _ => False
theorem ds_never : DS X Rs W st tNever mNever := ⟨ps_never, fun F env σ G H D M Em ok lk el hm => hm.elim⟩
theorem dss_never {sts : List Stmt} : DSs X Rs W sts tNever mNever := ⟨pss_never, fun F env σ G H D M Em ok lk el hm => hm.elim⟩
def mRet (me : ME) : MS := fun M Em env => me env (fun r e1 => M.rt r e1) Em
theorem ds_ret (h : DE X Rs W e t_h me) : DS X Rs W (.Return (some e) pos) (tRet t_h) (mRet me) := by
  obtain ⟨a1, a2⟩ := h
  exact ⟨ps_ret a1, fun F env σ G H D M Em ok lk el hm => a2 F env σ G H _ _ Em ok lk hm fun r e1 v G1 H1 ok1 x1 rr mr => el.rt r e1 σ v G1 H1 ok1 x1 rr mr⟩
def mRetN : MS := fun M _ env => M.rt (.f .non) env
theorem ds_retN : DS X Rs W (.Return none pos) tRetN mRetN := ⟨ps_retN, fun F env σ G H D M Em ok lk el hm => el.rt (.f .non) env σ _ G H ok (Ex.refl G) (show Rep X.K G .non .non by rw [Rep]) hm⟩
def mDrop (me : ME) : MS := fun M Em env => me env (fun _ e1 => M.nx e1) Em
theorem ds_expr (h : DE X Rs W e t_h me) (hs : swapsWith e none pos.line X.env = pure false := by rfl) : DS X Rs W (.Expr e pos) (tDrop t_h) (mDrop me) := by
  obtain ⟨a1, a2⟩ := h
  exact ⟨ps_expr a1 hs, fun F env σ G H D M Em ok lk el hm => a2 F env σ G H _ _ Em ok lk hm fun r e1 v G1 H1 ok1 x1 rr mr => el.nx e1 σ G1 H1 ok1 x1 mr⟩
def mIfS (mt : MT) (m1 m2 : MS) : MS := fun M Em env => mt env (fun c e1 => if c = true then m1 M Em e1 else m2 M Em e1) Em
theorem ds_if {sa sb : List Stmt} (hc : DT X Rs W c t_hc mt) (ha : DSs X Rs W sa t_ha m1) (hb : DSs X Rs W sb t_hb m2) : DS X Rs W (.If c sa sb pos) (tIfS t_hc t_ha t_hb) (mIfS mt m1 m2) := by
  obtain ⟨a1, a2⟩ := hc
  obtain ⟨b1, b2⟩ := ha
  obtain ⟨c1, c2⟩ := hb
  refine ⟨ps_if a1 b1 c1, fun F env σ G H D M Em ok lk el hm => a2 F env σ G H _ _ Em ok lk hm fun k e1 G1 H1 ok1 x1 mk => ?_⟩
  cases k with
  | true => exact b2 F e1 σ G1 H1 D M Em ok1 lk (el.mono x1) mk
  | false => exact c2 F e1 σ G1 H1 D M Em ok1 lk (el.mono x1) mk

/-! ### stores -/
theorem set_ne {α : Type} {l : List α} {i j : Nat} {x y : α} (e : i ≠ j) (h : (l.set i x)[j]? = some y) : l[j]? = some y := by rw [List.getElem?_set_ne e] at h; exact h
theorem set_eq {α : Type} {l : List α} {i : Nat} {x y : α} (h : (l.set i x)[i]? = some y) : y = x ∧ i < l.length := by
  by_cases hi : i < l.length
  · rw [List.getElem?_set_self hi] at h; cases h; exact ⟨rfl, hi⟩
  · rw [List.getElem?_eq_none (by rw [List.length_set]; omega)] at h; cases h
/-- a name stored -/
theorem Ok.store {K : PySem.W.Frag} {F : Fr} {env : En} {σ : L2.St} {G H : Hp} (ok : Ok K Rs F env σ G H) {i : Nat} (hi : i ∉ Rs) {r : DV} {v : V} (rr : RRep K F env σ G H r v) : Ok K Rs F (env.set i r) (σ.set i (some v)) G H := by
  have rown : ∀ p, r.own = true → v = .ref p → G p = none ∧ F.H0 p = none ∧ ∀ j, ¬ OwnAt env σ j p := fun p h e => by
    cases r with
    | u => cases h
    | f d => cases h
    | o ds =>
      obtain ⟨q, vs, e1, h1, h2, _, _, h3⟩ := rr
      rw [e] at e1; cases e1
      exact ⟨h1, h2, h3⟩
    | od ks ds =>
      obtain ⟨q, vs, e1, h1, h2, _, _, _, h3⟩ := rr
      rw [e] at e1; cases e1
      exact ⟨h1, h2, h3⟩
  have key : ∀ j p, OwnAt (env.set i r) (σ.set i (some v)) j p → (j = i ∧ r.own = true ∧ v = .ref p) ∨ (j ≠ i ∧ OwnAt env σ j p) := fun j p ⟨dv, z1, z2, z3⟩ => by
    by_cases e : i = j
    · subst e
      obtain ⟨e1, _⟩ := set_eq z1
      obtain ⟨e2, _⟩ := set_eq z3
      subst e1
      exact .inl ⟨rfl, z2, (Option.some.inj e2).symm⟩
    · exact .inr ⟨Ne.symm e, dv, set_ne e z1, z2, set_ne e z3⟩
  refine ⟨ok.sub, ok.fr, ok.nw, ok.g0, ok.rs, fun j q h => ⟨?_, (ok.rp j q h).2⟩, ok.rh, by rw [List.length_set, List.length_set]; exact ok.len, fun j dv x h1 h2 => ?_, fun j k q h1 h2 => ?_⟩
  · have e : i ≠ j := fun z => hi (by rw [← ok.rs]; exact List.mem_map.mpr ⟨_, h, z.symm⟩)
    rw [List.getElem?_set_ne e]; exact (ok.rp j q h).1
  · by_cases e : i = j
    · subst e
      obtain ⟨e1, _⟩ := set_eq h1
      obtain ⟨e2, _⟩ := set_eq h2
      subst e1 e2
      cases dv with
      | u => trivial
      | f d => exact ⟨v, rfl, rr⟩
      | o ds =>
        obtain ⟨q, vs, e1, a1, a2, a3, a4, _⟩ := rr
        exact ⟨q, vs, by rw [e1], a1, .inr a2, a3, a4⟩
      | od ks ds =>
        obtain ⟨q, vs, e1, a1, a2, a3, a4, a5, _⟩ := rr
        exact ⟨q, vs, by rw [e1], a1, .inr a2, a3, a4, a5⟩
    · exact ok.var j dv x (set_ne e h1) (set_ne e h2)
  · rcases key j q h1 with ⟨e1, o1, v1⟩ | ⟨n1, w1⟩
    · rcases key k q h2 with ⟨e2, _, _⟩ | ⟨n2, w2⟩
      · rw [e1, e2]
      · exact absurd w2 ((rown q o1 v1).2.2 k)
    · rcases key k q h2 with ⟨e2, o2, v2⟩ | ⟨n2, w2⟩
      · exact absurd w1 ((rown q o2 v2).2.2 j)
      · exact ok.dis j k q w1 w2
def mSet (i : Nat) (me : ME) : MS := fun M Em env => me env (fun r e1 => M.nx (e1.set i r)) Em
theorem sem_set {K : PySem.W.Frag} {t : TE} {i : Nat} (hi : i ∉ Rs) (h : SemE K Rs W t me) : SemS K Rs W (tAsg t (gName i)) (mSet i me) := fun F env σ G H D M Em ok lk el hm =>
  h F env σ G H _ _ Em ok lk hm fun r e1 v G1 H1 ok1 x1 rr mr => el.nx _ _ G1 H1 (ok1.store hi rr) x1 mr
theorem ds_set (i : Nat) {x : Str} {pos' : Pos} (hN : X.N.Nodup) (h : DE X Rs W e t_h me) (hR : i ∉ Rs := by decide) (hi : X.N[i]? = some x := by rfl) (hx : Loc X.env.scope x := by first | exact Or.inl rfl | exact Or.inr rfl)
    (hs : swapsWith e (some (.Name x pos')) pos.line X.env = pure false := by rfl) (hf : X.fn x = true ∨ X.env.scope.names.lookup x = some .local := by first | exact .inl rfl | exact .inr rfl | assumption) : DS X Rs W (.Assign [.Name x pos'] e pos) (tAsg t_h (gName i)) (mSet i me) := by
  obtain ⟨a1, a2⟩ := h
  exact ⟨ps_set hN hi hx a1 hs hf, sem_set hR a2⟩
/-- targets of what stays -/
abbrev MG := D → En → (En → Prop) → Prop
/-- gs: the places that it stores -/
def SemG (K : PySem.W.Frag) (Rs : List Nat) (tg : TG) (mg : MG) (gs : List Nat) : Prop := ∀ (F : Fr) (env : En) (σ : L2.St) (G H : Hp) (d : D) (v : V) (Q : L2.St → Hp → Prop) (Qm : En → Prop), Ok K Rs F env σ G H → Rep K G d v → mg d env Qm →
  (∀ env' σ', Ok K Rs F env' σ' G H → σ'.length = σ.length → (∀ i, i ∉ gs → σ'[i]? = σ[i]?) → Qm env' → Q σ' H) → tg v σ H Q
structure DG (X : Cx) (Rs : List Nat) (tgt : Expr) (t : TG) (mg : MG) (gs : List Nat) : Prop where
  p : PG X tgt t
  s : SemG X.K Rs t mg gs
def mgName (i : Nat) : MG := fun d env Q => Q (env.set i (.f d))
theorem dg_name (i : Nat) {x : Str} (hN : X.N.Nodup) (hR : i ∉ Rs := by decide) (hi : X.N[i]? = some x := by rfl) (hx : Loc X.env.scope x := by first | exact Or.inl rfl | exact Or.inr rfl)
    (hf : X.fn x = true ∨ X.env.scope.names.lookup x = some .local := by first | exact .inl rfl | exact .inr rfl | assumption) : DG X Rs (.Name x pos) (gName i) (mgName i) [i] := by
  refine ⟨pg_name hN hi hx hf, fun F env σ G H d v Q Qm ok rd hm q => ?_⟩
  refine q _ _ (ok.store (r := .f d) hR rd) (by rw [List.length_set]) (fun j hj => ?_) hm
  rw [List.getElem?_set_ne (fun e => hj (by rw [e]; exact List.mem_singleton_self j))]
abbrev MGs := List D → En → (En → Prop) → Prop
def SemGs (K : PySem.W.Frag) (Rs : List Nat) (tg : TGs) (mg : MGs) (gs : List Nat) : Prop := ∀ (F : Fr) (env : En) (σ : L2.St) (G H : Hp) (ds : List D) (vs : List V) (Q : L2.St → Hp → Prop) (Qm : En → Prop), Ok K Rs F env σ G H → Reps K G ds vs → mg ds env Qm →
  (∀ env' σ', Ok K Rs F env' σ' G H → σ'.length = σ.length → (∀ i, i ∉ gs → σ'[i]? = σ[i]?) → Qm env' → Q σ' H) → tg vs σ H Q
structure DGs (X : Cx) (Rs : List Nat) (tgts : List Expr) (t : TGs) (mg : MGs) (gs : List Nat) : Prop where
  p : PGs X tgts t
  s : SemGs X.K Rs t mg gs
def mgNil : MGs := fun ds env Q => match ds with | [] => Q env | _ => False
def mgCons (mg : MG) (mr : MGs) : MGs := fun ds env Q => match ds with | d :: ds => mg d env fun e1 => mr ds e1 Q | [] => False
theorem dgs_nil : DGs X Rs [] gNil mgNil [] := ⟨pgs_nil, fun F env σ G H ds vs Q Qm ok rd hm q => by
  cases ds with
  | nil => exact ⟨reps_nil.mp rd, q env σ ok rfl (fun _ _ => rfl) hm⟩
  | cons d ds => cases hm⟩
theorem dgs_cons {tg : Expr} {tgs : List Expr} {mg : MG} {mr : MGs} {gs hs : List Nat} (h1 : DG X Rs tg t_h1 mg gs) (h2 : DGs X Rs tgs t_h2 mr hs) (hq : (assignEach (tg :: tgs) X.env).map (·.2) = assign tg X.env :: (assignEach tgs X.env).map (·.2) := by rfl) : DGs X Rs (tg :: tgs) (gCons t_h1 t_h2) (mgCons mg mr) (gs ++ hs) := by
  obtain ⟨a1, a2⟩ := h1
  obtain ⟨b1, b2⟩ := h2
  refine ⟨pgs_cons a1 b1 hq, fun F env σ G H ds vs Q Qm ok rd hm q => ?_⟩
  cases ds with
  | nil => cases hm
  | cons d ds =>
    obtain ⟨v, ws, e, r1, r2⟩ := reps_cons.mp rd
    refine ⟨v, ws, e, a2 F env σ G H d v _ _ ok r1 hm fun e1 σ1 ok1 l1 k1 m1 => b2 F e1 σ1 G H ds ws _ _ ok1 r2 m1 fun e2 σ2 ok2 l2 k2 m2 => q e2 σ2 ok2 (l2.trans l1) (fun i hi => ?_) m2⟩
    rw [k2 i fun z => hi (List.mem_append_right _ z), k1 i fun z => hi (List.mem_append_left _ z)]
def mgTup (n : Nat) (mg : MGs) : MG := fun d env Q => match d.s with | .tup ds => ds.length = n ∧ mg ds env Q | _ => False
theorem dg_tup {es : List Expr} {k : Nat} {n : Nat} {mg : MGs} {gs : List Nat} (hc : X.calm = true) (h : DGs X Rs es t_h mg gs) (hn : (assignEach es X.env).length = n := by rfl) (hst : (assignEach es X.env).findIdx? (·.1) = none := by rfl) : DG X Rs (.Tuple es k pos) (gTup X.K n t_h) (mgTup n mg) gs := by
  obtain ⟨a1, a2⟩ := h
  refine ⟨pg_tup hc a1 hn hst, fun F env σ G H d v Q Qm ok rd hm q => ?_⟩
  have rd := Rep.s rd
  unfold mgTup at hm
  split at hm
  · rename_i ds e
    rw [e, Rep] at rd
    obtain ⟨p, vs, h1, h2, h3⟩ := rd
    exact ⟨p, vs, h1, .of (ok.sub _ _ h2), by rw [h3.length]; exact hm.1, a2 F env σ G H ds vs _ _ ok h3 hm.2 q⟩
  · cases hm
def mAsg (me : ME) (mg : MG) : MS := fun M Em env => me env (fun r e1 => fz r fun d => mg d e1 fun e2 => M.nx e2) Em
theorem ds_asg {tg : Expr} {mg : MG} {gs : List Nat} (he : DE X Rs W e t_he me) (hg : DG X Rs tg t_hg mg gs) (hs : swapsWithSole [tg] e pos.line X.env = pure false := by rfl) (hw : swappedStores [tg] e X.env = pure none := by rfl) (hq : (assignEach [tg] X.env).map (·.2) = [assign tg X.env] := by rfl) : DS X Rs W (.Assign [tg] e pos) (tAsg t_he t_hg) (mAsg me mg) := by
  obtain ⟨a1, a2⟩ := he
  obtain ⟨b1, b2⟩ := hg
  refine ⟨ps_asg a1 b1 hs hw hq, fun F env σ G H D M Em ok lk el hm => a2 F env σ G H _ _ Em ok lk hm fun r e1 v G1 H1 ok1 x1 rr mr => ?_⟩
  obtain ⟨d, G2, md, x2, ok2, rd⟩ := ok1.freeze rr mr
  exact b2 F e1 σ G2 H1 d v _ _ ok2 rd md fun e2 σ2 ok3 _ _ m3 => el.nx e2 σ2 G2 H1 ok3 (x1.trans x2) m3
/-! ### a name's own list, changed -/
theorem Ok.updO {K : PySem.W.Frag} {F : Fr} {env : En} {σ : L2.St} {G H : Hp} (ok : Ok K Rs F env σ G H) {i : Nat} {p : Addr} {dv : DV} {ho : HO} (hp : OwnAt env σ i p) (hvar : VarOk K F G (upd H p ho) i dv (some (.ref p))) (hd : dv.own = true) : Ok K Rs F (env.set i dv) σ G (upd H p ho) := by
  obtain ⟨hg, hm, o0, hH⟩ := ok.own hp
  have key : ∀ j q, OwnAt (env.set i dv) σ j q → OwnAt env σ j q := fun j q ⟨dw, z1, z2, z3⟩ => by
    by_cases e : i = j
    · subst e
      obtain ⟨dw', w1, w2, w3⟩ := id hp
      exact ⟨dw', w1, w2, z3⟩
    · exact ⟨dw, set_ne e z1, z2, z3⟩
  refine ⟨fun a u q => ?_, fun a u h hn => ?_, ok.nw, ok.g0, ok.rs, fun j q h => ⟨(ok.rp j q h).1, ?_⟩, ok.rh, by rw [List.length_set]; exact ok.len, fun j dw x h1 h2 => ?_, fun j k q h1 h2 => ok.dis j k q (key j q h1) (key k q h2)⟩
  · rw [upd_ne fun e => by subst e; rw [hg] at q; cases q]
    exact ok.sub a u q
  · have hne : a ≠ p := fun e => by
      subst e
      rcases hm with z | z
      · exact hn (List.mem_map.mpr ⟨_, z, rfl⟩)
      · rw [h] at z; cases z
    rw [upd_ne hne]; exact ok.fr a u h hn
  · by_cases e : q = p
    · subst e; rw [upd_same]; simp
    · rw [upd_ne e]; exact (ok.rp j q h).2
  · by_cases e : i = j
    · subst e
      obtain ⟨e1, _⟩ := set_eq h1
      subst e1
      obtain ⟨_, _, _, z3⟩ := hp
      rw [z3] at h2; cases h2
      exact hvar
    · have h1' := set_ne e h1
      refine (ok.var j dw x h1' h2).ext (Ex.refl G) fun q u hx ho' hq => ?_
      have ow : OwnAt env σ j q := ⟨dw, h1', ho', by rw [h2, hx]⟩
      have ne : q ≠ p := fun z => e (ok.dis i j p hp (z ▸ ow))
      exact ⟨by rw [upd_ne ne]; exact hq, (ok.own ow).1⟩
theorem own_slot {K : PySem.W.Frag} {F : Fr} {env : En} {σ : L2.St} {G H : Hp} (ok : Ok K Rs F env σ G H) {i : Nat} {ds : List D} (h : env.getD i .u = .o ds) : ∃ p vs, σ[i]? = some (some (.ref p)) ∧ OwnAt env σ i p ∧ G p = none ∧ Mine F i p ∧ H p = some (.lst vs) ∧ Reps K G ds vs := by
  obtain ⟨v, h1, p, vs, h2, h3, h4, h5, h6⟩ := ok.slot h (by simp)
  cases h2
  exact ⟨p, vs, h1, ⟨_, getD_some h (by simp), rfl, h1⟩, h3, h4, h5, h6⟩
def isO (dv : DV) (k : List D → Prop) : Prop := match dv with
  | .o ds => k ds
  | _ => False
theorem isO_of {dv : DV} {k : List D → Prop} (h : isO dv k) : ∃ ds, dv = .o ds ∧ k ds := by
  cases dv with
  | o ds => exact ⟨ds, rfl, h⟩
  | _ => cases h
def isVal (a : Arg) (k : D → Prop) : Prop := match a with
  | .val d => k d
  | _ => False
/-- x.append(e) -/
def mApp (i : Nat) (ma : MO) : MS := fun M Em env => isO (env.getD i .u) fun _ => ma env (fun x e1 => isVal x fun d => isO (e1.getD i .u) fun ds => ds.length < sizeLine ∧ M.nx (e1.set i (.o (ds ++ [d])))) Em
theorem sem_app {K : PySem.W.Frag} {i : Nat} {t : TE} {ma : MO} (h : SemO K Rs W t ma) : SemS K Rs W (tDrop (tBM K "list" rAppend (tVar i) (tCons t tNil))) (mApp i ma) := fun F env σ G H D M Em ok lk el hm => by
  obtain ⟨ds0, e0, hm⟩ := isO_of hm
  obtain ⟨p0, vs0, s0, _, _, _, h0, _⟩ := own_slot ok e0
  refine ⟨.ref p0, s0, .inl ⟨rfl, vs0, .of h0⟩, ?_⟩
  refine h F env σ G H _ _ Em ok lk hm fun x e1 v G1 H1 ok1 x1 r1 m1 => ?_
  cases x with
  | ref j => cases m1
  | val d =>
    obtain ⟨ds, e2, hz, m2⟩ := isO_of m1
    obtain ⟨p, vs, s1, ow, a1, a2, a3, a4⟩ := own_slot ok1 e2
    rw [s0] at s1; cases s1
    refine ⟨p0, vs, v, rfl, rfl, a3, by rw [a4.length]; exact hz, ?_⟩
    refine el.nx _ σ G1 _ (ok1.updO (dv := .o (ds ++ [d])) ow ⟨p0, vs ++ [v], rfl, a1, a2, upd_same, Reps.append a4 (Reps.cons r1 (reps_nil.mpr rfl))⟩ rfl) x1 m2
theorem ds_append (i : Nat) {x : Str} {ma : MO} {pn pa pc : Pos} (ha : DO X Rs W e t_ha ma) (hN : X.N[i]? = some x := by rfl) (hv : Vis X.env.scope x := by first | exact Or.inl rfl | exact Or.inr (Or.inl rfl) | exact Or.inr (Or.inr rfl))
    (hd : (x == ("__debug__" : Str)) = false := by decide) (hcd : (x == ("__classdict__" : Str)) = false := by decide)
    (hfew : ((backTo pc (starEach [e] X.env)).all (fun x => !x.1) && (backToKw pc (keywordEach [] X.env)).all (fun x => x.1.isSome) && decide ([e].length + ([] : List Keyword).length + (if ([] : List Keyword).isEmpty then 0 else 1) < 30)) = true := by rfl)
    (hline : (pa.endLine == pc.line) = true := by rfl) (hs : starEach [e] X.env = [(false, eval e X.env)] := by rfl) (hsw : swapsWith (.Call (.Attribute (.Name x pn) "append" pa) [e] [] pc) none pos.line X.env = pure false := by rfl) :
    DS X Rs W (.Expr (.Call (.Attribute (.Name x pn) "append" pa) [e] [] pc) pos) (tDrop (tBM X.K "list" rAppend (tVar i) (tCons t_ha tNil))) (mApp i ma) :=
  ⟨ps_expr (pe_bm PySem.F.plainAttrs_list PySem.F.slot_list_append PySem.F.type_list_append mt_append (pe_var hN hv hd hcd) (pa_cons ha.p pa_nil hs) rfl hfew hline hs rfl) hsw, sem_app ha.s⟩
/-- x[k] = e, x a name's own list -/
def mSetIx (i : Nat) (me mk : MO) : MS := fun M Em env => me env (fun x e1 => isO (e1.getD i .u) fun _ => mk e1 (fun y e2 => isVal x fun d => look e2 y fun k => match k with
  | .int k => isO (e2.getD i .u) fun ds => (match ixN ds.length k with | some j => M.nx (e2.set i (.o (ds.set j d))) | none => False)
  | _ => False) Em) Em
theorem ds_setIx (i : Nat) {x : Str} {k : Expr} {me mk : MO} {pn ps : Pos} (he : DO X Rs W e t_he me) (hk : DO X Rs W k t_hk mk) (hN : X.N[i]? = some x := by rfl) (hv : Vis X.env.scope x := by first | exact Or.inl rfl | exact Or.inr (Or.inl rfl) | exact Or.inr (Or.inr rfl))
    (hd : (x == ("__debug__" : Str)) = false := by decide) (hcd : (x == ("__classdict__" : Str)) = false := by decide) (hs : swapsWithSole [.Subscript (.Name x pn) k ps] e pos.line X.env = pure false := by rfl) (hw : swappedStores [.Subscript (.Name x pn) k ps] e X.env = pure none := by rfl)
    (hq : (assignEach [.Subscript (.Name x pn) k ps] X.env).map (·.2) = [assign (.Subscript (.Name x pn) k ps) X.env] := by rfl)
    (hsub : ∀ v, assign (.Subscript (.Name x pn) k ps) X.env v = (do
      let w1 ← holding [v] (eval (.Name x pn) X.env)
      let w2 ← holding [v, w1] (eval k X.env)
      standAt ps
      holding [v, w1, w2] (setItem w1 w2 v)
      release [v, w1, w2] []) := by intro _; rfl) : DS X Rs W (.Assign [.Subscript (.Name x pn) k ps] e pos) (tAsg t_he (gSub (tVar i) t_hk rSetL)) (mSetIx i me mk) := by
  obtain ⟨a1, a2⟩ := he
  obtain ⟨b1, b2⟩ := hk
  refine ⟨ps_asg a1 (pg_sub (pe_var hN hv hd hcd) b1 set_list hsub) hs hw hq, fun F env σ G H D M Em ok lk el hm => a2 F env σ G H _ _ Em ok lk hm fun x e1 v G1 H1 ok1 x1 r1 m1 => ?_⟩
  obtain ⟨ds0, e0, m1⟩ := isO_of m1
  obtain ⟨p0, vs0, s0, _⟩ := own_slot ok1 e0
  refine ⟨.ref p0, s0, b2 F e1 σ G1 H1 _ _ Em ok1 lk m1 fun y e2 w G2 H2 ok2 x2 r2 m2 => ?_⟩
  cases x with
  | ref j => cases m2
  | val d =>
    obtain ⟨kd, m3, vk⟩ := ok2.look (k := fun k => match k with
      | .int k => isO (e2.getD i .u) fun ds => (match ixN ds.length k with | some j => M.nx (e2.set i (.o (ds.set j d))) | none => False)
      | _ => False) r2 m2
    cases kd with
    | int kz =>
      obtain ⟨ds, e3, m4⟩ := isO_of m3
      obtain ⟨p, vs, s1, ow, c1, c2, c3, c4⟩ := own_slot ok2 e3
      rw [s0] at s1; cases s1
      have vk : Rep X.K G2 (.int kz) w := vk
      rw [Rep] at vk; subst vk
      cases hj : ixN ds.length kz with
      | none => rw [hj] at m4; cases m4
      | some j =>
        rw [hj] at m4
        refine ⟨p0, vs, kz, j, rfl, rfl, c3, by rw [c4.length]; exact hj, ?_⟩
        exact el.nx _ σ G2 _ (ok2.updO (dv := .o (ds.set j d)) ow ⟨p0, vs.set j v, rfl, c1, c2, upd_same, Reps.set (Rep.mono x2 d v r1) j c4⟩ rfl) (x1.trans x2) m4
    | _ => cases m3
/-! ### x op= e -/
def mAug (i : Nat) (f : Int → Int → Int) (me : ME) : MS := fun M Em env => me env (fun r e1 => fz r fun d => match e1.getD i .u, d.s with
  | .f x, .int b => (match x.s with | .int a => M.nx (e1.set i (.f (.int (f a b)))) | _ => False)
  | _, _ => False) Em
/-! ### several values at once: a, b = x, y -/
def PRep (K : PySem.W.Frag) (F : Fr) (env : En) (σ : L2.St) (G H : Hp) : List DV → List V → Prop
  | [], vs => vs = []
  | r :: rs, vs => ∃ v ws, vs = v :: ws ∧ RRep K F env σ G H r v ∧ PRep K F env σ G H rs ws ∧ (r.own = true → ∀ (i : Nat) (r' : DV), rs[i]? = some r' → r'.own = true → ws[i]? ≠ some v)
abbrev MD := En → (List DV → En → Prop) → EmT → Prop
def SemD (K : PySem.W.Frag) (Rs : List Nat) (W : WX) (t : TA) (m : MD) : Prop := ∀ (F : Fr) (env : En) (σ : L2.St) (G H : Hp) (Q : List V → Hp → Prop) (Qm : List DV → En → Prop) (Em : EmT), Ok K Rs F env σ G H → Link K Rs F W Em → m env Qm Em →
  (∀ rs env' vs G' H', Ok K Rs F env' σ G' H' → Ex G G' → PRep K F env' σ G' H' rs vs → Qm rs env' → Q vs H') → t σ H Q
def dNil : MD := fun env Q _ => Q [] env
def dCons (ma : ME) (mr : MD) : MD := fun env Q Em => ma env (fun r e1 => mr e1 (fun rs e2 => Q (r :: rs) e2) Em) Em
theorem RRep.tracked {K : PySem.W.Frag} {F : Fr} {env : En} {σ : L2.St} {G H : Hp} {r : DV} {v : V} (h : RRep K F env σ G H r v) (ho : r.own = true) : ∃ p o, v = .ref p ∧ G p = none ∧ F.H0 p = none ∧ H p = some o ∧ ∀ i, ¬ OwnAt env σ i p := by
  cases r with
  | u => cases ho
  | f d => cases ho
  | o ds =>
    obtain ⟨p, vs, e, h1, h2, h3, _, h4⟩ := h
    exact ⟨p, _, e, h1, h2, h3, h4⟩
  | od ks ds =>
    obtain ⟨p, vs, e, h1, h2, h3, _, _, h4⟩ := h
    exact ⟨p, _, e, h1, h2, h3, h4⟩
/-- a pending result behind a part of the body -/
theorem RRep.behind {K : PySem.W.Frag} {F : Fr} {env env' : En} {σ σ' : L2.St} {G G' H H' : Hp} {r : DV} {v : V} (ok0 : Ok K Rs F env σ G H) (h : RRep K F env σ G H r v) (ok : Ok K Rs (F.now env σ G H) env' σ' G' H') (e : Ex G G') : RRep K F env' σ' G' H' r v := by
  cases r with
  | u => exact h
  | f d => exact Rep.mono e d v h
  | o ds =>
    obtain ⟨p, vs, e1, h1, h2, h3, h4, h5⟩ := h
    obtain ⟨a1, a2, a3⟩ := ok0.pend h3 h1 h2 h5 ok
    exact ⟨p, vs, e1, a2, h2, a1, Reps.mono e ds vs h4, a3⟩
  | od ks ds =>
    obtain ⟨p, vs, e1, h1, h2, h3, h4, h5, h6⟩ := h
    obtain ⟨a1, a2, a3⟩ := ok0.pend h3 h1 h2 h6 ok
    exact ⟨p, vs, e1, a2, h2, a1, h4, Reps.mono e ds vs h5, a3⟩
theorem PRep.ofNow {K : PySem.W.Frag} {F : Fr} {env env' : En} {σ σ' : L2.St} {G G' H H' : Hp} (ok0 : Ok K Rs F env σ G H) (ok : Ok K Rs (F.now env σ G H) env' σ' G' H') : ∀ {rs : List DV} {vs : List V}, PRep K (F.now env σ G H) env' σ' G' H' rs vs → PRep K F env' σ' G' H' rs vs
  | [], _, h => h
  | r :: rs, _, ⟨v, ws, e, h1, h2, h3⟩ => ⟨v, ws, e, RRep.ofNow ok0 ok h1, PRep.ofNow ok0 ok h2, h3⟩
theorem PRep.at {K : PySem.W.Frag} {F : Fr} {env : En} {σ : L2.St} {G H : Hp} : ∀ {rs : List DV} {vs : List V} {i : Nat} {r : DV} {v : V}, PRep K F env σ G H rs vs → rs[i]? = some r → vs[i]? = some v → RRep K F env σ G H r v
  | [], _, _, _, _, _, e, _ => by simp at e
  | r :: rs, _, 0, _, _, ⟨v, ws, e, h1, _, _⟩, e1, e2 => by
    subst e
    simp at e1 e2; subst e1 e2; exact h1
  | r :: rs, _, i + 1, _, _, ⟨v, ws, e, _, h2, _⟩, e1, e2 => by
    subst e
    exact PRep.at (i := i) h2 (by simpa using e1) (by simpa using e2)
theorem sem_dnil {K : PySem.W.Frag} : SemD K Rs W tNil dNil := fun F env σ G H Q Qm Em ok lk hm q => q [] _ _ _ _ ok (Ex.refl G) (show ([] : List V) = [] from rfl) hm
theorem sem_dcons {K : PySem.W.Frag} {t : TE} {u : TA} {me : ME} {md : MD} (h1 : SemE K Rs W t me) (h2 : SemD K Rs W u md) : SemD K Rs W (tCons t u) (dCons me md) := fun F env σ G H Q Qm Em ok lk hm q =>
  h1 F env σ G H _ _ Em ok lk hm fun r e1 v G1 H1 ok1 x1 r1 m1 => h2 (F.now e1 σ G1 H1) e1 σ G1 H1 _ _ Em ok1.toNow (Link.toNow ok1 lk) m1 fun rs e2 vs G2 H2 ok2 x2 r2 m2 => by
    refine q (r :: rs) e2 _ G2 H2 (ok1.ofNow ok2) (x1.trans x2) ⟨v, vs, rfl, RRep.behind ok1 r1 ok2 x2, PRep.ofNow ok1 ok2 r2, fun ho i r' hi ho' hv => ?_⟩ m2
    obtain ⟨p, o, e, g1, g2, g3, g4⟩ := r1.tracked ho
    obtain ⟨p', o', e', _, z, _, _⟩ := (PRep.at r2 hi hv).tracked ho'
    rw [e] at e'; cases e'
    rw [now_some fun ⟨j, _, w⟩ => g4 j w, g3] at z
    cases z
structure DD (X : Cx) (Rs : List Nat) (W : WX) (es : List Expr) (t : TA) (m : MD) : Prop where
  p : PA X es t
  s : SemD X.K Rs W t m
theorem dd_nil : DD X Rs W [] tNil dNil := ⟨pa_nil, sem_dnil⟩
theorem dd_cons {es : List Expr} {md : MD} (ha : DE X Rs W e t_ha me) (hr : DD X Rs W es t_hr md) (hs : starEach (e :: es) X.env = (false, eval e X.env) :: starEach es X.env := by rfl) : DD X Rs W (e :: es) (tCons t_ha t_hr) (dCons me md) := by
  obtain ⟨a1, a2⟩ := ha
  obtain ⟨b1, b2⟩ := hr
  exact ⟨pa_cons a1 b1 hs, sem_dcons a2 b2⟩
def storeAll : List Nat → List DV → En → (En → Prop) → Prop
  | [], [], env, k => k env
  | i :: is, r :: rs, env, k => storeAll is rs (env.set i r) k
  | _, _, _, _ => False
def mPar (is : List Nat) (md : MD) : MS := fun M Em env => md env (fun rs e1 => storeAll is rs e1 M.nx) Em
/-- what is pending behind the store of another one -/
theorem PRep.store {K : PySem.W.Frag} {F : Fr} {env : En} {σ : L2.St} {G H : Hp} {i : Nat} {r : DV} {v : V} : ∀ {rs : List DV} {vs : List V}, PRep K F env σ G H rs vs → (r.own = true → ∀ (j : Nat) (r' : DV), rs[j]? = some r' → r'.own = true → vs[j]? ≠ some v) → PRep K F (env.set i r) (σ.set i (some v)) G H rs vs
  | [], _, h, _ => h
  | r1 :: rs, _, ⟨v1, ws, e, h1, h2, h3⟩, hd => by
    subst e
    have key : ∀ p, v1 = .ref p → r1.own = true → (∀ j, ¬ OwnAt env σ j p) → ∀ j, ¬ OwnAt (env.set i r) (σ.set i (some v)) j p := fun p ep hown hn j ⟨dv, z1, z2, z3⟩ => by
      by_cases e : i = j
      · subst e
        obtain ⟨e1, _⟩ := set_eq z1
        obtain ⟨e2, _⟩ := set_eq z3
        subst e1
        exact hd z2 0 r1 rfl hown (by rw [ep]; simpa using e2)
      · exact hn j ⟨dv, set_ne e z1, z2, set_ne e z3⟩
    refine ⟨v1, ws, rfl, ?_, PRep.store h2 fun ho j r' hj ho' => hd ho (j + 1) r' (by simpa using hj) ho', h3⟩
    cases r1 with
    | u => exact h1
    | f d => exact h1
    | o ds =>
      obtain ⟨p, us, e1, a1, a2, a3, a4, a5⟩ := h1
      exact ⟨p, us, e1, a1, a2, a3, a4, key p e1 rfl a5⟩
    | od ks ds =>
      obtain ⟨p, us, e1, a1, a2, a3, a4, a5, a6⟩ := h1
      exact ⟨p, us, e1, a1, a2, a3, a4, a5, key p e1 rfl a6⟩
def setAll : List Nat → List V → L2.St → L2.St
  | i :: is, v :: vs, σ => setAll is vs (σ.set i (some v))
  | _, _, σ => σ
theorem Ok.storeAll {K : PySem.W.Frag} {F : Fr} {G H : Hp} {k : En → Prop} : ∀ {is : List Nat} {rs : List DV} {vs : List V} {env : En} {σ : L2.St}, Ok K Rs F env σ G H → (∀ i ∈ is, i ∉ Rs) → PRep K F env σ G H rs vs → VL.storeAll is rs env k → ∃ env', Ok K Rs F env' (setAll is vs σ) G H ∧ k env' ∧ vs.length = is.length
  | [], [], _, env, σ, ok, _, h, hk => by
    cases h
    exact ⟨env, ok, hk, rfl⟩
  | [], r :: rs, _, _, _, _, _, _, hk => hk.elim
  | i :: is, [], _, _, _, _, _, _, hk => hk.elim
  | i :: is, r :: rs, _, env, σ, ok, hi, ⟨v, ws, e, h1, h2, h3⟩, hk => by
    subst e
    obtain ⟨env', a, b, c⟩ := Ok.storeAll (is := is) (ok.store (hi i List.mem_cons_self) h1) (fun j hj => hi j (List.mem_cons_of_mem _ hj)) (PRep.store h2 h3) hk
    exact ⟨env', a, b, by rw [List.length_cons, List.length_cons, c]⟩
theorem ds_par2 (i j : Nat) {x y : Str} {md : MD} {px py pt pt2 : Pos} {kt k2} (hc : X.calm = true) (hN : X.N.Nodup) (ha : DD X Rs W [a, b] t_ha md) (hR : ∀ l ∈ [i, j], l ∉ Rs := by decide) (hi : X.N[i]? = some x := by rfl) (hj : X.N[j]? = some y := by rfl) (hij : i ≠ j := by decide)
    (hx : X.env.scope.names.lookup x = some .local := by rfl) (hy : X.env.scope.names.lookup y = some .local := by rfl) (hw : swappedStores [.Tuple [.Name x px, .Name y py] kt pt] (.Tuple [a, b] k2 pt2) X.env = pure (some [x, y]) := by rfl)
    (hs : swapsWithSole [.Tuple [.Name x px, .Name y py] kt pt] (.Tuple [a, b] k2 pt2) pos.line X.env = pure false := by rfl) : DS X Rs W (.Assign [.Tuple [.Name x px, .Name y py] kt pt] (.Tuple [a, b] k2 pt2) pos) (tPar i j t_ha) (mPar [i, j] md) := by
  obtain ⟨a1, a2⟩ := ha
  refine ⟨ps_par hc hN hi hj hij hx hy a1 hw hs, fun F env σ G H D M Em ok lk el hm => a2 F env σ G H _ _ Em ok lk hm fun rs e1 vs G1 H1 ok1 x1 rr mr => ?_⟩
  obtain ⟨e2, ok2, m2, hl⟩ := ok1.storeAll hR rr mr
  match vs, hl with
  | [v, w], _ => exact ⟨v, w, rfl, el.nx e2 _ G1 H1 ok2 x1 m2⟩
/-- .. where a tuple is made on the way -/
theorem PRep.newO {K : PySem.W.Frag} {F : Fr} {env : En} {σ : L2.St} {G H : Hp} {p : Addr} {o : HO} (hp : H p = none) : ∀ {rs : List DV} {vs : List V}, PRep K F env σ G H rs vs → PRep K F env σ G (upd H p o) rs vs
  | [], _, h => h
  | r :: rs, _, ⟨v, ws, e, h1, h2, h3⟩ => by
    refine ⟨v, ws, e, ?_, PRep.newO hp h2, h3⟩
    cases r with
    | u => exact h1
    | f d => exact h1
    | o ds =>
      obtain ⟨q, us, e1, a1, a2, a3, a4⟩ := h1
      exact ⟨q, us, e1, a1, a2, by rw [upd_ne (ne_of_none a3 hp)]; exact a3, a4⟩
    | od ks ds =>
      obtain ⟨q, us, e1, a1, a2, a3, a4⟩ := h1
      exact ⟨q, us, e1, a1, a2, by rw [upd_ne (ne_of_none a3 hp)]; exact a3, a4⟩
def gAll : List Nat → TGs
  | [] => gNil
  | i :: is => gCons (gName i) (gAll is)
theorem gAll_ok : ∀ {is : List Nat} {vs : List V} {σ : L2.St} {H : Hp} {Q : L2.St → Hp → Prop}, vs.length = is.length → Q (setAll is vs σ) H → gAll is vs σ H Q
  | [], [], σ, H, Q, _, q => ⟨rfl, q⟩
  | [], _ :: _, _, _, _, h, _ => by cases h
  | _ :: _, [], _, _, _, h, _ => by cases h
  | i :: is, v :: vs, σ, H, Q, h, q => ⟨v, vs, rfl, gAll_ok (is := is) (by simpa using h) q⟩
theorem ds_parT (is : List Nat) {n : Nat} {es ts : List Expr} {md : MD} {pt pt2 : Pos} {kt k2} (hc : X.calm = true) (ha : DD X Rs W es t_ha md) (hg : PGs X ts (gAll is)) (hR : ∀ l ∈ is, l ∉ Rs := by decide) (hlen : is.length = n := by rfl)
    (hn : (assignEach ts X.env).length = n := by rfl) (hst : (assignEach ts X.env).findIdx? (·.1) = none := by rfl) (hz : ∀ (rs : List DV) (vs : List V), n ≤ sizeLine := by intro _ _; show _ ≤ 16777216; decide)
    (hs : swapsWithSole [.Tuple ts kt pt] (.Tuple es k2 pt2) pos.line X.env = pure false := by rfl) (hw : swappedStores [.Tuple ts kt pt] (.Tuple es k2 pt2) X.env = pure none := by rfl) (hq : (assignEach [.Tuple ts kt pt] X.env).map (·.2) = [assign (.Tuple ts kt pt) X.env] := by rfl) :
    DS X Rs W (.Assign [.Tuple ts kt pt] (.Tuple es k2 pt2) pos) (tAsg (tTup t_ha) (gTup X.K n (gAll is))) (mPar is md) := by
  obtain ⟨a1, a2⟩ := ha
  refine ⟨ps_asg (pe_tup a1) (pg_tup hc hg hn hst) hs hw hq, fun F env σ G H D M Em ok lk el hm => a2 F env σ G H _ _ Em ok lk hm fun rs e1 vs G1 H1 ok1 x1 rr mr => ?_⟩
  obtain ⟨_, _, _, hl⟩ := ok1.storeAll hR rr mr
  refine ⟨by rw [hl, hlen]; exact hz [] [], fun p hp => ?_⟩
  obtain ⟨e2, ok2, m2, _⟩ := (ok1.newO (o := .tup vs) hp).storeAll hR (PRep.newO hp rr) mr
  exact ⟨p, vs, rfl, .of upd_same, by rw [hl, hlen], gAll_ok hl (el.nx e2 _ G1 _ ok2 x1 m2)⟩
end
end VL
/-! VL: what is walked, loops, comprehensions. -/
namespace VL
open PySem PySem.Spec PyProof.Rows L2

/-- what an iterator yields, while G stands -/
structure Seq (K : PySem.W.Frag) (J : It) (G : Hp) (items : List D) : Prop where
  go : ∀ i H, Ex G H → i < items.length → J.go i H
  stop : ∀ i H, Ex G H → items.length ≤ i → J.stop i H
  yld : ∀ i x H H', Ex G H → J.yld i H x H' → ∀ d, items[i]? = some d → (H' = H ∧ Rep K G d x) ∨ (∃ T vs ds, H' = upd H T (.tup vs) ∧ H T = none ∧ x = .ref T ∧ d = .tup ds ∧ Reps K G ds vs)
theorem Seq.mono {K : PySem.W.Frag} {J : It} {G G' : Hp} {items : List D} (s : Seq K J G items) (e : Ex G G') : Seq K J G' items :=
  ⟨fun i H x => s.go i H (e.trans x), fun i H x => s.stop i H (e.trans x), fun i x H H' q y d h => by
    rcases s.yld i x H H' (e.trans q) y d h with ⟨a, b⟩ | ⟨T, vs, ds, a, b, c, f, g⟩
    · exact .inl ⟨a, Rep.mono e d x b⟩
    · exact .inr ⟨T, vs, ds, a, b, c, f, Reps.mono e ds vs g⟩⟩
abbrev MI := En → (List D → En → Prop) → EmT → Prop
def SemI (K : PySem.W.Frag) (Rs : List Nat) (W : WX) (ti : TI) (mi : MI) : Prop := ∀ (F : Fr) (env : En) (σ : L2.St) (G H : Hp) (R : It → Hp → Prop) (Qm : List D → En → Prop) (Em : EmT), Ok K Rs F env σ G H → Link K Rs F W Em → mi env Qm Em →
  (∀ items env' J G' H', Ok K Rs F env' σ G' H' → Ex G G' → Seq K J G' items → Qm items env' → R J H') → ti σ H R
structure DI (X : Cx) (Rs : List Nat) (W : WX) (tg iter : Expr) (t : TI) (m : MI) : Prop where
  p : PI X tg iter t
  s : SemI X.K Rs W t m
section
variable {X : Cx} {Rs : List Nat} {W : WX} {tg e e2 a b c : Expr} {pos p : Pos} {m : ME} {ma : MA}
/-- a turn's item, where it is told: the heap grows at most by its tuple -/
theorem Seq.turn {K : PySem.W.Frag} {J : It} {G G1 H H' : Hp} {items : List D} {F : Fr} {env : En} {σ : L2.St} (s : Seq K J G items) (e : Ex G G1) (ok : Ok K Rs F env σ G1 H) {i : Nat} {x : V} {d : D} (h : items[i]? = some d) (y : J.yld i H x H') :
    ∃ G2, Ex G1 G2 ∧ Ok K Rs F env σ G2 H' ∧ Rep K G2 d x := by
  rcases s.yld i x H H' (e.trans ok.sub) y d h with ⟨e1, r⟩ | ⟨T, vs, ds, e1, hT, e2, e3, r⟩
  · subst e1
    exact ⟨G1, Ex.refl _, ok, Rep.mono e d x r⟩
  · subst e1 e2 e3
    obtain ⟨ok2, x2⟩ := ok.new (o := .tup vs) hT
    refine ⟨_, x2, ok2, ?_⟩
    rw [Rep]
    exact ⟨T, vs, rfl, upd_same, Reps.mono (e.trans x2) ds vs r⟩
/-! ### the iterators -/
def isLst (d : D) (k : List D → Prop) : Prop := match d.s with | .lst ds => k ds | _ => False
def isTup (d : D) (k : List D → Prop) : Prop := match d.s with | .tup ds => k ds | _ => False
theorem isLst_rep {K : PySem.W.Frag} {G : Hp} {d : D} {v : V} {k : List D → Prop} (r : Rep K G d v) (h : isLst d k) : ∃ ds a vs, k ds ∧ v = .ref a ∧ G a = some (.lst vs) ∧ Reps K G ds vs := by
  have r := Rep.s r
  unfold isLst at h
  split at h
  · rename_i ds e
    rw [e, Rep] at r
    obtain ⟨a, vs, h1, h2, h3⟩ := r
    exact ⟨ds, a, vs, h, h1, h2, h3⟩
  · cases h
theorem isTup_rep {K : PySem.W.Frag} {G : Hp} {d : D} {v : V} {k : List D → Prop} (r : Rep K G d v) (h : isTup d k) : ∃ ds a vs, k ds ∧ v = .ref a ∧ G a = some (.tup vs) ∧ Reps K G ds vs := by
  have r := Rep.s r
  unfold isTup at h
  split at h
  · rename_i ds e
    rw [e, Rep] at r
    obtain ⟨a, vs, h1, h2, h3⟩ := r
    exact ⟨ds, a, vs, h, h1, h2, h3⟩
  · cases h
/-- two readings of one list are one -/
theorem seq_list {K : PySem.W.Frag} {G : Hp} {a : Addr} {vs : List V} {ds : List D} (h : G a = some (.lst vs)) (r : Reps K G ds vs) : Seq K (Itl K a) G ds :=
  ⟨fun i H x hi => ⟨vs, vs[i]'(by rw [r.length]; exact hi), .of (x _ _ h), List.getElem?_eq_getElem _⟩, fun i H x hi => ⟨vs, .of (x _ _ h), by rw [r.length]; exact hi⟩, fun i x H H' q ⟨e, y⟩ d hd => by
    obtain ⟨v, e1, e2⟩ := r.get hd
    have := y vs (.of (q _ _ h))
    rw [e1] at this; cases this
    exact .inl ⟨e, e2⟩⟩
theorem seq_tup {K : PySem.W.Frag} {G : Hp} {a : Addr} {vs : List V} {ds : List D} (h : SqT K G a vs) (r : Reps K G ds vs) : Seq K (Itt K a) G ds :=
  ⟨fun i H x hi => ⟨vs, vs[i]'(by rw [r.length]; exact hi), ex_t x h, List.getElem?_eq_getElem _⟩, fun i H x hi => ⟨vs, ex_t x h, by rw [r.length]; exact hi⟩, fun i x H H' q ⟨e, y⟩ d hd => by
    obtain ⟨v, e1, e2⟩ := r.get hd
    have := y vs (ex_t q h)
    rw [e1] at this; cases this
    exact .inl ⟨e, e2⟩⟩
def iLst (m : ME) : MI := fun env Q Em => m env (fun r e1 => fz r fun d => isLst d fun ds => Q ds e1) Em
theorem di_list (h : DE X Rs W e t_h m) : DI X Rs W tg e (iList X.K t_h) (iLst m) := by
  obtain ⟨a1, a2⟩ := h
  refine ⟨pi_list a1, fun F env σ G H R Qm Em ok lk hm q => a2 F env σ G H _ _ Em ok lk hm fun r e1 v G1 H1 ok1 x1 rr mr => ?_⟩
  obtain ⟨d, G2, md, x2, ok2, rd⟩ := ok1.freeze rr mr
  obtain ⟨ds, p, vs, mk, e1, h1, h2⟩ := isLst_rep rd md
  exact ⟨p, e1, ⟨vs, .of (ok2.sub _ _ h1)⟩, q ds _ _ G2 H1 ok2 (x1.trans x2) (seq_list h1 h2) mk⟩
def iTupD (m : ME) : MI := fun env Q Em => m env (fun r e1 => fz r fun d => isTup d fun ds => Q ds e1) Em
theorem di_tup (h : DE X Rs W e t_h m) : DI X Rs W tg e (iTup X.K t_h) (iTupD m) := by
  obtain ⟨a1, a2⟩ := h
  refine ⟨pi_tup a1, fun F env σ G H R Qm Em ok lk hm q => a2 F env σ G H _ _ Em ok lk hm fun r e1 v G1 H1 ok1 x1 rr mr => ?_⟩
  obtain ⟨d, G2, md, x2, ok2, rd⟩ := ok1.freeze rr mr
  obtain ⟨ds, p, vs, mk, e1, h1, h2⟩ := isTup_rep rd md
  exact ⟨p, e1, ⟨vs, .of (ok2.sub _ _ h1)⟩, q ds _ _ G2 H1 ok2 (x1.trans x2) (seq_tup (.of h1) h2) mk⟩
/-- lo, lo + 1, .. below hi -/
def rangeD (lo : Int) (n : Nat) : List D := (List.range n).map fun (i : Nat) => D.int (lo + (i : Int))
theorem rangeD_length (lo : Int) (n : Nat) : (rangeD lo n).length = n := by unfold rangeD; rw [List.length_map, List.length_range]
theorem rangeD_get {lo : Int} {n i : Nat} {d : D} (h : (rangeD lo n)[i]? = some d) : i < n ∧ d = .int (lo + (i : Int)) := by
  unfold rangeD at h
  rw [List.getElem?_map] at h
  cases q : (List.range n)[i]? with
  | none => rw [q] at h; cases h
  | some k =>
    rw [q] at h
    obtain ⟨h1, h2⟩ := List.getElem?_eq_some_iff.mp q
    rw [List.length_range] at h1
    simp at h2 h
    subst h2
    exact ⟨h1, h.symm⟩
theorem seq_range {K : PySem.W.Frag} {G : Hp} (lo : Int) (n : Nat) : Seq K (Itr lo n) G (rangeD lo n) :=
  ⟨fun i H x hi => by rw [rangeD_length] at hi; exact hi, fun i H x hi => by rw [rangeD_length] at hi; exact hi, fun i x H H' q ⟨e, y⟩ d hd => by
    obtain ⟨_, rfl⟩ := rangeD_get hd
    exact .inl ⟨e, by rw [Rep]; exact y⟩⟩
def on1 (as : List Arg) (k : Arg → Prop) : Prop := match as with | [x] => k x | _ => False
def on2 (as : List Arg) (k : Arg → Arg → Prop) : Prop := match as with | [x, y] => k x y | _ => False
theorem on1_rep {K : PySem.W.Frag} {G : Hp} {σ : L2.St} : ∀ {as : List Arg} {vs : List V} {k : Arg → Prop}, ArgsRep K G σ as vs → on1 as k → ∃ x v, k x ∧ vs = [v] ∧ ArgRep K G σ x v
  | [x], _, _, ⟨v, ws, e, r, e2⟩, hk => ⟨x, v, hk, by rw [e, show ws = [] from e2], r⟩
  | [], _, _, _, hk => hk.elim
  | _ :: _ :: _, _, _, _, hk => hk.elim
theorem on2_rep {K : PySem.W.Frag} {G : Hp} {σ : L2.St} : ∀ {as : List Arg} {vs : List V} {k : Arg → Arg → Prop}, ArgsRep K G σ as vs → on2 as k → ∃ x y v w, k x y ∧ vs = [v, w] ∧ ArgRep K G σ x v ∧ ArgRep K G σ y w
  | [x, y], _, _, ⟨v, ws, e, r, w, ws', e2, r2, e3⟩, hk => ⟨x, y, v, w, hk, by rw [e, e2, show ws' = [] from e3], r, r2⟩
  | [], _, _, _, hk => hk.elim
  | [_], _, _, _, hk => hk.elim
  | _ :: _ :: _ :: _, _, _, _, hk => hk.elim
def argI (env : En) (a : Arg) (k : Int → Prop) : Prop := look env a fun d => match d with | .int i => k i | _ => False
theorem argI_rep {K : PySem.W.Frag} {F : Fr} {env : En} {σ : L2.St} {G H : Hp} (ok : Ok K Rs F env σ G H) {a : Arg} {v : V} {k : Int → Prop} (h : ArgRep K G σ a v) (hk : argI env a k) : ∃ i, v = .int i ∧ k i := by
  obtain ⟨d, h1, h2⟩ := ok.look h hk
  cases d with
  | int i =>
    have h2 : Rep K G (.int i) v := h2
    rw [Rep] at h2
    exact ⟨i, h2, h1⟩
  | _ => cases h1
def iRange1 (ma : MA) : MI := fun env Q Em => ma env (fun as e1 => on1 as fun x => argI e1 x fun j => (-(2 ^ 62) ≤ j ∧ j < 2 ^ 62) ∧ Q (rangeD 0 j.toNat) e1) Em
theorem di_range1 (hg : Gl X "range") (hm : X.mg "range" = none) (ha : DA X Rs W [a] t_ha ma) (hs : starEach [a] X.env = [(false, eval a X.env)] := by rfl) : DI X Rs W tg (.Call (.Name "range" p) [a] [] pos) (iRng1 t_ha) (iRange1 ma) := by
  obtain ⟨a1, a2⟩ := ha
  refine ⟨pi_range1 hg hm a1 hs, fun F env σ G H R Qm Em ok lk hm q => a2 F env σ G H _ _ Em ok lk hm fun as e1 vs G1 H1 ok1 x1 r1 m1 => ?_⟩
  obtain ⟨x, v, m2, rfl, r2⟩ := on1_rep r1 m1
  obtain ⟨j, rfl, h, hj⟩ := argI_rep ok1 r2 m2
  exact ⟨j, rfl, h.1, h.2, q _ e1 _ G1 H1 ok1 x1 (seq_range 0 j.toNat) hj⟩
def iRange2 (ma : MA) : MI := fun env Q Em => ma env (fun as e1 => on2 as fun x y => argI e1 x fun i => argI e1 y fun j => (-(2 ^ 62) ≤ i ∧ i < 2 ^ 62 ∧ -(2 ^ 62) ≤ j ∧ j < 2 ^ 62) ∧ Q (rangeD i (j - i).toNat) e1) Em
theorem di_range2 (hg : Gl X "range") (hm : X.mg "range" = none) (ha : DA X Rs W [a, b] t_ha ma) (hs : starEach [a, b] X.env = [(false, eval a X.env), (false, eval b X.env)] := by rfl) (hs2 : starEach [b] X.env = [(false, eval b X.env)] := by rfl) : DI X Rs W tg (.Call (.Name "range" p) [a, b] [] pos) (iRng2 t_ha) (iRange2 ma) := by
  obtain ⟨a1, a2⟩ := ha
  refine ⟨pi_range2 hg hm a1 hs hs2, fun F env σ G H R Qm Em ok lk hm q => a2 F env σ G H _ _ Em ok lk hm fun as e1 vs G1 H1 ok1 x1 r1 m1 => ?_⟩
  obtain ⟨x, y, v, w, m2, rfl, r2, r3⟩ := on2_rep r1 m1
  obtain ⟨i, rfl, m3⟩ := argI_rep ok1 r2 m2
  obtain ⟨j, rfl, h, hj⟩ := argI_rep ok1 r3 m3
  exact ⟨i, j, rfl, h, q _ e1 _ G1 H1 ok1 x1 (seq_range i _) hj⟩
/-- a list argument that stays -/
def argL (a : Arg) (k : List D → Prop) : Prop := isVal a fun d => isLst d k
theorem argL_rep {K : PySem.W.Frag} {G : Hp} {σ : L2.St} {a : Arg} {v : V} {k : List D → Prop} (h : ArgRep K G σ a v) (hk : argL a k) : ∃ ds p vs, k ds ∧ v = .ref p ∧ G p = some (.lst vs) ∧ Reps K G ds vs := by
  cases a with
  | ref i => cases hk
  | val d => exact isLst_rep h hk
/-- reversed(list) -/
def iRevL (ma : MA) : MI := fun env Q Em => ma env (fun as e1 => on1 as fun x => argL x fun ds => Q ds.reverse e1) Em
theorem di_rev (hg : Gl X "reversed") (hm : X.mg "reversed" = none) (ha : DA X Rs W [a] t_ha ma) (hs : starEach [a] X.env = [(false, eval a X.env)] := by rfl) : DI X Rs W tg (.Call (.Name "reversed" p) [a] [] pos) (iRev X.K t_ha) (iRevL ma) := by
  obtain ⟨a1, a2⟩ := ha
  refine ⟨pi_reversed hg hm a1 hs, fun F env σ G H R Qm Em ok lk hm q => a2 F env σ G H _ _ Em ok lk hm fun as e1 vs G1 H1 ok1 x1 r1 m1 => ?_⟩
  obtain ⟨x, v, m2, rfl, r2⟩ := on1_rep r1 m1
  obtain ⟨ds, p, us, hk, rfl, h1, h2⟩ := argL_rep r2 m2
  refine ⟨p, us, rfl, .of (ok1.sub _ _ h1), q _ e1 _ G1 H1 ok1 x1 ⟨fun i H x hi => ?_, fun i H x hi => ?_, fun i x H H' q ⟨e, y⟩ d hd => ?_⟩ hk⟩
  · rw [List.length_reverse, ← h2.length] at hi
    exact ⟨hi, us, us[us.length - 1 - i]'(by omega), .of (x _ _ h1), List.getElem?_eq_getElem _⟩
  · rw [List.length_reverse, ← h2.length] at hi
    exact hi
  · obtain ⟨v, e1, e2⟩ := (Reps.reverse h2).get hd
    have hy := y us (.of (q _ _ h1))
    have hi : i < us.length := by
      have := (List.getElem?_eq_some_iff.mp e1).1
      rw [List.length_reverse] at this
      exact this
    rw [List.getElem?_reverse hi, hy] at e1
    cases e1
    exact .inl ⟨e, e2⟩
/-- enumerate(list) -/
def enumD : Nat → List D → List D
  | _, [] => []
  | i, d :: ds => .tup [.int (i : Int), d] :: enumD (i + 1) ds
theorem enumD_length : ∀ (ds : List D) (i : Nat), (enumD i ds).length = ds.length
  | [], _ => rfl
  | d :: ds, i => by
    unfold enumD
    rw [List.length_cons, List.length_cons, enumD_length]
theorem enumD_get : ∀ (ds : List D) (i j : Nat) (x : D), (enumD j ds)[i]? = some x → ∃ d, ds[i]? = some d ∧ x = .tup [.int ((j + i : Nat) : Int), d]
  | [], _, _, _, h => by simp [enumD] at h
  | d :: ds, 0, j, x, h => ⟨d, rfl, by simp [enumD] at h; exact h.symm⟩
  | d :: ds, i + 1, j, x, h => by
    obtain ⟨d', e1, e2⟩ := enumD_get ds i (j + 1) x (by simpa [enumD] using h)
    exact ⟨d', by simpa using e1, by rw [e2, show j + 1 + i = j + (i + 1) by omega]⟩
def iEnumL (ma : MA) : MI := fun env Q Em => ma env (fun as e1 => on1 as fun x => argL x fun ds => Q (enumD 0 ds) e1) Em
theorem di_enum {elts : List Expr} {kk : Nat} {tpos : Pos} (hg : Gl X "enumerate") (hm : X.mg "enumerate" = none) (ha : DA X Rs W [a] t_ha ma) (hs : starEach [a] X.env = [(false, eval a X.env)] := by rfl) : DI X Rs W (.Tuple elts kk tpos) (.Call (.Name "enumerate" p) [a] [] pos) (iEnum X.K t_ha) (iEnumL ma) := by
  obtain ⟨a1, a2⟩ := ha
  refine ⟨pi_enum hg hm a1 hs, fun F env σ G H R Qm Em ok lk hm q => a2 F env σ G H _ _ Em ok lk hm fun as e1 vs G1 H1 ok1 x1 r1 m1 => ?_⟩
  obtain ⟨x, v, m2, rfl, r2⟩ := on1_rep r1 m1
  obtain ⟨ds, p, us, hk, rfl, h1, h2⟩ := argL_rep r2 m2
  refine ⟨p, us, rfl, .of (ok1.sub _ _ h1), q _ e1 _ G1 H1 ok1 x1 ⟨fun i H x hi => ?_, fun i H x hi => ?_, fun i x H H' q ⟨T, y, e1, e2, e3, e4⟩ d hd => ?_⟩ hk⟩
  · rw [enumD_length, ← h2.length] at hi
    exact ⟨us, us[i], .of (x _ _ h1), List.getElem?_eq_getElem hi⟩
  · rw [enumD_length, ← h2.length] at hi
    exact ⟨us, .of (x _ _ h1), hi⟩
  · obtain ⟨d', hd', rfl⟩ := enumD_get ds i 0 d hd
    obtain ⟨v, f1, f2⟩ := h2.get hd'
    have hy := e4 us (.of (q _ _ h1))
    rw [f1] at hy; cases hy
    exact .inr ⟨T, _, _, e3, e2, e1, rfl, Reps.cons (by rw [Rep]; simp) (Reps.cons f2 (reps_nil.mpr rfl))⟩
/-- zip(list, list) -/
def zipD : List D → List D → List D
  | a :: as, b :: bs => .tup [a, b] :: zipD as bs
  | _, _ => []
theorem zipD_length : ∀ (as bs : List D), (zipD as bs).length = min as.length bs.length
  | [], _ => by simp [zipD]
  | a :: as, [] => by simp [zipD]
  | a :: as, b :: bs => by
    unfold zipD
    rw [List.length_cons, zipD_length as bs, List.length_cons, List.length_cons]
    omega
theorem zipD_get : ∀ (as bs : List D) (i : Nat) (x : D), (zipD as bs)[i]? = some x → ∃ a b, as[i]? = some a ∧ bs[i]? = some b ∧ x = .tup [a, b]
  | [], _, _, _, h => by simp [zipD] at h
  | a :: as, [], _, _, h => by simp [zipD] at h
  | a :: as, b :: bs, 0, x, h => ⟨a, b, rfl, rfl, by simp [zipD] at h; exact h.symm⟩
  | a :: as, b :: bs, i + 1, x, h => by
    obtain ⟨a', b', e1, e2, e3⟩ := zipD_get as bs i x (by simpa [zipD] using h)
    exact ⟨a', b', by simpa using e1, by simpa using e2, e3⟩
def iZipL (ma : MA) : MI := fun env Q Em => ma env (fun as e1 => on2 as fun x y => argL x fun ds => argL y fun es => Q (zipD ds es) e1) Em
theorem di_zip {elts : List Expr} {kk : Nat} {tpos : Pos} (hg : Gl X "zip") (hm : X.mg "zip" = none) (ha : DA X Rs W [a, b] t_ha ma) (hs : starEach [a, b] X.env = (false, eval a X.env) :: starEach [b] X.env := by rfl) (hpl : (backTo pos (starEach [b] X.env)).any (·.1) = false := by rfl) :
    DI X Rs W (.Tuple elts kk tpos) (.Call (.Name "zip" p) [a, b] [] pos) (iZip X.K t_ha) (iZipL ma) := by
  obtain ⟨a1, a2⟩ := ha
  refine ⟨pi_zip hg hm a1 hs hpl, fun F env σ G H R Qm Em ok lk hm q => a2 F env σ G H _ _ Em ok lk hm fun as e1 vs G1 H1 ok1 x1 r1 m1 => ?_⟩
  obtain ⟨x, y, v, w, m2, rfl, r2, r3⟩ := on2_rep r1 m1
  obtain ⟨ds, p, us, m3, rfl, h1, h2⟩ := argL_rep r2 m2
  obtain ⟨es, p', us', hk, rfl, h3, h4⟩ := argL_rep r3 m3
  refine ⟨p, p', us, us', rfl, .of (ok1.sub _ _ h1), .of (ok1.sub _ _ h3), q _ e1 _ G1 H1 ok1 x1 ⟨fun i H x hi => ?_, fun i H x hi => ?_, fun i x H H' q ⟨T, y, z, e1, e2, e3, e4, e5⟩ d hd => ?_⟩ hk⟩
  · rw [zipD_length, ← h2.length, ← h4.length] at hi
    exact ⟨us, us', us[i]'(by omega), us'[i]'(by omega), .of (x _ _ h1), .of (x _ _ h3), List.getElem?_eq_getElem _, List.getElem?_eq_getElem _⟩
  · rw [zipD_length, ← h2.length, ← h4.length] at hi
    exact ⟨us, us', .of (x _ _ h1), .of (x _ _ h3), by omega⟩
  · obtain ⟨a', b', k1, k2, rfl⟩ := zipD_get ds es i d hd
    obtain ⟨v, f1, f2⟩ := h2.get k1
    obtain ⟨w, f3, f4⟩ := h4.get k2
    have hy := e4 us (.of (q _ _ h1))
    rw [f1] at hy; cases hy
    have hz := e5 us' (.of (q _ _ h3))
    rw [f3] at hz; cases hz
    exact .inr ⟨T, _, _, e3, e2, e1, rfl, Reps.cons f2 (Reps.cons f4 (reps_nil.mpr rfl))⟩
/-! ### for -/
variable {mi : MI} {mg : MG} {ms : MS} {gs : List Nat}
def loop (mg : MG) (ms : MS) (M : MEnds) (Em : EmT) : List D → En → Prop
  | [], env => M.nx env
  | d :: ds, env => mg d env fun e1 => ms ⟨fun e => loop mg ms M Em ds e, M.rt, M.nx, fun e => loop mg ms M Em ds e⟩ Em e1
def mFor (mi : MI) (mg : MG) (ms : MS) : MS := fun M Em env => mi env (fun items e1 => loop mg ms M Em items e1) Em
theorem sem_for {K : PySem.W.Frag} {ti : TI} {g : TG} {tb : TS} (h1 : SemI K Rs W ti mi) (h2 : SemG K Rs g mg gs) (h3 : SemS K Rs W tb ms) : SemS K Rs W (tFor ti g tb) (mFor mi mg ms) := fun F env σ G H D M Em ok lk el hm =>
  h1 F env σ G H _ _ Em ok lk hm fun items e1 J G1 H1 ok1 x1 sq m1 => by
    refine ⟨fun i m σ' H' => ∃ env' G', Ok K Rs F env' σ' G' H' ∧ Ex G1 G' ∧ i ≤ items.length ∧ m = items.length - i ∧ loop mg ms M Em (items.drop i) env', ⟨items.length, e1, G1, ok1, Ex.refl _, Nat.zero_le _, rfl, m1⟩, fun i m σ' H' hW => ?_⟩
    obtain ⟨env', G', ok', x', hi, rfl, hl⟩ := hW
    by_cases hlt : i < items.length
    · refine .inr ⟨sq.go i H' (x'.trans ok'.sub) hlt, fun σ2 H2 => ∃ env2 G2, Ok K Rs F env2 σ2 G2 H2 ∧ Ex G1 G2 ∧ loop mg ms M Em (items.drop (i + 1)) env2, fun σ2 H2 ⟨env2, G2, a, b, c⟩ => ⟨items.length - (i + 1), by omega, env2, G2, a, b, by omega, rfl, c⟩, fun x H2 hy => ?_⟩
      rw [List.drop_eq_getElem_cons hlt] at hl
      obtain ⟨G2, x2, ok2, rd⟩ := sq.turn x' ok' (List.getElem?_eq_getElem hlt) hy
      refine h2 F env' σ' G2 H2 _ x _ _ ok2 rd hl fun env3 σ3 ok3 _ _ m3 => ?_
      refine h3 F env3 σ3 G2 H2 _ ⟨fun e => loop mg ms M Em (items.drop (i + 1)) e, M.rt, M.nx, fun e => loop mg ms M Em (items.drop (i + 1)) e⟩ Em ok3 lk ⟨fun env4 σ4 G4 H4 ok4 x4 m4 => ⟨env4, G4, ok4, (x'.trans x2).trans x4, m4⟩, fun r env4 σ4 v G4 H4 ok4 x4 rr m4 => el.rt r env4 σ4 v G4 H4 ok4 (((x1.trans x').trans x2).trans x4) rr m4,
        fun env4 σ4 G4 H4 ok4 x4 m4 => el.nx env4 σ4 G4 H4 ok4 (((x1.trans x').trans x2).trans x4) m4, fun env4 σ4 G4 H4 ok4 x4 m4 => ⟨env4, G4, ok4, (x'.trans x2).trans x4, m4⟩⟩ m3
    · have ei : i = items.length := by omega
      subst ei
      rw [List.drop_length] at hl
      exact .inl ⟨sq.stop _ H' (x'.trans ok'.sub) (Nat.le_refl _), el.nx env' σ' G' H' ok' (x1.trans x') hl⟩
theorem ds_for {iter : Expr} {body : List Stmt} (hp : PassesOwn (model X.prog X.w) X.A X.env X.xe) (hc : X.calm = true) (hi : DI X Rs W tg iter t_hi mi) (hg : DG X Rs tg t_hg mg gs) (hb : DSs X Rs W body t_hb ms)
    (hs : ∀ x, foldedSetIterable iter X.env x = pure x := by intro _; rfl) : DS X Rs W (.For tg iter body [] pos) (tFor t_hi t_hg t_hb) (mFor mi mg ms) := by
  obtain ⟨a1, a2⟩ := hi
  obtain ⟨b1, b2⟩ := hg
  obtain ⟨c1, c2⟩ := hb
  exact ⟨ps_for hp hc a1 b1 c1 hs, sem_for a2 b2 c2⟩
/-! ### while -/
def mWhile (mt : MT) (ms : MS) : MS := fun M Em env => ∃ I : Nat → En → Prop, (∃ n, I n env) ∧ ∀ n e, I n e → mt e (fun b e1 => if b = true then ms ⟨fun e2 => ∃ n', n' < n ∧ I n' e2, M.rt, M.nx, fun e2 => ∃ n', n' < n ∧ I n' e2⟩ Em e1 else M.nx e1) Em
theorem ds_while {body : List Stmt} {mt : MT} (hp : PassesOwn (model X.prog X.w) X.A X.env X.xe) (hc : DT X Rs W c t_hc mt) (hb : DSs X Rs W body t_hb ms) : DS X Rs W (.While c body [] pos) (tWhile t_hc t_hb) (mWhile mt ms) := by
  obtain ⟨a1, a2⟩ := hc
  obtain ⟨b1, b2⟩ := hb
  refine ⟨ps_while hp a1 b1, fun F env σ G H D M Em ok lk el hm => ?_⟩
  obtain ⟨I, ⟨n0, i0⟩, hI⟩ := hm
  refine ⟨fun m σ' H' => ∃ env' G', Ok X.K Rs F env' σ' G' H' ∧ Ex G G' ∧ I m env', ⟨n0, env, G, ok, Ex.refl G, i0⟩, fun m σ' H' ⟨env', G', ok', x', i'⟩ => ?_⟩
  refine a2 F env' σ' G' H' _ _ Em ok' lk (hI m env' i') fun b e1 G1 H1 ok1 x1 m1 => ?_
  cases b with
  | false => exact el.nx e1 σ' G1 H1 ok1 (x'.trans x1) m1
  | true =>
    refine ⟨fun σ2 H2 => ∃ m', m' < m ∧ ∃ env2 G2, Ok X.K Rs F env2 σ2 G2 H2 ∧ Ex G G2 ∧ I m' env2, fun σ2 H2 h => h, ?_⟩
    exact b2 F e1 σ' G1 H1 _ ⟨fun e2 => ∃ n', n' < m ∧ I n' e2, M.rt, M.nx, fun e2 => ∃ n', n' < m ∧ I n' e2⟩ Em ok1 lk ⟨fun env4 σ4 G4 H4 ok4 x4 ⟨n', hn, hi⟩ => ⟨n', hn, env4, G4, ok4, (x'.trans x1).trans x4, hi⟩, fun r env4 σ4 v G4 H4 ok4 x4 rr m4 => el.rt r env4 σ4 v G4 H4 ok4 ((x'.trans x1).trans x4) rr m4,
      fun env4 σ4 G4 H4 ok4 x4 m4 => el.nx env4 σ4 G4 H4 ok4 ((x'.trans x1).trans x4) m4, fun env4 σ4 G4 H4 ok4 x4 ⟨n', hn, hi⟩ => ⟨n', hn, env4, G4, ok4, (x'.trans x1).trans x4, hi⟩⟩ m1
end
end VL
/-! VL: comprehensions, defs and their calls. -/
namespace VL
open PySem PySem.Spec PyProof.Rows L2

/-! ### places forgotten -/
theorem wipe_get (σ : L2.St) (vs : List Nat) (i : Nat) : (wipe σ vs)[i]? = if i ∈ vs ∧ i < σ.length then some none else σ[i]? := by
  induction vs with
  | nil => simp [wipe]
  | cons v vs ih =>
    unfold wipe
    by_cases e : v = i
    · subst e
      by_cases h : v < σ.length
      · rw [List.getElem?_set_self (by rw [wipe_length]; exact h), if_pos ⟨List.mem_cons_self, h⟩]
      · rw [List.getElem?_eq_none (by rw [List.length_set, wipe_length]; omega), if_neg (fun z => h z.2), List.getElem?_eq_none (by omega)]
    · rw [List.getElem?_set_ne e, ih]
      have : (i ∈ v :: vs ∧ i < σ.length) ↔ (i ∈ vs ∧ i < σ.length) := by
        simp only [List.mem_cons]
        constructor
        · rintro ⟨h | h, k⟩
          · exact absurd h.symm e
          · exact ⟨h, k⟩
        · rintro ⟨h, k⟩
          exact ⟨.inr h, k⟩
      by_cases c : i ∈ vs ∧ i < σ.length
      · rw [if_pos c, if_pos (this.mpr c)]
      · rw [if_neg c, if_neg fun z => c (this.mp z)]
def wipeE (env : En) : List Nat → En
  | [] => env
  | v :: vs => (wipeE env vs).set v .u
theorem wipeE_length (env : En) : ∀ vs : List Nat, (wipeE env vs).length = env.length
  | [] => rfl
  | v :: vs => by unfold wipeE; rw [List.length_set, wipeE_length env vs]
theorem wipeE_get (env : En) (vs : List Nat) (i : Nat) : (wipeE env vs)[i]? = if i ∈ vs ∧ i < env.length then some .u else env[i]? := by
  induction vs with
  | nil => simp [wipeE]
  | cons v vs ih =>
    unfold wipeE
    by_cases e : v = i
    · subst e
      by_cases h : v < env.length
      · rw [List.getElem?_set_self (by rw [wipeE_length]; exact h), if_pos ⟨List.mem_cons_self, h⟩]
      · rw [List.getElem?_eq_none (by rw [List.length_set, wipeE_length]; omega), if_neg (fun z => h z.2), List.getElem?_eq_none (by omega)]
    · rw [List.getElem?_set_ne e, ih]
      have : (i ∈ v :: vs ∧ i < env.length) ↔ (i ∈ vs ∧ i < env.length) := by
        simp only [List.mem_cons]
        constructor
        · rintro ⟨h | h, k⟩
          · exact absurd h.symm e
          · exact ⟨h, k⟩
        · rintro ⟨h, k⟩
          exact ⟨.inr h, k⟩
      by_cases c : i ∈ vs ∧ i < env.length
      · rw [if_pos c, if_pos (this.mpr c)]
      · rw [if_neg c, if_neg fun z => c (this.mp z)]
/-- the block's own names are gone, those of the def that they hid are as they were (lists of their own are forgotten) -/
def keepF : DV → DV
  | .f d => .f d
  | _ => .u
def back (env0 : En) : List Nat → En → En
  | [], env => env
  | v :: vs, env => (back env0 vs env).set v (keepF (env0.getD v .u))
theorem back_length (env0 : En) (env : En) : ∀ vs : List Nat, (back env0 vs env).length = env.length
  | [] => rfl
  | v :: vs => by unfold back; rw [List.length_set, back_length env0 env vs]
theorem back_get (env0 env : En) (vs : List Nat) (i : Nat) : (back env0 vs env)[i]? = if i ∈ vs ∧ i < env.length then some (keepF (env0.getD i .u)) else env[i]? := by
  induction vs with
  | nil => simp [back]
  | cons v vs ih =>
    unfold back
    by_cases e : v = i
    · subst e
      by_cases h : v < env.length
      · rw [List.getElem?_set_self (by rw [back_length]; exact h), if_pos ⟨List.mem_cons_self, h⟩]
      · rw [List.getElem?_eq_none (by rw [List.length_set, back_length]; omega), if_neg (fun z => h z.2), List.getElem?_eq_none (by omega)]
    · rw [List.getElem?_set_ne e, ih]
      have : (i ∈ v :: vs ∧ i < env.length) ↔ (i ∈ vs ∧ i < env.length) := by
        simp only [List.mem_cons]
        constructor
        · rintro ⟨h | h, k⟩
          · exact absurd h.symm e
          · exact ⟨h, k⟩
        · rintro ⟨h, k⟩
          exact ⟨.inr h, k⟩
      by_cases c : i ∈ vs ∧ i < env.length
      · rw [if_pos c, if_pos (this.mpr c)]
      · rw [if_neg c, if_neg fun z => c (this.mp z)]
section
variable {K : PySem.W.Frag} {Rs : List Nat} {F : Fr} {env : En} {σ : L2.St} {G H : Hp}
theorem Ok.wiped (ok : Ok K Rs F env σ G H) {vs : List Nat} (hR : ∀ i ∈ vs, i ∉ Rs) : Ok K Rs F (wipeE env vs) (wipe σ vs) G H := by
  have hl := ok.len
  have key : ∀ j p, OwnAt (wipeE env vs) (wipe σ vs) j p → OwnAt env σ j p := fun j p ⟨dv, z1, z2, z3⟩ => by
    rw [wipeE_get] at z1
    rw [wipe_get] at z3
    by_cases c : j ∈ vs ∧ j < env.length
    · rw [if_pos c] at z1; cases z1; cases z2
    · rw [if_neg c] at z1
      rw [if_neg (by rw [hl]; exact c)] at z3
      exact ⟨dv, z1, z2, z3⟩
  refine ⟨ok.sub, ok.fr, ok.nw, ok.g0, ok.rs, fun i a h => ⟨?_, (ok.rp i a h).2⟩, ok.rh, by rw [wipe_length, wipeE_length]; exact hl, fun i dv x h1 h2 => ?_, fun j k p h1 h2 => ok.dis j k p (key j p h1) (key k p h2)⟩
  · rw [wipe_get, if_neg fun z => hR i z.1 (by rw [← ok.rs]; exact List.mem_map.mpr ⟨_, h, rfl⟩)]
    exact (ok.rp i a h).1
  · rw [wipeE_get] at h1
    rw [wipe_get] at h2
    by_cases c : i ∈ vs ∧ i < env.length
    · rw [if_pos c] at h1; cases h1; trivial
    · rw [if_neg c] at h1
      rw [if_neg (by rw [hl]; exact c)] at h2
      exact ok.var i dv x h1 h2
/-- behind the block -/
theorem Ok.unwiped {env2 : En} {σ2 : L2.St} {G2 H2 : Hp} {vs : List Nat} (ok0 : Ok K Rs F env σ G H) (ok : Ok K Rs F env2 σ2 G2 H2) (e : Ex G G2) (hR : ∀ i ∈ vs, i ∉ Rs) (hl : σ2.length = σ.length) (hs : ∀ i, i ∉ vs → σ2[i]? = σ[i]?) : Ok K Rs F (back env vs env2) σ G2 H2 := by
  have l2 := ok.len
  have key : ∀ j p, OwnAt (back env vs env2) σ j p → j ∉ vs ∧ OwnAt env2 σ2 j p := fun j p ⟨dv, z1, z2, z3⟩ => by
    rw [back_get] at z1
    by_cases c : j ∈ vs ∧ j < env2.length
    · rw [if_pos c] at z1; cases z1
      cases q : env.getD j .u <;> rw [q] at z2 <;> cases z2
    · rw [if_neg c] at z1
      have hj : j ∉ vs := fun z => c ⟨z, (List.getElem?_eq_some_iff.mp z1).1⟩
      exact ⟨hj, dv, z1, z2, by rw [hs j hj]; exact z3⟩
  refine ⟨ok.sub, ok.fr, ok.nw, ok.g0, ok.rs, fun i a h => ⟨(ok0.rp i a h).1, (ok.rp i a h).2⟩, ok.rh, by rw [back_length, ← l2, hl], fun i dv x h1 h2 => ?_, fun j k p h1 h2 => ok.dis j k p (key j p h1).2 (key k p h2).2⟩
  rw [back_get] at h1
  by_cases c : i ∈ vs ∧ i < env2.length
  · rw [if_pos c] at h1; cases h1
    cases q : env.getD i .u with
    | f d =>
      have hv := ok0.var i (.f d) x (getD_some q (by simp)) h2
      obtain ⟨v, e1, e2⟩ := hv
      exact ⟨v, e1, Rep.mono e d v e2⟩
    | _ => trivial
  · rw [if_neg c] at h1
    have hj : i ∉ vs := fun z => c ⟨z, (List.getElem?_eq_some_iff.mp h1).1⟩
    exact ok.var i dv x h1 (by rw [hs i hj]; exact h2)
end
/-- what is pending at p changes -/
theorem Ok.updP {K : PySem.W.Frag} {Rs : List Nat} {F : Fr} {env : En} {σ : L2.St} {G H : Hp} (ok : Ok K Rs F env σ G H) {p : Addr} {o : HO} (hg : G p = none) (h0 : F.H0 p = none) (hn : ∀ i, ¬ OwnAt env σ i p) : Ok K Rs F env σ G (upd H p o) := by
  refine ⟨fun a u h => ?_, fun a u h hm => ?_, ok.nw, ok.g0, ok.rs, fun i a h => ⟨(ok.rp i a h).1, ?_⟩, ok.rh, ok.len, fun i dv x h1 h2 => ?_, ok.dis⟩
  · rw [upd_ne fun z => by subst z; rw [hg] at h; cases h]
    exact ok.sub a u h
  · rw [upd_ne fun z => by subst z; rw [h0] at h; cases h]
    exact ok.fr a u h hm
  · by_cases e : a = p
    · subst e; rw [upd_same]; simp
    · rw [upd_ne e]; exact (ok.rp i a h).2
  · refine (ok.var i dv x h1 h2).ext (Ex.refl G) fun q u hx ho hq => ?_
    have ow : OwnAt env σ i q := ⟨dv, h1, ho, by rw [h2, hx]⟩
    have ne : q ≠ p := fun z => by subst z; exact hn i ow
    exact ⟨by rw [upd_ne ne]; exact hq, (ok.own ow).1⟩
/-! ### [elt for target in iter if ..] -/
abbrev EmN : EmT := fun _ _ => False
abbrev WN : WX := fun _ _ _ _ => False
theorem linkN {K : PySem.W.Frag} {Rs : List Nat} {F : Fr} {W : WX} : Link K Rs F W EmN := fun _ _ _ _ _ _ _ _ _ h => h.elim
structure DTs (X : Cx) (Rs : List Nat) (W : WX) (ifs : List Expr) (t : TT) (m : MT) : Prop where
  p : PTs X ifs t
  s : SemT X.K Rs W t m
def mYes : MT := fun env Q _ => Q true env
def lcGo (vs : List Nat) (mg : MG) (mt : MT) (me : ME) (Q : DV → En → Prop) : List D → List D → En → Prop
  | [], acc, env => Q (.o acc) env
  | d :: ds, acc, env => mg d (wipeE env vs) fun e1 => mt e1 (fun b e2 => if b = true then me e2 (fun r e3 => fz r fun x => acc.length < sizeLine ∧ lcGo vs mg mt me Q ds (acc ++ [x]) (back env vs e3)) EmN
      else lcGo vs mg mt me Q ds acc (back env vs e2)) EmN
def mLc (vs : List Nat) (mi : MI) (mg : MG) (mt : MT) (me : ME) : ME := fun env Q Em => mi env (fun items e1 => lcGo vs mg mt me Q items [] e1) Em
section
variable {K : PySem.W.Frag} {Rs : List Nat} {W : WX} {mi : MI} {mg : MG} {mt : MT} {me : ME} {gs vs : List Nat}
theorem wipe_of {σ σ2 : L2.St} (h1 : σ2.length = (wipe σ vs).length) (h2 : ∀ i, i ∉ vs → σ2[i]? = (wipe σ vs)[i]?) : wipe σ2 vs = wipe σ vs ∧ σ2.length = σ.length ∧ ∀ i, i ∉ vs → σ2[i]? = σ[i]? := by
  rw [wipe_length] at h1
  have h3 : ∀ i, i ∉ vs → σ2[i]? = σ[i]? := fun i hi => by
    rw [h2 i hi, wipe_get, if_neg fun z => hi z.1]
  refine ⟨List.ext_getElem? fun i => ?_, h1, h3⟩
  rw [wipe_get, wipe_get, h1]
  by_cases c : i ∈ vs ∧ i < σ.length
  · rw [if_pos c, if_pos c]
  · rw [if_neg c, if_neg c]
    by_cases hi : i ∈ vs
    · have : ¬ i < σ.length := fun z => c ⟨hi, z⟩
      rw [List.getElem?_eq_none (by omega), List.getElem?_eq_none (by omega)]
    · exact h3 i hi
theorem sem_lc {ti : TI} {g : TG} {tt : TT} {te : TE} (hR : ∀ i ∈ vs, i ∉ Rs) (hgs : ∀ i ∈ gs, i ∈ vs) (h1 : SemI K Rs W ti mi) (h2 : SemG K Rs g mg gs) (h3 : SemT K Rs WN tt mt) (h4 : SemE K Rs WN te me) : SemE K Rs W (tLc ti g tt te vs) (mLc vs mi mg mt me) := fun F env σ G H Q Qm Em ok lk hm q =>
  h1 F env σ G H _ _ Em ok lk hm fun items e1 J G1 H1 ok1 x1 sq m1 => fun Dl hD => by
    have hg0 := ok1.gnone hD
    have hF0 := ok1.fresh hD
    -- the new list is pending at Dl
    refine ⟨fun i m H' => ∃ env' G' acc us, Ok K Rs F env' σ G' H' ∧ Ex G1 G' ∧ i ≤ items.length ∧ m = items.length - i ∧ H' Dl = some (.lst us) ∧ G' Dl = none ∧ Reps K G' acc us ∧ (∀ j, ¬ OwnAt env' σ j Dl) ∧ lcGo vs mg mt me Qm (items.drop i) acc env',
      ⟨items.length, e1, G1, [], [], ok1.newO hD, Ex.refl _, Nat.zero_le _, rfl, upd_same, hg0, reps_nil.mpr rfl, ok1.notOwn hD, m1⟩, fun i m H' hW => ?_⟩
    obtain ⟨env', G', acc, us, ok', x', hi, rfl, hDl, hGl, hacc, hnot, hl⟩ := hW
    by_cases hlt : i < items.length
    · refine .inr ⟨sq.go i H' (x'.trans ok'.sub) hlt, fun H2 => ∃ env2 G2 acc2 us2, Ok K Rs F env2 σ G2 H2 ∧ Ex G1 G2 ∧ H2 Dl = some (.lst us2) ∧ G2 Dl = none ∧ Reps K G2 acc2 us2 ∧ (∀ j, ¬ OwnAt env2 σ j Dl) ∧ lcGo vs mg mt me Qm (items.drop (i + 1)) acc2 env2,
        fun H2 ⟨env2, G2, acc2, us2, a1, a2, a3, a4, a5, a6, a7⟩ => ⟨items.length - (i + 1), by omega, env2, G2, acc2, us2, a1, a2, by omega, rfl, a3, a4, a5, a6, a7⟩, fun x H2 hy => ?_⟩
      rw [List.drop_eq_getElem_cons hlt] at hl
      -- the item; from here on Dl is protected
      have okN := ok'.toNow
      obtain ⟨G2, x2, ok2, rd⟩ := sq.turn x' okN (List.getElem?_eq_getElem hlt) hy
      have fin : ∀ {env5 : En} {σ5 : L2.St} {G5 H5 : Hp}, Ok K Rs (F.now env' σ G' H') env5 σ5 G5 H5 → Ex G2 G5 → σ5.length = σ.length → (∀ j, j ∉ vs → σ5[j]? = σ[j]?) →
          Ok K Rs F (back env' vs env5) σ G5 H5 ∧ H5 Dl = some (.lst us) ∧ G5 Dl = none ∧ ∀ j, ¬ OwnAt (back env' vs env5) σ j Dl := fun {env5 σ5 G5 H5} ok5 x5 l5 s5 => by
        have okB := Ok.unwiped (vs := vs) okN ok5 (x2.trans x5) hR l5 s5
        obtain ⟨p1, p2, p3⟩ := ok'.pend hDl hGl hF0 hnot okB
        exact ⟨ok'.ofNow okB, p1, p2, p3⟩
      have okw := ok2.wiped hR
      refine h2 _ _ _ G2 H2 _ x _ _ okw rd hl fun env3 σ3 ok3 l3 s3 m3 => ?_
      obtain ⟨w1, w2, w3⟩ := wipe_of (vs := vs) (σ := σ) l3 fun j hj => s3 j fun z => hj (hgs j z)
      refine ⟨w1, h3 _ env3 σ3 G2 H2 _ _ EmN ok3 linkN m3 fun b env4 G4 H4 ok4 x4 m4 => ?_⟩
      cases b with
      | false =>
        obtain ⟨a1, a2, a3, a4⟩ := fin ok4 x4 w2 w3
        exact ⟨_, G4, acc, us, a1, (x'.trans x2).trans x4, a2, a3, Reps.mono (x2.trans x4) acc us hacc, a4, m4⟩
      | true =>
        refine h4 _ env4 σ3 G4 H4 _ _ EmN ok4 linkN m4 fun r env5 v G5 H5 ok5 x5 rr m5 => ?_
        obtain ⟨d, G6, ⟨hz, m6⟩, x6, ok6, rd6⟩ := ok5.freeze rr m5
        obtain ⟨a1, a2, a3, a4⟩ := fin ok6 ((x4.trans x5).trans x6) w2 w3
        refine ⟨us, a2, by rw [hacc.length]; exact hz, _, G6, acc ++ [d], us ++ [v], ?_, (((x'.trans x2).trans x4).trans x5).trans x6, upd_same, a3, Reps.append (Reps.mono ((((x2.trans x4).trans x5).trans x6)) acc us hacc) (Reps.cons rd6 (reps_nil.mpr rfl)), a4, m6⟩
        exact a1.updP a3 hF0 a4
    · have ei : i = items.length := by omega
      subst ei
      rw [List.drop_length] at hl
      refine .inl ⟨sq.stop _ H' (x'.trans ok'.sub) (Nat.le_refl _), q (.o acc) env' _ G' H' ok' (x1.trans x') ⟨Dl, us, rfl, hGl, hF0, hDl, hacc, hnot⟩ hl⟩
variable {X : Cx} {elt tg iter : Expr} {ifs : List Expr} {scope : Scope} {own : List (Str × Nat)} {pos : Pos}
theorem dts_nil : DTs X Rs W [] tYes mYes := ⟨pts_nil, fun F env σ G H Q Qm Em ok lk hm q => q true env G H ok (Ex.refl G) hm⟩
theorem dts_one {c : Expr} (h : DT X Rs W c t_h mt) : DTs X Rs W [c] t_h mt := let ⟨a, b⟩ := h; ⟨pts_one a, b⟩
/-- a block's context -/
abbrev Blk (X : Cx) (scope : Scope) (s : Shared) (H : Hp) (C : Addr) (cl : List (Str × Addr)) (fp : List Addr) : Cx := X.blk s H scope (compEnvC scope cl C X.env) fp
theorem de_lc {t0 : TI} {t1 : TG} {t2 : TT} {t3 : TE} (hc : X.calm = true) (hN : X.N.Nodup) (hi : DI X Rs W tg iter t0 mi) (ok : BlkOk X.N X.env.scope scope own) (hg : ∀ s H C cl fp, DG (Blk X scope s H C cl fp) Rs tg t1 mg gs)
    (ht : ∀ s H C cl fp, DTs (Blk X scope s H C cl fp) Rs WN ifs t2 mt) (he : ∀ s H C cl fp, DE (Blk X scope s H C cl fp) Rs WN elt t3 me)
    (hR : ∀ i ∈ own.map (·.2), i ∉ Rs := by decide) (hgs : ∀ i ∈ gs, i ∈ own.map (·.2) := by decide) (hs : ∀ x, foldedSetIterable iter X.env x = pure x := by intro _; rfl) :
    DE X Rs W (.ListComp elt [⟨tg, iter, ifs, 0⟩] scope pos) (tLc t0 t1 t2 t3 (own.map (·.2))) (mLc (own.map (·.2)) mi mg mt me) :=
  ⟨pe_lc hc hN hi.p ok (fun s H C cl fp => (hg s H C cl fp).p) (fun s H C cl fp => (ht s H C cl fp).p) (fun s H C cl fp => (he s H C cl fp).p) hs,
    sem_lc hR hgs hi.s (hg X.s_0 X.H_0 0 [] []).s (ht X.s_0 X.H_0 0 [] []).s (he X.s_0 X.H_0 0 [] []).s⟩
/-- name = [..] on one line -/
theorem ds_setLc (i : Nat) {y : Str} {py : Pos} {spos : Pos} {t0 : TI} {t1 : TG} {t2 : TT} {t3 : TE} (hc : X.calm = true) (hN : X.N.Nodup) (hi : DI X Rs W tg iter t0 mi) (ok : BlkOk X.N X.env.scope scope own) (hg : ∀ s H C cl fp, DG (Blk X scope s H C cl fp) Rs tg t1 mg gs)
    (ht : ∀ s H C cl fp, DTs (Blk X scope s H C cl fp) Rs WN ifs t2 mt) (he : ∀ s H C cl fp, DE (Blk X scope s H C cl fp) Rs WN elt t3 me)
    (hsw : swapsWith (.ListComp elt [⟨tg, iter, ifs, 0⟩] scope pos) (some (.Name y py)) spos.line X.env = pure true) (hy : X.N[i]? = some y := by rfl) (hyl : X.env.scope.names.lookup y = some .local := by rfl) (hRi : i ∉ Rs := by decide)
    (hR : ∀ i ∈ own.map (·.2), i ∉ Rs := by decide) (hgs : ∀ i ∈ gs, i ∈ own.map (·.2) := by decide) (hs : ∀ x, foldedSetIterable iter X.env x = pure x := by intro _; rfl) :
    DS X Rs W (.Assign [.Name y py] (.ListComp elt [⟨tg, iter, ifs, 0⟩] scope pos) spos) (tAsg (tLc t0 t1 t2 t3 (own.map (·.2))) (gName i)) (mSet i (mLc (own.map (·.2)) mi mg mt me)) :=
  ⟨ps_setLc hc hN hy hyl hsw hi.p ok (fun s H C cl fp => (hg s H C cl fp).p) (fun s H C cl fp => (ht s H C cl fp).p) (fun s H C cl fp => (he s H C cl fp).p) hs,
    sem_set hRi (sem_lc hR hgs hi.s (hg X.s_0 X.H_0 0 [] []).s (ht X.s_0 X.H_0 0 [] []).s (he X.s_0 X.H_0 0 [] []).s)⟩
end

/-! ### defs: their promises by values, their calls -/
/-- by the arguments: what is wanted of the result and of the callers' lists (at the places Rs), of an error -/
abbrev MF := List DV → (DV → List DV → Prop) → (Er → List DV → Prop) → Prop
def outs (Rs : List Nat) (env : En) : List DV := Rs.map fun i => env.getD i .u
def spOf (K : PySem.W.Frag) (Rs : List Nat) (n : Nat) (m : MF) : Sp := fun vs H Q E => vs.length = n ∧ ∃ (dvs : List DV) (G : Hp) (R : List (Nat × Addr)) (Qm : DV → List DV → Prop) (Em : Er → List DV → Prop),
  Ok K Rs ⟨H, G, R⟩ dvs (vs.map some) G H ∧ m dvs Qm Em ∧
  (∀ r env σ v G' H', Ok K Rs ⟨H, G, R⟩ env σ G' H' → RRep K ⟨H, G, R⟩ env σ G' H' r v → Qm r (outs Rs env) → Q v H') ∧
  (∀ e env σ G' H' cls d, Ok K Rs ⟨H, G, R⟩ env σ G' H' → ERep K G' H' e cls d → Em e (outs Rs env) → E cls d H')
/-- a def's body as a function -/
def mBody (N n : Nat) (Rs : List Nat) (ms : MS) : MF := fun dvs Q Em => ms ⟨fun env => Q (.f .non) (outs Rs env), fun r env => Q r (outs Rs env), fun _ => False, fun _ => False⟩ (fun e env => Em e (outs Rs env)) (dvs ++ List.replicate (N - n) .u)
theorem ok_start {K : PySem.W.Frag} {Rs : List Nat} {F : Fr} {G H : Hp} {dvs : List DV} {vs : List V} {N : List Str} (ok : Ok K Rs F dvs (vs.map some) G H) : Ok K Rs F (dvs ++ List.replicate (N.length - vs.length) .u) (L2.start N vs) G H := by
  have hl := ok.len
  rw [List.length_map] at hl
  unfold L2.start
  have key : ∀ i p, OwnAt (dvs ++ List.replicate (N.length - vs.length) .u) (vs.map some ++ List.replicate (N.length - vs.length) none) i p → OwnAt dvs (vs.map some) i p := fun i p ⟨dv, z1, z2, z3⟩ => by
    by_cases h : i < vs.length
    · rw [List.getElem?_append_left (by omega)] at z1
      rw [List.getElem?_append_left (by rw [List.length_map]; exact h)] at z3
      exact ⟨dv, z1, z2, z3⟩
    · rw [List.getElem?_append_right (by omega)] at z1
      have := List.mem_of_getElem? z1
      rw [List.mem_replicate] at this
      rw [this.2] at z2; cases z2
  refine ⟨ok.sub, ok.fr, ok.nw, ok.g0, ok.rs, fun i a h => ⟨?_, (ok.rp i a h).2⟩, ok.rh, by simp [hl], fun i dv x h1 h2 => ?_, fun i j p h1 h2 => ok.dis i j p (key i p h1) (key j p h2)⟩
  · have := (ok.rp i a h).1
    have hi := (List.getElem?_eq_some_iff.mp this).1
    rw [List.getElem?_append_left hi]; exact this
  · by_cases h : i < vs.length
    · rw [List.getElem?_append_left (by omega)] at h1
      rw [List.getElem?_append_left (by rw [List.length_map]; exact h)] at h2
      exact ok.var i dv x h1 h2
    · rw [List.getElem?_append_right (by omega)] at h1
      have := List.mem_of_getElem? h1
      rw [List.mem_replicate] at this
      rw [this.2]; trivial
section
variable {P : Program} {w : World} {K : PySem.W.Frag} {mg : Str → Option Value} {base : Heap}
/-- THE RULE for a def -/
theorem fn_ok {x qual : Str} {st : Stmt} {f : Addr} {fd : FuncData} {N ps : List Str} {k : Nat} {Rs : List Nat} {ms : MS} (F : Fun K x qual st f fd) (S : FnScope N ps (defScope st))
    (hbody : ∀ (cdv : Value) (A : Around) (outer : List Env) (s : Shared) (H : Hp) (E : XK), Room k (A.deeper (envOfC qual (defScope st) s.heap.objs.size f cdv)) →
      ∃ t, DSs (cxOf (L2.CX P w) P w K mg base N qual (defScope st) f cdv A outer s H E) Rs (fun cls d _ H => E cls d H) (defBody st) t ms) : FnOk P w K mg base (L2.CX P w) (k + 1) f fd ps (spOf K Rs ps.length (mBody N.length ps.length Rs ms)) := by
  refine F.okX S (fun vs H Q E h => h.1) (fun cdv A outer s H vs Q E hr h => ?_)
  obtain ⟨hl, dvs, G, R, Qm, Em, ok, hm, hQ, hE⟩ := h
  obtain ⟨t, p, sm⟩ := hbody cdv A outer s H E hr
  refine ⟨t, p, ?_⟩
  refine sm ⟨H, G, R⟩ _ _ G H _ ⟨fun env => Qm (.f .non) (outs Rs env), fun r env => Qm r (outs Rs env), fun _ => False, fun _ => False⟩ _ (ok_start ok) (fun e env σ G' H' cls d ok' er he => hE e env σ G' H' cls d ok' er he) ⟨fun env σ G' H' ok' _ h => hQ (.f .non) env σ .non G' H' ok' (show Rep K G' .non .non by rw [Rep]) h, fun r env σ v G' H' ok' _ rr h => hQ r env σ v G' H' ok' rr h, fun _ _ _ _ _ _ h => h.elim, fun _ _ _ _ _ _ h => h.elim⟩ ?_
  rw [hl]; exact hm
end
end VL
/-! VL: calls. -/
namespace VL
open PySem PySem.Spec PyProof.Rows L2

def posA : Nat → List Arg → List Nat
  | _, [] => []
  | k, .ref _ :: as => k :: posA (k + 1) as
  | k, .val _ :: as => posA (k + 1) as
def refsA : List Arg → List Nat
  | [] => []
  | .ref i :: as => i :: refsA as
  | .val _ :: as => refsA as
def dvA (env : En) : Arg → DV
  | .val d => .f d
  | .ref i => env.getD i .u
def refL : Nat → List Arg → List V → List (Nat × Addr)
  | k, .ref _ :: as, .ref p :: vs => (k, p) :: refL (k + 1) as vs
  | k, _ :: as, _ :: vs => refL (k + 1) as vs
  | _, _, _ => []
def setL : List Nat → List DV → En → En
  | i :: is, d :: ds, env => setL is ds (env.set i d)
  | _, _, env => env
def ownAll (env : En) (is : List Nat) : Prop := ∀ i ∈ is, (env.getD i .u).own = true
instance (env : En) (is : List Nat) : Decidable (ownAll env is) := by unfold ownAll; infer_instance
/-- a call by the callee's function -/
def callA (mf : MF) (Rc : List Nat) (n : Nat) (as : List Arg) (env : En) (Q : DV → En → Prop) (Em : EmT) : Prop :=
  as.length = n ∧ posA 0 as = Rc ∧ (refsA as).Nodup ∧ ownAll env (refsA as) ∧ mf (as.map (dvA env)) (fun r os => Q r (setL (refsA as) os env)) (fun e os => Em e (setL (refsA as) os env))

section
variable {K : PySem.W.Frag} {Rs : List Nat} {F : Fr} {env : En} {σ : L2.St} {G H : Hp}
theorem setL_length : ∀ (is : List Nat) (ds : List DV) (env : En), (setL is ds env).length = env.length
  | [], _, _ => by simp [setL]
  | _ :: _, [], _ => by simp [setL]
  | i :: is, d :: ds, env => by rw [setL, setL_length, List.length_set]
theorem setL_out : ∀ {is : List Nat} {ds : List DV} {env : En} {j : Nat}, j ∉ is → (setL is ds env)[j]? = env[j]?
  | [], _, _, _, _ => by simp [setL]
  | _ :: _, [], _, _, _ => by simp [setL]
  | i :: is, d :: ds, env, j, h => by
    rw [setL, setL_out (fun z => h (List.mem_cons_of_mem _ z)), List.getElem?_set_ne (fun z => h (by rw [z]; exact List.mem_cons_self))]
theorem setL_in : ∀ {is : List Nat} {ds : List DV} {env : En} {n j : Nat} {x : DV}, is.Nodup → is[n]? = some j → (setL is ds env)[j]? = some x → (∃ d, ds[n]? = some d ∧ x = d) ∨ (ds[n]? = none ∧ env[j]? = some x)
  | [], _, _, _, _, _, _, h, _ => by simp at h
  | _ :: _, [], env, n, j, x, _, _, h => .inr ⟨by simp, by simpa [setL] using h⟩
  | i :: is, d :: ds, env, 0, j, x, hn, h, hx => by
    simp at h; subst h
    rw [setL, setL_out (List.nodup_cons.mp hn).1] at hx
    obtain ⟨rfl, _⟩ := set_eq hx
    exact .inl ⟨_, rfl, rfl⟩
  | i :: is, d :: ds, env, n + 1, j, x, hn, h, hx => by
    have h' : is[n]? = some j := by simpa using h
    have ne : i ≠ j := fun z => (List.nodup_cons.mp hn).1 (z ▸ List.mem_of_getElem? h')
    rw [setL] at hx
    rcases setL_in (List.nodup_cons.mp hn).2 h' hx with ⟨d', e1, e2⟩ | ⟨e1, e2⟩
    · exact .inl ⟨d', by simpa using e1, e2⟩
    · exact .inr ⟨by simpa using e1, set_ne ne e2⟩
/-- the callers' lists among the arguments -/
theorem args_len : ∀ {as : List Arg} {vs : List V}, ArgsRep K G σ as vs → vs.length = as.length
  | [], _, h => by cases h; rfl
  | a :: as, _, ⟨v, ws, e, _, h⟩ => by rw [e, List.length_cons, List.length_cons, args_len h]
theorem args_get : ∀ {as : List Arg} {vs : List V} {i : Nat} {a : Arg}, ArgsRep K G σ as vs → as[i]? = some a → ∃ v, vs[i]? = some v ∧ ArgRep K G σ a v
  | [], _, _, _, _, h => by simp at h
  | a :: as, _, 0, _, ⟨v, ws, e, r, _⟩, h => by
    simp at h; subst h e
    exact ⟨v, rfl, r⟩
  | a :: as, _, i + 1, _, ⟨v, ws, e, _, r⟩, h => by
    subst e
    obtain ⟨u, e1, e2⟩ := args_get (i := i) r (by simpa using h)
    exact ⟨u, by simpa using e1, e2⟩
theorem own_ref (ok : Ok K Rs F env σ G H) {i : Nat} {v : V} (h : (env.getD i .u).own = true) (hv : σ[i]? = some (some v)) : ∃ p, v = .ref p ∧ OwnAt env σ i p := by
  have hn : env.getD i .u ≠ .u := fun z => by rw [z] at h; cases h
  obtain ⟨v', h1, h2⟩ := ok.slot rfl hn
  rw [hv] at h1; cases h1
  cases q : env.getD i .u with
  | u => exact absurd q hn
  | f d => rw [q] at h; cases h
  | o ds =>
    rw [q] at h2
    obtain ⟨p, vs, e, _⟩ := h2
    cases e
    exact ⟨p, rfl, _, getD_some q (by simp), rfl, hv⟩
  | od ks ds =>
    rw [q] at h2
    obtain ⟨p, vs, e, _⟩ := h2
    cases e
    exact ⟨p, rfl, _, getD_some q (by simp), rfl, hv⟩
/-- the list of the references by place -/
theorem refL_fst (ok : Ok K Rs F env σ G H) : ∀ {as : List Arg} {vs : List V} {k : Nat}, ArgsRep K G σ as vs → ownAll env (refsA as) → (refL k as vs).map (·.1) = posA k as
  | [], _, _, h, _ => by cases h; rfl
  | .val d :: as, _, k, ⟨v, ws, e, _, h⟩, ho => by
    subst e
    have : refL k (.val d :: as) (v :: ws) = refL (k + 1) as ws := by cases v <;> rfl
    rw [this]
    exact refL_fst ok (k := k + 1) h ho
  | .ref i :: as, _, k, ⟨v, ws, e, r, h⟩, ho => by
    subst e
    obtain ⟨p, rfl, _⟩ := own_ref ok (ho i List.mem_cons_self) r
    show k :: (refL (k + 1) as ws).map (·.1) = k :: posA (k + 1) as
    rw [refL_fst ok (k := k + 1) h fun j hj => ho j (List.mem_cons_of_mem _ hj)]
theorem refL_mem : ∀ {as : List Arg} {vs : List V} {k j : Nat} {p : Addr}, (j, p) ∈ refL k as vs → ∃ (n i : Nat), j = k + n ∧ as[n]? = some (.ref i) ∧ vs[n]? = some (.ref p)
  | [], _, _, _, _, h => by simp [refL] at h
  | .val d :: as, [], _, _, _, h => by simp [refL] at h
  | .ref i :: as, [], _, _, _, h => by simp [refL] at h
  | .val d :: as, v :: vs, k, j, p, h => by
    have : refL k (.val d :: as) (v :: vs) = refL (k + 1) as vs := by cases v <;> rfl
    rw [this] at h
    obtain ⟨n, i, e1, e2, e3⟩ := refL_mem h
    exact ⟨n + 1, i, by omega, by simpa using e2, by simpa using e3⟩
  | .ref i :: as, v :: vs, k, j, p, h => by
    cases v with
    | ref q =>
      have h : (j, p) ∈ (k, q) :: refL (k + 1) as vs := h
      rcases List.mem_cons.mp h with e | h
      · cases e
        exact ⟨0, i, rfl, rfl, rfl⟩
      · obtain ⟨n, i, e1, e2, e3⟩ := refL_mem h
        exact ⟨n + 1, i, by omega, by simpa using e2, by simpa using e3⟩
    | _ =>
      have h : (j, p) ∈ refL (k + 1) as vs := h
      obtain ⟨n, i, e1, e2, e3⟩ := refL_mem h
      exact ⟨n + 1, i, by omega, by simpa using e2, by simpa using e3⟩
theorem refL_in : ∀ {as : List Arg} {vs : List V} {k n i : Nat} {p : Addr}, as[n]? = some (.ref i) → vs[n]? = some (.ref p) → (k + n, p) ∈ refL k as vs
  | [], _, _, _, _, _, h, _ => by simp at h
  | _ :: _, [], _, _, _, _, _, h => by simp at h
  | a :: as, v :: vs, k, 0, i, p, h1, h2 => by
    simp at h1 h2; subst h1 h2
    exact List.mem_cons_self
  | a :: as, v :: vs, k, n + 1, i, p, h1, h2 => by
    have r := refL_in (k := k + 1) (n := n) (i := i) (p := p) (as := as) (vs := vs) (by simpa using h1) (by simpa using h2)
    rw [show k + 1 + n = k + (n + 1) by omega] at r
    cases a <;> cases v <;> first | exact r | exact List.mem_cons_of_mem _ r
/-- where among the places the n-th argument's stands -/
theorem pos_ref : ∀ {as : List Arg} {k n i : Nat}, as[n]? = some (.ref i) → ∃ m : Nat, (posA k as)[m]? = some (k + n) ∧ (refsA as)[m]? = some i
  | [], _, _, _, h => by simp at h
  | .ref j :: as, k, 0, i, h => by
    simp at h; subst h
    exact ⟨0, rfl, rfl⟩
  | .val d :: as, k, 0, i, h => by simp at h
  | .ref j :: as, k, n + 1, i, h => by
    obtain ⟨m, e1, e2⟩ := pos_ref (as := as) (k := k + 1) (n := n) (i := i) (by simpa using h)
    exact ⟨m + 1, by simpa [posA, show k + 1 + n = k + (n + 1) by omega] using e1, by simpa [refsA] using e2⟩
  | .val d :: as, k, n + 1, i, h => by
    obtain ⟨m, e1, e2⟩ := pos_ref (as := as) (k := k + 1) (n := n) (i := i) (by simpa using h)
    exact ⟨m, by simpa [posA, show k + 1 + n = k + (n + 1) by omega] using e1, by simpa [refsA] using e2⟩
theorem ref_pos : ∀ {as : List Arg} {i : Nat}, i ∈ refsA as → ∃ n : Nat, as[n]? = some (.ref i)
  | [], _, h => by simp [refsA] at h
  | .ref j :: as, i, h => by
    rcases List.mem_cons.mp h with e | h
    · subst e; exact ⟨0, rfl⟩
    · obtain ⟨n, e⟩ := ref_pos h
      exact ⟨n + 1, by simpa using e⟩
  | .val d :: as, i, h => by
    obtain ⟨n, e⟩ := ref_pos (as := as) h
    exact ⟨n + 1, by simpa using e⟩
/-- THE CALL -/
theorem call_core {W : WX} {mf : MF} {Rc : List Nat} {as : List Arg} {vs : List V} {n : Nat} {Qm : DV → En → Prop} {Em : EmT} {Q : VK} (ok : Ok K Rs F env σ G H) (lk : Link K Rs F W Em) (r : ArgsRep K G σ as vs) (h : callA mf Rc n as env Qm Em)
    (q : ∀ r env' v G' H', Ok K Rs F env' σ G' H' → Ex G G' → RRep K F env' σ G' H' r v → Qm r env' → Q v H') : spOf K Rc n mf vs H Q (fun cls d H' => W cls d σ H') := by
  obtain ⟨hn, hpos, hnd, ho, hm⟩ := h
  have hl := args_len r
  -- the n-th reference
  have rf : ∀ {m i : Nat}, as[m]? = some (.ref i) → ∃ p : Addr, vs[m]? = some (.ref p) ∧ OwnAt env σ i p := fun {m i} e => by
    obtain ⟨v, e1, e2⟩ := args_get r e
    have hi : i ∈ refsA as := by
      obtain ⟨k, _, e3⟩ := pos_ref (k := 0) e
      exact List.mem_of_getElem? e3
    obtain ⟨p, rfl, ow⟩ := own_ref ok (ho i hi) e2
    exact ⟨p, e1, ow⟩
  have ref_uniq : ∀ {m m' i : Nat}, as[m]? = some (.ref i) → as[m']? = some (.ref i) → m = m' := fun {m m' i} e e' => by
    obtain ⟨k, a1, a2⟩ := pos_ref (k := 0) e
    obtain ⟨k', b1, b2⟩ := pos_ref (k := 0) e'
    obtain ⟨c1, c2⟩ := List.getElem?_eq_some_iff.mp a2
    obtain ⟨d1, d2⟩ := List.getElem?_eq_some_iff.mp b2
    have : k = k' := (List.getElem_inj hnd).mp (c2.trans d2.symm)
    subst this
    rw [a1] at b1
    simpa using b1
  have memR : ∀ {j : Nat} {p : Addr}, (j, p) ∈ refL 0 as vs → ∃ i : Nat, as[j]? = some (.ref i) ∧ vs[j]? = some (.ref p) ∧ OwnAt env σ i p := fun {j p} hm => by
    obtain ⟨m, i, e1, e2, e3⟩ := refL_mem hm
    rw [Nat.zero_add] at e1; subst e1
    obtain ⟨p', e4, ow⟩ := rf e2
    rw [e3] at e4; cases e4
    exact ⟨i, e2, e3, ow⟩
  have ok0 : Ok K Rc ⟨H, G, refL 0 as vs⟩ (as.map (dvA env)) (vs.map some) G H := by
    refine ⟨ok.sub, fun a o h _ => h, fun a o h => .inl h, Ex.refl G, by rw [← hpos]; exact refL_fst ok r ho, fun j p hj => ?_, fun j p hj => ?_, by simp [hl], fun j dv x h1 h2 => ?_, fun j j' p h1 h2 => ?_⟩
    · obtain ⟨i, e1, e2, ow⟩ := memR hj
      obtain ⟨_, _, o, e3⟩ := ok.own ow
      exact ⟨by simp [e2], by rw [e3]; simp⟩
    · obtain ⟨i, e1, e2, ow⟩ := memR hj
      obtain ⟨_, _, o, e3⟩ := ok.own ow
      show H p ≠ none
      rw [e3]; simp
    · rw [List.getElem?_map] at h1 h2
      cases ea : as[j]? with
      | none => rw [ea] at h1; cases h1
      | some a =>
        rw [ea] at h1; cases h1
        obtain ⟨v, ev, rv⟩ := args_get r ea
        rw [ev] at h2; cases h2
        cases a with
        | val d => exact ⟨v, rfl, rv⟩
        | ref i =>
          obtain ⟨p, e1, ow⟩ := rf ea
          rw [ev] at e1; cases e1
          have mine : Mine ⟨H, G, refL 0 as vs⟩ j p := .inl (by have := refL_in (k := 0) ea ev; rwa [Nat.zero_add] at this)
          obtain ⟨dw, z1, z2, z3⟩ := ow
          have hv := ok.var i dw _ z1 z3
          have ed : dvA env (.ref i) = dw := by show env.getD i .u = dw; rw [List.getD_eq_getElem?_getD, z1]; rfl
          rw [ed]
          cases dw with
          | u => trivial
          | f d => exact hv
          | o ds =>
            obtain ⟨q, us, c1, c2, _, c4⟩ := hv
            cases c1
            exact ⟨_, us, rfl, c2, mine, c4⟩
          | od ks ds =>
            obtain ⟨q, us, c1, c2, _, c4⟩ := hv
            cases c1
            exact ⟨_, us, rfl, c2, mine, c4⟩
    · have key : ∀ {j : Nat}, OwnAt (as.map (dvA env)) (vs.map some) j p → ∃ i : Nat, as[j]? = some (.ref i) ∧ OwnAt env σ i p := fun {j} ⟨dv, z1, z2, z3⟩ => by
        rw [List.getElem?_map] at z1
        cases ea : as[j]? with
        | none => rw [ea] at z1; cases z1
        | some a =>
          rw [ea] at z1; cases z1
          cases a with
          | val d => cases z2
          | ref i =>
            obtain ⟨p', e1, ow⟩ := rf ea
            rw [List.getElem?_map, e1] at z3
            cases z3
            exact ⟨i, rfl, ow⟩
      obtain ⟨i, a1, a2⟩ := key h1
      obtain ⟨i', b1, b2⟩ := key h2
      have := ok.dis i i' p a2 b2
      subst this
      exact ref_uniq a1 b1
  -- behind the call
  have behind : ∀ {env' : En} {σ' : L2.St} {G' H' : Hp}, Ok K Rc ⟨H, G, refL 0 as vs⟩ env' σ' G' H' → Ok K Rs F (setL (refsA as) (outs Rc env') env) σ G' H' ∧ (∀ i p, OwnAt (setL (refsA as) (outs Rc env') env) σ i p → OwnAt env σ i p) := fun {env' σ' G' H'} ok' => by
    have h0 : ∀ {a : Addr}, H a = none → F.H0 a = none := fun h => ok.fresh h
    have notR : ∀ {a : Addr} {o : HO}, F.H0 a = some o → a ∉ F.R.map (·.2) → a ∉ (refL 0 as vs).map (·.2) := fun {a o} h hn hm => by
      obtain ⟨⟨j, b⟩, hj, e⟩ := List.mem_map.mp hm
      simp only at e; subst e
      obtain ⟨i, _, _, ow⟩ := memR hj
      rcases (ok.own ow).2.1 with z | z
      · exact hn (List.mem_map.mpr ⟨_, z, rfl⟩)
      · rw [h] at z; cases z
    have own_new : ∀ i p, OwnAt (setL (refsA as) (outs Rc env') env) σ i p → OwnAt env σ i p := fun i p ⟨dv, z1, z2, z3⟩ => by
      by_cases hi : i ∈ refsA as
      · obtain ⟨p', e, ow⟩ := own_ref ok (ho i hi) z3
        cases e
        exact ow
      · rw [setL_out hi] at z1
        exact ⟨dv, z1, z2, z3⟩
    refine ⟨⟨ok'.sub, fun a o h hn => ?_, fun a o h => ?_, ok.g0.trans ok'.g0, ok.rs, fun i a h => ⟨(ok.rp i a h).1, ?_⟩, ok.rh, by rw [setL_length]; exact ok.len, fun i dv x h1 h2 => ?_, fun i j p h1 h2 => ok.dis i j p (own_new i p h1) (own_new j p h2)⟩, own_new⟩
    · exact ok'.fr a o (ok.fr a o h hn) (notR h hn)
    · rcases ok'.nw a o h with z | z
      · exact ok.nw a o z
      · exact .inr (h0 z)
    · by_cases hm : a ∈ (refL 0 as vs).map (·.2)
      · obtain ⟨⟨j, b⟩, hj, e⟩ := List.mem_map.mp hm
        simp only at e; subst e
        exact (ok'.rp j b hj).2
      · obtain ⟨o, e⟩ := Option.ne_none_iff_exists'.mp (ok.rp i a h).2
        rw [ok'.fr a o e hm]; simp
    · by_cases hi : i ∈ refsA as
      · obtain ⟨m, em⟩ := ref_pos hi
        obtain ⟨p, ev, ow⟩ := rf em
        obtain ⟨k, e1, e2⟩ := pos_ref (k := 0) em
        rw [Nat.zero_add, hpos] at e1
        obtain ⟨dw, w1, w2, w3⟩ := id ow
        rw [w3] at h2; cases h2
        rcases setL_in hnd e2 h1 with ⟨d, e3, rfl⟩ | ⟨e3, _⟩
        · unfold outs at e3
          rw [List.getElem?_map, e1] at e3
          have e3 : env'.getD m .u = dv := by simpa using e3
          have hin : (m, p) ∈ refL 0 as vs := by have := refL_in (k := 0) em ev; rwa [Nat.zero_add] at this
          cases dv with
          | u => trivial
          | f d =>
            obtain ⟨v, e4, e5⟩ := ok'.var m _ _ (getD_some e3 (by simp)) (ok'.rp m p hin).1
            exact ⟨v, e4, e5⟩
          | o ds =>
            obtain ⟨q, us, c1, c2, _, c4⟩ := ok'.var m _ _ (getD_some e3 (by simp)) (ok'.rp m p hin).1
            exact ⟨q, us, c1, c2, by cases c1; exact (ok.own ow).2.1, c4⟩
          | od ks ds =>
            obtain ⟨q, us, c1, c2, _, c4⟩ := ok'.var m _ _ (getD_some e3 (by simp)) (ok'.rp m p hin).1
            exact ⟨q, us, c1, c2, by cases c1; exact (ok.own ow).2.1, c4⟩
        · unfold outs at e3
          rw [List.getElem?_map, e1] at e3
          cases e3
      · rw [setL_out hi] at h1
        refine (ok.var i dv x h1 h2).ext ok'.g0 fun q u hx ho' hq => ?_
        have ow : OwnAt env σ i q := ⟨dv, h1, ho', by rw [h2, hx]⟩
        refine ⟨ok'.fr q u hq fun hm => ?_, ?_⟩
        · obtain ⟨⟨j, b⟩, hj, e⟩ := List.mem_map.mp hm
          simp only at e; subst e
          obtain ⟨i', e1, _, ow'⟩ := memR hj
          have := ok.dis i i' b ow ow'
          subst this
          obtain ⟨k, _, e3⟩ := pos_ref (k := 0) e1
          exact hi (List.mem_of_getElem? e3)
        · cases z : G' q with
          | none => rfl
          | some u' =>
            rcases ok'.nw q u' z with y | y
            · rw [show (Fr.mk H G (refL 0 as vs)).G0 = G from rfl, (ok.own ow).1] at y; cases y
            · rw [show (Fr.mk H G (refL 0 as vs)).H0 = H from rfl, hq] at y; cases y
  refine ⟨hl.trans hn, as.map (dvA env), G, refL 0 as vs, _, _, ok0, hm, fun r env' σ' v G' H' ok' rr hq => ?_, fun e env' σ' G' H' cls d ok' er he => ?_⟩
  · obtain ⟨okc, hown⟩ := behind ok'
    refine q r _ v G' H' okc ok'.g0 ?_ hq
    cases r with
    | u => exact rr
    | f d => exact rr
    | o ds =>
      obtain ⟨p, us, e1, a1, a2, a3, a4, a5⟩ := rr
      exact ⟨p, us, e1, a1, ok.fresh a2, a3, a4, fun i ow => by
        obtain ⟨_, _, o, z⟩ := ok.own (hown i p ow)
        rw [show (Fr.mk H G (refL 0 as vs)).H0 = H from rfl, z] at a2; cases a2⟩
    | od ks ds =>
      obtain ⟨p, us, e1, a1, a2, a3, a4, a5, a6⟩ := rr
      exact ⟨p, us, e1, a1, ok.fresh a2, a3, a4, a5, fun i ow => by
        obtain ⟨_, _, o, z⟩ := ok.own (hown i p ow)
        rw [show (Fr.mk H G (refL 0 as vs)).H0 = H from rfl, z] at a2; cases a2⟩
  · exact lk e _ σ G' H' cls d (behind ok').1 er he
end
/-! ### f(..) -/
section
variable {X : Cx} {Rs : List Nat} {W : WX} {k : Nat} {f : Addr} {fd : FuncData} {ps : List Str} {mf : MF} {Rc : List Nat} {x : Str} {p pos : Pos} {e : Expr} {es : List Expr} {ma mk : MA} {ta tk : TA}
def mCall (mf : MF) (Rc : List Nat) (n : Nat) (ma : MA) : ME := fun env Q Em => ma env (fun as e1 => callA mf Rc n as e1 Q Em) Em
theorem de_call (Fn : FnOk X.prog X.w X.K X.mg X.base (L2.CX X.prog X.w) k f fd ps (spOf X.K Rc ps.length mf)) (hr : Room k X.A) (hg : Gl X x) (hm : X.mg x = some (.ref f)) (hk : PySem.W.keepIn X.K (.ref f) = true) (hb : Binds X.K fd ps []) (hx : ∀ σ, PassesAt (L2.CX X.prog X.w) X σ (WE W σ))
    (ha : DA X Rs W (e :: es) ta ma) (hdb : (x == ("__debug__" : Str)) = false := by decide) (he : starEach (e :: es) X.env = (false, eval e X.env) :: starEach es X.env := by rfl) (hpl : (backTo pos (starEach es X.env)).any (·.1) = false := by rfl) :
    DE X Rs W (.Call (.Name x p) (e :: es) [] pos) (tCallS (spOf X.K Rc ps.length mf) (WE W) ta) (mCall mf Rc ps.length ma) := by
  refine ⟨pe_callS Fn hr hg hm hk hb hx ha.p hdb he hpl, fun F env σ G H Q Qm Em ok lk hm q => ha.s F env σ G H _ _ Em ok lk hm fun as e1 vs G1 H1 ok1 x1 r1 m1 => ?_⟩
  exact call_core ok1 lk r1 m1 fun r env' v G' H' ok' x' rr hq => q r env' v G' H' ok' (x1.trans x') rr hq
/-! ### f(.., k = ..) -/
/-- the arguments in the parameters' order: pm tells for each parameter its place among those that are written -/
def permL {α : Type} (pm : List Nat) (xs : List α) : List α := pm.filterMap fun i => xs[i]?
theorem permL_rep {K : PySem.W.Frag} {G : Hp} {σ : L2.St} {as : List Arg} {vs : List V} (r : ArgsRep K G σ as vs) : ∀ pm : List Nat, ArgsRep K G σ (permL pm as) (permL pm vs)
  | [] => rfl
  | i :: pm => by
    unfold permL
    rw [List.filterMap_cons, List.filterMap_cons]
    cases h : as[i]? with
    | none =>
      have : vs[i]? = none := by
        rw [List.getElem?_eq_none_iff] at h ⊢
        rw [args_len r]; exact h
      rw [this]
      exact permL_rep r pm
    | some a =>
      obtain ⟨v, e1, e2⟩ := args_get r h
      rw [e1]
      exact ⟨v, _, rfl, e2, permL_rep r pm⟩
theorem permL_vals {vs : List V} {us : List Value} (r : Vals vs us) : ∀ pm : List Nat, Vals (permL pm vs) (permL pm us)
  | [] => .nil
  | i :: pm => by
    unfold permL
    rw [List.filterMap_cons, List.filterMap_cons]
    cases h : vs[i]? with
    | none =>
      rw [Vals.none_of r h]
      exact permL_vals r pm
    | some v =>
      obtain ⟨u, e1, e2⟩ := r.get h
      rw [e1]
      exact .cons e2 (permL_vals r pm)
theorem args_append {K : PySem.W.Frag} {G : Hp} {σ : L2.St} : ∀ {as bs : List Arg} {vs ws : List V}, ArgsRep K G σ as vs → ArgsRep K G σ bs ws → ArgsRep K G σ (as ++ bs) (vs ++ ws)
  | [], _, _, _, h, r => by
    have h : _ = [] := h
    subst h; exact r
  | a :: as, bs, _, ws, ⟨v, us, e, h1, h2⟩, r => by
    subst e
    exact ⟨v, us ++ ws, rfl, h1, args_append h2 r⟩
structure DK (X : Cx) (Rs : List Nat) (W : WX) (kws : List Keyword) (t : TA) (m : MA) : Prop where
  p : PK X kws t
  s : SemA X.K Rs W t m
theorem dk_nil : DK X Rs W [] tNil aNil := ⟨pk_nil, fun F env σ G H Q Qm Em ok lk hm q => q [] _ _ _ _ ok (Ex.refl G) rfl hm⟩
theorem dk_cons {nm : Option Str} {kpos : Pos} {kws : List Keyword} {te : TE} {me : MO} (ha : DO X Rs W e te me) (hr : DK X Rs W kws tk mk) : DK X Rs W (⟨nm, e, kpos⟩ :: kws) (tCons te tk) (aCons me mk) :=
  ⟨pk_cons ha.p hr.p, fun F env σ G H Q Qm Em ok lk hm q => ha.s F env σ G H _ _ Em ok lk hm fun x e1 v1 G1 H1 ok1 x1 r1 m1 => hr.s F e1 σ G1 H1 _ _ Em ok1 lk m1 fun xs e2 vs G2 H2 ok2 x2 r2 m2 =>
    q (x :: xs) e2 _ G2 H2 ok2 (x1.trans x2) ⟨v1, vs, rfl, r1.mono x2, r2⟩ m2⟩
def tCallKS (sp : Sp) (nu nk : Nat) (pm : List Nat) (E : L2.St → XK) (t tk : TA) : TE := fun σ H Q => t σ H fun vs H1 => tk σ H1 fun zs H2 => vs.length = nu ∧ zs.length = nk ∧ sp (permL pm (vs ++ zs)) H2 Q (E σ)
/-- how the parameters are bound: nu positional values, those of the keywords ks -/
def KB (K : PySem.W.Frag) (fd : FuncData) (ps ks : List Str) (nu : Nat) (pm : List Nat) : Prop :=
  ∀ (s : Shared) (us ws : List Value), K.In s.heap → us.length = nu → ws.length = ks.length → (permL pm (us ++ ws)).length = ps.length ∧ BindsTo s fd ⟨us, ks.zip ws⟩ (ps.zip (permL pm (us ++ ws)))
theorem run_fnKS {CX : CXT} {sp : Sp} {E : L2.St → XK} {ks : List Str} {pm : List Nat} {nu : Nat} {pins : List (Addr × Obj)} {σ : L2.St} {H : Hp} {s : Shared} {Q : VK} {us ws : List Value} {vs zs : List V} (F : FnOk X.prog X.w X.K X.mg X.base CX k f fd ps sp) (hr : Room k X.A) (hb : KB X.K fd ps ks nu pm) (hx : PassesAt CX X σ (E σ))
    (I : Inv X pins σ H s) (r : Vals vs us) (rz : Vals zs ws) (hu : us.length = nu) (hw : ws.length = ks.length) (h : sp (permL pm (vs ++ zs)) H Q (E σ)) : wpAny (model X.prog X.w) X.A (PySem.call (.ref f) us (ks.zip ws)) (EP X pins σ Q) X.xe s := by
  obtain ⟨hl, hbt⟩ := hb s us ws I.kIn hu hw
  refine wpAny_call (codeAny_mono (F.run X.A X.stack s H ⟨us, ks.zip ws⟩ _ _ Q (E σ) hr I.env0 hbt (permL_vals (r.append rz) pm) h) fun r s' hq => ?_)
  cases r with
  | error e => exact hx pins H s e s' I hq
  | ok fl =>
    cases fl with
    | ret u => exact I.after hq
    | next => exact False.elim hq
    | brk => exact False.elim hq
    | cont => exact False.elim hq
def mCallK (mf : MF) (Rc : List Nat) (n nu nk : Nat) (pm : List Nat) (ma mk : MA) : ME := fun env Q Em => ma env (fun as e1 => mk e1 (fun bs e2 => as.length = nu ∧ bs.length = nk ∧ callA mf Rc n (permL pm (as ++ bs)) e2 Q Em) Em) Em
theorem sem_callK {K : PySem.W.Frag} {n nu nk : Nat} {pm : List Nat} (h1 : SemA K Rs W ta ma) (h2 : SemA K Rs W tk mk) : SemE K Rs W (tCallKS (spOf K Rc n mf) nu nk pm (WE W) ta tk) (mCallK mf Rc n nu nk pm ma mk) := fun F env σ G H Q Qm Em ok lk hm q =>
  h1 F env σ G H _ _ Em ok lk hm fun as e1 us G1 H1 ok1 x1 r1 m1 => h2 F e1 σ G1 H1 _ _ Em ok1 lk m1 fun bs e2 vs G2 H2 ok2 x2 r2 m2 =>
    ⟨(args_len r1).trans m2.1, (args_len r2).trans m2.2.1, call_core ok2 lk (permL_rep (args_append (r1.mono x2) r2) pm) m2.2.2 fun r env' v G' H' ok' x' rr hq => q r env' v G' H' ok' ((x1.trans x2).trans x') rr hq⟩
/-- only keywords -/
theorem de_callK0 {ks : List Str} {pm : List Nat} {kws : List Keyword} (Fn : FnOk X.prog X.w X.K X.mg X.base (L2.CX X.prog X.w) k f fd ps (spOf X.K Rc ps.length mf)) (hr : Room k X.A) (hg : Gl X x) (hm : X.mg x = some (.ref f)) (hk : PySem.W.keepIn X.K (.ref f) = true) (hb : KB X.K fd ps ks 0 pm) (hx : ∀ σ, PassesAt (L2.CX X.prog X.w) X σ (WE W σ))
    (hkw : DK X Rs W kws tk mk) (hall : (backToKw pos (keywordEach kws X.env)).all (·.1.isSome) = true := by rfl) (hks : (backToKw pos (keywordEach kws X.env)).filterMap (·.1) = ks := by rfl) (hdb : (x == ("__debug__" : Str)) = false := by decide)
    (hpl : ((backTo pos (starEach [] X.env)).any (·.1) || (backToKw pos (keywordEach kws X.env)).any (·.1.isNone)) = false := by rfl) :
    DE X Rs W (.Call (.Name x p) [] kws pos) (tCallKS (spOf X.K Rc ps.length mf) 0 ks.length pm (WE W) tNil tk) (mCallK mf Rc ps.length 0 ks.length pm aNil mk) := by
  refine ⟨⟨fun pins s σ H Q I h => ?_⟩, sem_callK da_nil.s hkw.s⟩
  refine wpAny_Call_Name_kw (ld_glob I hg hm ?_ hdb)
  refine PySem.W.callWith_KW0 (h₀ := X.base) I.ok.mod.kin hk hall (thn (hkw.p.run pos pins s σ H _ I h) fun ws s2 ⟨zs, H2, I2, rz, q2⟩ => ⟨I2.kIn, ?_⟩) hpl
  rw [hks]
  exact run_fnKS (us := []) (vs := []) Fn hr hb (hx σ) I2 .nil rz rfl (by rw [← rz.length]; exact q2.2.1) q2.2.2
theorem de_callK {ks : List Str} {nu : Nat} {pm : List Nat} {kws : List Keyword} (Fn : FnOk X.prog X.w X.K X.mg X.base (L2.CX X.prog X.w) k f fd ps (spOf X.K Rc ps.length mf)) (hr : Room k X.A) (hg : Gl X x) (hm : X.mg x = some (.ref f)) (hk : PySem.W.keepIn X.K (.ref f) = true) (hb : KB X.K fd ps ks nu pm) (hx : ∀ σ, PassesAt (L2.CX X.prog X.w) X σ (WE W σ))
    (ha : DA X Rs W (e :: es) ta ma) (hkw : DK X Rs W kws tk mk) (hall : (backToKw pos (keywordEach kws X.env)).all (·.1.isSome) = true := by rfl) (hks : (backToKw pos (keywordEach kws X.env)).filterMap (·.1) = ks := by rfl) (hdb : (x == ("__debug__" : Str)) = false := by decide)
    (he : starEach (e :: es) X.env = (false, eval e X.env) :: starEach es X.env := by rfl) (hpl : ((backTo pos (starEach (e :: es) X.env)).any (·.1) || (backToKw pos (keywordEach kws X.env)).any (·.1.isNone)) = false := by rfl) :
    DE X Rs W (.Call (.Name x p) (e :: es) kws pos) (tCallKS (spOf X.K Rc ps.length mf) nu ks.length pm (WE W) ta tk) (mCallK mf Rc ps.length nu ks.length pm ma mk) := by
  refine ⟨⟨fun pins s σ H Q I h => ?_⟩, sem_callK ha.s hkw.s⟩
  refine wpAny_Call_Name_kw (ld_glob I hg hm ?_ hdb)
  refine PySem.W.callWith_KW (h₀ := X.base) I.ok.mod.kin hk hall (thn (ha.p.run pos pins s σ H _ I h) fun us s1 ⟨vs, H1, I1, r, q⟩ => ?_) hpl he
  refine thn (hkw.p.run pos pins s1 σ H1 _ I1 q) fun ws s2 ⟨zs, H2, I2, rz, q2⟩ => ⟨I2.kIn, ?_⟩
  rw [hks]
  exact run_fnKS (us := us) Fn hr hb (hx σ) I2 r rz (by rw [← r.length]; exact q2.1) (by rw [← rz.length]; exact q2.2.1) q2.2.2
end
end VL
/-! VL: operators and built-in functions by values. -/
namespace VL
open PySem PySem.Spec PyProof.Rows L2

def req (c : Prop) [Decidable c] (k : Prop) : Prop := if c then k else False
theorem req_of {c : Prop} [Decidable c] {k : Prop} (h : req c k) : c ∧ k := by
  unfold req at h
  by_cases e : c
  · rw [if_pos e] at h; exact ⟨e, h⟩
  · rw [if_neg e] at h; cases h
theorem req_i {c : Prop} [Decidable c] {k : Prop} (hc : c) (h : k) : req c k := by unfold req; rw [if_pos hc]; exact h
section
variable {K : PySem.W.Frag} {Rs : List Nat} {F : Fr} {env : En} {σ : L2.St} {G H : Hp}
theorem v_int {i : Int} {v : V} (h : View K G H (.int i) v) : v = .int i := by
  have h : Rep K G (.int i) v := h
  rw [Rep] at h; exact h
theorem v_bl {i : Bool} {v : V} (h : View K G H (.bl i) v) : v = .bl i := by
  have h : Rep K G (.bl i) v := h
  rw [Rep] at h; exact h
theorem v_str {i : Str} {v : V} (h : View K G H (.str i) v) : v = .str i := by
  have h : Rep K G (.str i) v := h
  rw [Rep] at h; exact h
theorem v_non {v : V} (h : View K G H .non v) : v = .non := by
  have h : Rep K G .non v := h
  rw [Rep] at h; exact h
theorem v_val {w v : V} (h : View K G H (.val w) v) : v = w := by
  have h : Rep K G (.val w) v := h
  rw [Rep] at h; exact h
theorem v_tup {ds : List D} {v : V} (hs : Ex G H) (h : View K G H (.tup ds) v) : ∃ a vs, v = .ref a ∧ H a = some (.tup vs) ∧ Reps K G ds vs := by
  have h : Rep K G (.tup ds) v := h
  rw [Rep] at h
  obtain ⟨a, vs, h1, h2, h3⟩ := h
  exact ⟨a, vs, h1, hs _ _ h2, h3⟩
theorem v_tupG {ds : List D} {v : V} (h : View K G H (.tup ds) v) : ∃ a vs, v = .ref a ∧ G a = some (.tup vs) ∧ Reps K G ds vs := by
  have h : Rep K G (.tup ds) v := h
  rw [Rep] at h
  exact h
theorem v_scr {is : List Int} {v : V} (hs : Ex G H) (h : View K G H (.scr is) v) : ∃ a, v = .ref a ∧ SqL K H a (is.map V.int) := by
  have h : Rep K G (.scr is) v := h
  rw [Rep] at h
  obtain ⟨a, h1, h2⟩ := h
  exact ⟨a, h1, ex_l hs h2⟩
theorem r_int (i : Int) : RRep K F env σ G H (.f (.int i)) (.int i) := by show Rep _ _ _ _; rw [Rep]
theorem r_bl (i : Bool) : RRep K F env σ G H (.f (.bl i)) (.bl i) := by show Rep _ _ _ _; rw [Rep]
theorem r_str (i : Str) : RRep K F env σ G H (.f (.str i)) (.str i) := by show Rep _ _ _ _; rw [Rep]
theorem r_non : RRep K F env σ G H (.f .non) .non := by show Rep _ _ _ _; rw [Rep]
end

/-! ### operators -/
def gII (c : Int → Int → Prop) [∀ i j, Decidable (c i j)] (g : Int → Int → D) : Op2 := fun d e k => match d, e with
  | .int i, .int j => req (c i j) (k (.f (g i j)))
  | _, _ => False
theorem so_rI {K : PySem.W.Frag} {C : Int → Int → Prop} [∀ i j, Decidable (C i j)] {g : Int → Int → V} {g' : Int → Int → D} (hg : ∀ (G : Hp) i j, Rep K G (g' i j) (g i j)) : SemOp K (rI C g) (gII C g') := fun Rs F env σ G H x y d e Q Qm ok vd ve hm q => by
  unfold gII at hm
  split at hm
  · rename_i i j
    obtain ⟨hc, hm⟩ := req_of hm
    rw [v_int vd, v_int ve]
    exact ⟨i, j, rfl, rfl, hc, q (.f (g' i j)) _ G H ok (Ex.refl G) (hg G i j) hm⟩
  · cases hm
theorem so_rI0 {K : PySem.W.Frag} {g : Int → Int → V} {g' : Int → Int → D} (hg : ∀ (G : Hp) i j, Rep K G (g' i j) (g i j)) : SemOp K (rI0 g) (gII (fun _ _ => True) g') := fun Rs F env σ G H x y d e Q Qm ok vd ve hm q => by
  unfold gII at hm
  split at hm
  · rename_i i j
    obtain ⟨hc, hm⟩ := req_of hm
    rw [v_int vd, v_int ve]
    exact ⟨i, j, rfl, rfl, q (.f (g' i j)) _ G H ok (Ex.refl G) (hg G i j) hm⟩
  · cases hm
/-- one of two rules -/
theorem so_or {K : PySem.W.Frag} {r r' : R2} {g g' g2 : Op2} (h : SemOp K r g) (h' : SemOp K r' g') (hs : ∀ d e k, g2 d e k → g d e k ∨ g' d e k) : SemOp K (fun x y H Q => r x y H Q ∨ r' x y H Q) g2 := fun Rs F env σ G H x y d e Q Qm ok vd ve hm q => by
  rcases hs d e Qm hm with hm | hm
  · exact .inl (h Rs F env σ G H x y d e Q Qm ok vd ve hm q)
  · exact .inr (h' Rs F env σ G H x y d e Q Qm ok vd ve hm q)
section
variable {K : PySem.W.Frag}
instance (i j : Int) : Decidable (CMul i j) := by unfold CMul; infer_instance
instance (i j : Int) : Decidable (CDiv i j) := by unfold CDiv; infer_instance
instance (i j : Int) : Decidable (CPow i j) := by unfold CPow; infer_instance
/-- + -/
def gAddS : Op2 := fun d e k => match d, e with
  | .str i, .str j => req (i.length + j.length ≤ sizeLine) (k (.f (.str (i ++ j))))
  | _, _ => False
def gAddL : Op2 := fun d e k => match d, e with
  | .lst a, .lst b => req (a.length + b.length ≤ sizeLine) (k (.o (a ++ b)))
  | _, _ => False
def gAddT : Op2 := fun d e k => match d, e with
  | .tup a, .tup b => req (a.length + b.length ≤ sizeLine) (k (.f (.tup (a ++ b))))
  | _, _ => False
theorem so_addS : SemOp K (fun x y H Q => ∃ i j, x = .str i ∧ y = .str j ∧ i.length + j.length ≤ sizeLine ∧ Q (.str (i ++ j)) H) gAddS := fun Rs F env σ G H x y d e Q Qm ok vd ve hm q => by
  unfold gAddS at hm
  split at hm
  · rename_i i j
    obtain ⟨hc, hm⟩ := req_of hm
    rw [v_str vd, v_str ve]
    exact ⟨i, j, rfl, rfl, hc, q (.f (.str (i ++ j))) _ G H ok (Ex.refl G) (r_str _) hm⟩
  · cases hm
theorem so_addL : SemOp K rCat gAddL := fun Rs F env σ G H x y d e Q Qm ok vd ve hm q => by
  unfold gAddL at hm
  split at hm
  · rename_i as bs
    obtain ⟨hc, hm⟩ := req_of hm
    obtain ⟨a, vs, rfl, h1, h2⟩ := vd
    obtain ⟨b, ws, rfl, h3, h4⟩ := ve
    refine ⟨a, b, vs, ws, rfl, rfl, h1, h3, by rw [h2.length, h4.length]; exact hc, fun p hp => ?_⟩
    obtain ⟨ok2, rr⟩ := ok.rlst hp (Reps.append h2 h4)
    exact q _ _ G _ ok2 (Ex.refl G) rr hm
  · cases hm
theorem so_addT : SemOp K (rCatA K) gAddT := fun Rs F env σ G H x y d e Q Qm ok vd ve hm q => by
  unfold gAddT at hm
  split at hm
  · rename_i as bs
    obtain ⟨hc, hm⟩ := req_of hm
    obtain ⟨a, vs, rfl, h1, h2⟩ := v_tupG vd
    obtain ⟨b, ws, rfl, h3, h4⟩ := v_tupG ve
    refine ⟨a, b, vs, ws, rfl, rfl, .of (ok.sub _ _ h1), .of (ok.sub _ _ h3), by rw [h2.length, h4.length]; exact hc, fun e1 => ?_, fun _ e1 => ?_, fun _ _ p hp => ?_⟩
    · subst e1
      have e2 : as = [] := by cases as with | nil => rfl | cons z zs => have := h2.length; simp at this
      subst e2
      exact q (.f (.tup ([] ++ bs))) _ G H ok (Ex.refl G) (by show Rep _ _ _ _; rw [Rep]; exact ⟨b, ws, rfl, h3, h4⟩) hm
    · subst e1
      have e2 : bs = [] := by cases bs with | nil => rfl | cons z zs => have := h4.length; simp at this
      subst e2
      rw [List.append_nil] at hm
      exact q (.f (.tup as)) _ G H ok (Ex.refl G) (by show Rep _ _ _ _; rw [Rep]; exact ⟨a, vs, rfl, h1, h2⟩) hm
    · obtain ⟨G2, x2, ok2, rr⟩ := ok.rtup hp (Reps.append h2 h4)
      exact q _ _ G2 _ ok2 x2 rr hm
  · cases hm
def gAdd : Op2 := fun d e k => match d, e with
  | .int i, .int j => k (.f (.int (i + j)))
  | .str i, .str j => req (i.length + j.length ≤ sizeLine) (k (.f (.str (i ++ j))))
  | .lst a, .lst b => req (a.length + b.length ≤ sizeLine) (k (.o (a ++ b)))
  | .tup a, .tup b => req (a.length + b.length ≤ sizeLine) (k (.f (.tup (a ++ b))))
  | _, _ => False
theorem op_addX {X : Cx} : OpR X (binaryOp .Add) (fun x y H Q => rI0 (fun i j => .int (i + j)) x y H Q ∨ ((∃ i j, x = .str i ∧ y = .str j ∧ i.length + j.length ≤ sizeLine ∧ Q (.str (i ++ j)) H) ∨ (rCat x y H Q ∨ rCatA X.K x y H Q))) := op_add.or (op_add_str.or (op_cat.or op_catA))
theorem so_add : SemOp K (fun x y H Q => rI0 (fun i j => .int (i + j)) x y H Q ∨ ((∃ i j, x = .str i ∧ y = .str j ∧ i.length + j.length ≤ sizeLine ∧ Q (.str (i ++ j)) H) ∨ (rCat x y H Q ∨ rCatA K x y H Q))) gAdd := by
  refine so_or (g := gII (fun _ _ => True) fun i j => .int (i + j)) (g' := fun d e k => gAddS d e k ∨ (gAddL d e k ∨ gAddT d e k)) (so_rI0 fun G i j => by rw [Rep]) (so_or so_addS (so_or so_addL so_addT fun d e k h => h) fun d e k h => h) fun d e k h => ?_
  unfold gAdd at h
  split at h
  · exact .inl (req_i trivial h)
  · exact .inr (.inl h)
  · exact .inr (.inr (.inl h))
  · exact .inr (.inr (.inr h))
  · cases h
/-- - -/
abbrev gSub' : Op2 := gII (fun _ _ => True) fun i j => .int (i - j)
theorem so_sub : SemOp K (rI0 fun i j => .int (i - j)) gSub' := so_rI0 fun G i j => by rw [Rep]
abbrev gMulI : Op2 := gII CMul fun i j => .int (i * j)
theorem so_mulI : SemOp K (rI CMul fun i j => .int (i * j)) gMulI := so_rI fun G i j => by rw [Rep]
abbrev gFdiv : Op2 := gII CDiv fun i j => .int (i / j)
theorem so_fdiv : SemOp K (rI CDiv fun i j => .int (i / j)) gFdiv := so_rI fun G i j => by rw [Rep]
abbrev gMod : Op2 := gII (fun _ j => 0 < j) fun i j => .int (i % j)
theorem so_mod : SemOp K (rI (fun _ j => 0 < j) fun i j => .int (i % j)) gMod := so_rI fun G i j => by rw [Rep]
abbrev gPow : Op2 := gII CPow fun i j => .int (i ^ j.toNat)
theorem so_pow : SemOp K (rI CPow fun i j => .int (i ^ j.toNat)) gPow := so_rI fun G i j => by rw [Rep]
/-- list * int -/
def gRepL : Op2 := fun d e k => match d, e with
  | .lst a, .int j => req (-(2 ^ 63) ≤ j ∧ j < 2 ^ 63 ∧ a.length * j.toNat ≤ sizeLine) (k (.o (List.replicate j.toNat a).flatten))
  | _, _ => False
theorem so_repL : SemOp K rRep gRepL := fun Rs F env σ G H x y d e Q Qm ok vd ve hm q => by
  unfold gRepL at hm
  split at hm
  · rename_i as j
    obtain ⟨⟨c1, c2, c3⟩, hm⟩ := req_of hm
    obtain ⟨a, vs, rfl, h1, h2⟩ := vd
    rw [v_int ve]
    refine ⟨a, j, vs, rfl, rfl, h1, c1, c2, by rw [h2.length]; exact c3, fun p hp => ?_⟩
    obtain ⟨ok2, rr⟩ := ok.rlst hp (Reps.rep h2 j.toNat)
    exact q _ _ G _ ok2 (Ex.refl G) rr hm
  · cases hm
/-! == of data -/
mutual
def D.py : D → Option PyData
  | .non => some .none
  | .bl b => some (.bool b)
  | .int i => some (.int i)
  | .str x => some (.str x)
  | .lst ds => (pys ds).map .list
  | .tup ds => (pys ds).map .tuple
  | .tag _ d => d.py
  | _ => none
def pys : List D → Option (List PyData)
  | [] => some []
  | d :: ds => match d.py, pys ds with | some a, some b => some (a :: b) | _, _ => none
end
mutual
theorem dp_of {G : Hp} : ∀ (d : D) (v : V) (p : PyData), Rep K G d v → d.py = some p → Dp K G v p
  | .non, v, p, h, e => by rw [Rep] at h; rw [D.py] at e; cases e; rw [h]; exact .non
  | .bl b, v, p, h, e => by rw [Rep] at h; rw [D.py] at e; cases e; rw [h]; exact .bl b
  | .int i, v, p, h, e => by rw [Rep] at h; rw [D.py] at e; cases e; rw [h]; exact .int i
  | .str x, v, p, h, e => by rw [Rep] at h; rw [D.py] at e; cases e; rw [h]; exact .str x
  | .lst ds, v, p, h, e => by
    rw [Rep] at h
    rw [D.py] at e
    obtain ⟨a, vs, rfl, h2, h3⟩ := h
    cases q : pys ds with
    | none => rw [q] at e; cases e
    | some ps => rw [q] at e; cases e; exact .lst (.of h2) (dps_of ds vs ps h3 q)
  | .tup ds, v, p, h, e => by
    rw [Rep] at h
    rw [D.py] at e
    obtain ⟨a, vs, rfl, h2, h3⟩ := h
    cases q : pys ds with
    | none => rw [q] at e; cases e
    | some ps => rw [q] at e; cases e; exact .tup (.of h2) (dps_of ds vs ps h3 q)
  | .tag w d, v, p, h, e => by
    rw [Rep] at h
    rw [D.py] at e
    exact dp_of d v p h.2 e
  | .dct _ _, v, p, h, e => by simp [D.py] at e
  | .ins _ _ _, v, p, h, e => by simp [D.py] at e
  | .val _, v, p, h, e => by simp [D.py] at e
  | .scr _, v, p, h, e => by simp [D.py] at e
theorem dps_of {G : Hp} : ∀ (ds : List D) (vs : List V) (ps : List PyData), Reps K G ds vs → pys ds = some ps → DpAll K G vs ps
  | [], vs, ps, h, e => by rw [reps_nil.mp h]; rw [pys] at e; cases e; exact .nil
  | d :: ds, vs, ps, h, e => by
    obtain ⟨v, ws, rfl, h1, h2⟩ := reps_cons.mp h
    rw [pys] at e
    cases q : d.py with
    | none => rw [q] at e; cases e
    | some a =>
      cases q2 : pys ds with
      | none => rw [q, q2] at e; cases e
      | some b => rw [q, q2] at e; cases e; exact .cons (dp_of d v a h1 q) (dps_of ds ws b h2 q2)
end
mutual
theorem Dp.mono {G H : Hp} (e : Ex G H) : ∀ (p : PyData) (v : V), Dp K G v p → Dp K H v p
  | .none, _, h => by cases h; exact .non
  | .bool b, _, h => by cases h; exact .bl b
  | .int i, _, h => by cases h; exact .int i
  | .str x, _, h => by cases h; exact .str x
  | .list ps, _, h => by
    cases h with
    | lst h1 h2 => exact .lst (ex_l e h1) (DpAll.mono e ps _ h2)
  | .tuple ps, _, h => by
    cases h with
    | tup h1 h2 => exact .tup (ex_t e h1) (DpAll.mono e ps _ h2)
  | .dict _, _, h => by cases h
theorem DpAll.mono {G H : Hp} (e : Ex G H) : ∀ (ps : List PyData) (vs : List V), DpAll K G vs ps → DpAll K H vs ps
  | [], _, h => by cases h; exact .nil
  | p :: ps, _, h => by
    cases h with
    | cons h1 h2 => exact .cons (Dp.mono e p _ h1) (DpAll.mono e ps _ h2)
end
theorem dp_view {G H : Hp} (hs : Ex G H) {d : D} {v : V} {p : PyData} (h : View K G H d v) (e : d.py = some p) : Dp K H v p := by
  cases d with
  | lst ds =>
    obtain ⟨a, vs, rfl, h2, h3⟩ := h
    rw [D.py] at e
    cases q : pys ds with
    | none => rw [q] at e; cases e
    | some ps => rw [q] at e; cases e; exact .lst (.of h2) (DpAll.mono hs ps vs (dps_of ds vs ps h3 q))
  | dct ks ds => simp [D.py] at e
  | _ => exact Dp.mono hs _ _ (dp_of _ _ _ h e)
def gEqD (neg : Bool) : Op2 := fun d e k => match d.py, e.py with
  | some p, some q => req (SeqAt.shaped p = true ∧ SeqAt.shaped q = true) (k (.f (.bl (if neg then !PyData.eqv p q else PyData.eqv p q))))
  | _, _ => False
theorem so_eqD : SemOp K (rEqD K) (gEqD false) := fun Rs F env σ G H x y d e Q Qm ok vd ve hm q => by
  unfold gEqD at hm
  split at hm
  · rename_i p p' e1 e2
    obtain ⟨⟨c1, c2⟩, hm⟩ := req_of hm
    exact ⟨p, p', dp_view ok.sub vd e1, dp_view ok.sub ve e2, c1, c2, q (.f (.bl (PyData.eqv p p'))) _ G H ok (Ex.refl G) (r_bl _) hm⟩
  · cases hm
theorem so_neD : SemOp K (rNeD K) (gEqD true) := fun Rs F env σ G H x y d e Q Qm ok vd ve hm q => by
  unfold gEqD at hm
  split at hm
  · rename_i p p' e1 e2
    obtain ⟨⟨c1, c2⟩, hm⟩ := req_of hm
    exact ⟨p, p', dp_view ok.sub vd e1, dp_view ok.sub ve e2, c1, c2, q (.f (.bl (!PyData.eqv p p'))) _ G H ok (Ex.refl G) (r_bl _) hm⟩
  · cases hm
/-- == of two ints, two texts, two bools, None: by itself; other data as data -/
def eqS : D → D → Option Bool
  | .int i, .int j => some (decide (i = j))
  | .str i, .str j => some (decide (i = j))
  | .bl i, .bl j => some (decide (i = j))
  | .non, .non => some true
  | .non, .int _ => some false
  | .int _, .non => some false
  | .non, .str _ => some false
  | .str _, .non => some false
  | .int _, .str _ => some false
  | .str _, .int _ => some false
  | _, _ => none
def gEqS (neg : Bool) : Op2 := fun d e k => match eqS d e with
  | some b => k (.f (.bl (if neg then !b else b)))
  | none => False
theorem eqS_scal {G H : Hp} {d e : D} {x y : V} {b : Bool} (vd : View K G H d x) (ve : View K G H e y) (h : eqS d e = some b) : scal x y = true ∧ decide (x = y) = b := by
  unfold eqS at h
  split at h <;> cases h
  · rw [v_int vd, v_int ve]; exact ⟨rfl, by simp⟩
  · rw [v_str vd, v_str ve]; exact ⟨rfl, by simp⟩
  · rw [v_bl vd, v_bl ve]; exact ⟨rfl, by simp⟩
  · rw [v_non vd, v_non ve]; exact ⟨rfl, by simp⟩
  · rw [v_non vd, v_int ve]; exact ⟨rfl, by simp⟩
  · rw [v_int vd, v_non ve]; exact ⟨rfl, by simp⟩
  · rw [v_non vd, v_str ve]; exact ⟨rfl, by simp⟩
  · rw [v_str vd, v_non ve]; exact ⟨rfl, by simp⟩
  · rw [v_int vd, v_str ve]; exact ⟨rfl, by simp⟩
  · rw [v_str vd, v_int ve]; exact ⟨rfl, by simp⟩
theorem so_eqS : SemOp K rEq (gEqS false) := fun Rs F env σ G H x y d e Q Qm ok vd ve hm q => by
  unfold gEqS at hm
  split at hm
  · rename_i b eb
    obtain ⟨h1, h2⟩ := eqS_scal vd ve eb
    exact ⟨h1, q (.f (.bl b)) _ G H ok (Ex.refl G) (by rw [h2]; exact r_bl _) hm⟩
  · cases hm
theorem so_neS : SemOp K rNe (gEqS true) := fun Rs F env σ G H x y d e Q Qm ok vd ve hm q => by
  unfold gEqS at hm
  split at hm
  · rename_i b eb
    obtain ⟨h1, h2⟩ := eqS_scal vd ve eb
    exact ⟨h1, q (.f (.bl (!b))) _ G H ok (Ex.refl G) (by rw [h2]; exact r_bl _) hm⟩
  · cases hm
def gEq (neg : Bool) : Op2 := fun d e k => match eqS d e with
  | some b => k (.f (.bl (if neg then !b else b)))
  | none => gEqD neg d e k
theorem op_eqX {X : Cx} (hu : X.A.units + 64 < cLine) : OpR X (compareOp .Eq) (fun x y H Q => rEq x y H Q ∨ rEqD X.K x y H Q) := op_eq.or (op_eqD hu)
theorem op_neX {X : Cx} (hu : X.A.units + 64 < cLine) : OpR X (compareOp .NotEq) (fun x y H Q => rNe x y H Q ∨ rNeD X.K x y H Q) := op_ne.or (op_neD hu)
theorem gEq_or {neg : Bool} (d e : D) (k : DV → Prop) (h : gEq neg d e k) : gEqS neg d e k ∨ gEqD neg d e k := by
  unfold gEq at h
  unfold gEqS
  split at h
  · rename_i b eb
    exact .inl h
  · exact .inr h
theorem so_eq : SemOp K (fun x y H Q => rEq x y H Q ∨ rEqD K x y H Q) (gEq false) := so_or so_eqS so_eqD gEq_or
theorem so_ne : SemOp K (fun x y H Q => rNe x y H Q ∨ rNeD K x y H Q) (gEq true) := so_or so_neS so_neD gEq_or
/-- < .. of ints -/
abbrev gCmp (p : Int → Int → Bool) : Op2 := gII (fun _ _ => True) fun i j => .bl (p i j)
theorem so_lt : SemOp K (rI0 fun i j => .bl (decide (i < j))) (gCmp fun i j => decide (i < j)) := so_rI0 fun G i j => by rw [Rep]
theorem so_le : SemOp K (rI0 fun i j => .bl (decide (i ≤ j))) (gCmp fun i j => decide (i ≤ j)) := so_rI0 fun G i j => by rw [Rep]
theorem so_gt : SemOp K (rI0 fun i j => .bl (decide (j < i))) (gCmp fun i j => decide (j < i)) := so_rI0 fun G i j => by rw [Rep]
theorem so_ge : SemOp K (rI0 fun i j => .bl (decide (j ≤ i))) (gCmp fun i j => decide (j ≤ i)) := so_rI0 fun G i j => by rw [Rep]
/-- is None -/
def isNonD : D → Option Bool
  | .non => some true
  | .bl _ => some false
  | .int _ => some false
  | .str _ => some false
  | .lst _ => some false
  | .tup _ => some false
  | .dct _ _ => some false
  | .ins _ _ _ => some false
  | _ => none
theorem isNon_rep {G H : Hp} {d : D} {x : V} {b : Bool} (v : View K G H d x) (h : isNonD d = some b) : decide (x = .non) = b := by
  cases d with
  | non => cases h; rw [v_non v]; simp
  | bl _ => cases h; rw [v_bl v]; simp
  | int _ => cases h; rw [v_int v]; simp
  | str _ => cases h; rw [v_str v]; simp
  | lst _ => cases h; obtain ⟨a, vs, rfl, _⟩ := v; simp
  | tup _ => cases h; obtain ⟨a, vs, rfl, _⟩ := v_tupG v; simp
  | dct _ _ => cases h; obtain ⟨a, vs, rfl, _⟩ := v; simp
  | ins _ _ _ =>
    cases h
    have v : Rep K G (.ins _ _ _) x := v
    rw [Rep] at v
    obtain ⟨a, dx, vs, rfl, _⟩ := v
    simp
  | _ => cases h
def gIsN (neg : Bool) : Op2 := fun d e k => match e, isNonD d with
  | .non, some b => k (.f (.bl (if neg then !b else b)))
  | _, _ => False
theorem so_isN : SemOp K (fun x y H Q => y = .non ∧ Q (.bl (decide (x = .non))) H) (gIsN false) := fun Rs F env σ G H x y d e Q Qm ok vd ve hm q => by
  unfold gIsN at hm
  split at hm
  · rename_i b eb
    exact ⟨v_non ve, q (.f (.bl b)) _ G H ok (Ex.refl G) (by rw [isNon_rep vd eb]; exact r_bl _) hm⟩
  · cases hm
theorem so_notN : SemOp K (fun x y H Q => y = .non ∧ Q (.bl (!decide (x = .non))) H) (gIsN true) := fun Rs F env σ G H x y d e Q Qm ok vd ve hm q => by
  unfold gIsN at hm
  split at hm
  · rename_i b eb
    exact ⟨v_non ve, q (.f (.bl (!b))) _ G H ok (Ex.refl G) (by rw [isNon_rep vd eb]; exact r_bl _) hm⟩
  · cases hm
/-- -x -/
def gNeg : Op1 := fun d k => match d with | .int i => k (.f (.int (-i))) | _ => False
theorem su_neg : SemU K (rU fun i => .int (-i)) gNeg := fun Rs F env σ G H x d Q Qm ok vd hm q => by
  cases d with
  | int i =>
    rw [v_int vd]
    exact ⟨i, rfl, q (.f (.int (-i))) _ G H ok (Ex.refl G) (r_int _) hm⟩
  | _ => cases hm
/-! ### subscripts -/
def gIx : Op2 := fun d e k => match d, e with
  | .lst ds, .int i => (match atI ds i with | some x => k (.f x) | none => False)
  | .tup ds, .int i => (match atI ds i with | some x => k (.f x) | none => False)
  | .scr is, .int i => (match atI is i with | some x => k (.f (.int x)) | none => False)
  | _, _ => False
theorem map_atI {is : List Int} {i x : Int} (h : atI is i = some x) : atI (is.map V.int) i = some (.int x) := by
  unfold atI at h ⊢
  rw [List.length_map]
  cases q : ixN is.length i with
  | none => rw [q] at h; cases h
  | some j =>
    rw [q] at h
    have h : is[j]? = some x := by simpa using h
    simp [h]
theorem reps_atI {G : Hp} {ds : List D} {vs : List V} {i : Int} {d : D} (r : Reps K G ds vs) (h : atI ds i = some d) : ∃ v, atI vs i = some v ∧ Rep K G d v := by
  unfold atI at h ⊢
  rw [r.length]
  cases q : ixN ds.length i with
  | none => rw [q] at h; cases h
  | some j =>
    rw [q] at h
    obtain ⟨v, e1, e2⟩ := r.get (i := j) (by simpa using h)
    exact ⟨v, by simpa using e1, e2⟩
theorem so_ix : SemOp K (rIx K) gIx := fun Rs F env σ G H x y d e Q Qm ok vd ve hm q => by
  unfold gIx at hm
  split at hm
  · rename_i ds i
    split at hm
    · rename_i z ez
      obtain ⟨a, vs, rfl, h1, h2⟩ := vd
      rw [v_int ve]
      obtain ⟨v, e1, e2⟩ := reps_atI h2 ez
      exact .inl ⟨a, vs, i, v, rfl, rfl, .of h1, e1, q (.f z) _ G H ok (Ex.refl G) e2 hm⟩
    · cases hm
  · rename_i ds i
    split at hm
    · rename_i z ez
      obtain ⟨a, vs, rfl, h1, h2⟩ := v_tup ok.sub vd
      rw [v_int ve]
      obtain ⟨v, e1, e2⟩ := reps_atI h2 ez
      exact .inr (.inl ⟨a, vs, i, v, rfl, rfl, .of h1, e1, q (.f z) _ G H ok (Ex.refl G) e2 hm⟩)
    · cases hm
  · rename_i is i
    split at hm
    · rename_i z ez
      obtain ⟨a, rfl, h1⟩ := v_scr ok.sub vd
      rw [v_int ve]
      exact .inl ⟨a, _, i, .int z, rfl, rfl, h1, map_atI ez, q (.f (.int z)) _ G H ok (Ex.refl G) (r_int _) hm⟩
    · cases hm
  · cases hm
end
section
variable {X : Cx} {Rs : List Nat} {W : WX} {a b : Expr} {ta tb : TE} {ma mb : MO} {pos p2 : Pos}
theorem de_ix (ha : DO X Rs W a ta ma) (hb : DO X Rs W b tb mb) (hs : PlainIx b := by intro _ _; rfl) : DE X Rs W (.Subscript a b pos) (tOp (rIx X.K) ta tb) (mOp gIx ma mb) := ⟨pe_ix ix_seq ha.p hb.p hs, sem_op so_ix ha.s hb.s⟩
/-! ### slices -/
abbrev MP := En → (Option Int → En → Prop) → EmT → Prop
def SemP (K : PySem.W.Frag) (Rs : List Nat) (W : WX) (t : TO) (m : MP) : Prop := ∀ (F : Fr) (env : En) (σ : L2.St) (G H : Hp) (Q : Option Int → Hp → Prop) (Qm : Option Int → En → Prop) (Em : EmT), Ok K Rs F env σ G H → Link K Rs F W Em → m env Qm Em →
  (∀ o env' G' H', Ok K Rs F env' σ G' H' → Ex G G' → Qm o env' → Q o H') → t σ H Q
structure DP (X : Cx) (Rs : List Nat) (W : WX) (e : Option Expr) (t : TO) (m : MP) : Prop where
  p : PO X e t
  s : SemP X.K Rs W t m
def pNone : MP := fun env Q _ => Q none env
def pSome (ma : MO) : MP := fun env Q Em => ma env (fun x e1 => argI e1 x fun i => Q (some i) e1) Em
theorem dp_none : DP X Rs W none tNoPart pNone := ⟨po_none, fun F env σ G H Q Qm Em ok lk hm q => q none env G H ok (Ex.refl G) hm⟩
theorem dp_some (ha : DO X Rs W a ta ma) : DP X Rs W (some a) (tPart ta) (pSome ma) := ⟨po_some ha.p, fun F env σ G H Q Qm Em ok lk hm q => ha.s F env σ G H _ _ Em ok lk hm fun x e1 v1 G1 H1 ok1 x1 r1 m1 => by
  obtain ⟨i, e, mi⟩ := argI_rep ok1 r1 m1
  exact ⟨i, e, q (some i) e1 G1 H1 ok1 x1 mi⟩⟩
def cutD (xs : List D) (lo hi : Option Int) : List D := (xs.drop (HT.sIx xs.length 0 lo)).take (HT.sIx xs.length xs.length hi - HT.sIx xs.length 0 lo)
theorem reps_cut {K : PySem.W.Frag} {G : Hp} {ds : List D} {vs : List V} (r : Reps K G ds vs) (lo hi : Option Int) : Reps K G (cutD ds lo hi) (cutV vs lo hi) := by
  unfold cutD cutV
  rw [r.length]
  exact Reps.take _ (Reps.drop _ r)
theorem sIx_full {n : Nat} {lo hi : Option Int} (h1 : HT.sIx n 0 lo = 0) (h2 : HT.sIx n n hi = n) (ds : List D) (e : ds.length = n) : cutD ds lo hi = ds := by
  unfold cutD
  rw [e, h1, h2, Nat.sub_zero, List.drop_zero, ← e, List.take_length]
/-- x[lo:hi] of a list, a tuple -/
def mSl (ma : MO) (ml mh : MP) : ME := fun env Q Em => ma env (fun x e1 => ml e1 (fun lo e2 => mh e2 (fun hi e3 => look e3 x fun d => match d with
  | .lst ds => Q (.o (cutD ds lo hi)) e3
  | .tup ds => Q (.f (.tup (cutD ds lo hi))) e3
  | .scr is => Q (.o (cutD (is.map D.int) lo hi)) e3
  | _ => False) Em) Em) Em
theorem de_slice {lo hi : Option Expr} {tl th : TO} {ml mh : MP} (ha : DO X Rs W a ta ma) (hl : DP X Rs W lo tl ml) (hh : DP X Rs W hi th mh) : DE X Rs W (.Subscript a (.Slice lo hi none p2) pos) (tSl (fun x lo hi H Q => rSlL X.K x lo hi H Q ∨ rSlA X.K x lo hi H Q) ta tl th) (mSl ma ml mh) := by
  refine ⟨pe_slice (sl_list.or sl_tupA) ha.p hl.p hh.p, fun F env σ G H Q Qm Em ok lk hm q => ha.s F env σ G H _ _ Em ok lk hm fun x e1 v1 G1 H1 ok1 x1 r1 m1 => hl.s F e1 σ G1 H1 _ _ Em ok1 lk m1 fun lo e2 G2 H2 ok2 x2 m2 => hh.s F e2 σ G2 H2 _ _ Em ok2 lk m2 fun hi e3 G3 H3 ok3 x3 m3 => ?_⟩
  obtain ⟨d, m4, vd⟩ := ok3.look (k := fun d => match d with
    | .lst ds => Qm (.o (cutD ds lo hi)) e3
    | .tup ds => Qm (.f (.tup (cutD ds lo hi))) e3
    | .scr is => Qm (.o (cutD (is.map D.int) lo hi)) e3
    | _ => False) (r1.mono (x2.trans x3)) m3
  cases d with
  | lst ds =>
    obtain ⟨p, vs, rfl, h1, h2⟩ := vd
    refine .inl ⟨p, vs, rfl, .of h1, fun l hl => ?_⟩
    obtain ⟨ok4, rr⟩ := ok3.rlst hl (reps_cut h2 lo hi)
    exact q _ e3 _ G3 _ ok4 ((x1.trans x2).trans x3) rr m4
  | tup ds =>
    obtain ⟨p, vs, rfl, h1, h2⟩ := v_tupG vd
    refine .inr ⟨p, vs, rfl, .of (ok3.sub _ _ h1), fun ⟨z1, z2⟩ => ?_, fun _ l hl => ?_⟩
    · have m4 : Qm (.f (.tup (cutD ds lo hi))) e3 := m4
      rw [sIx_full z1 z2 ds h2.length.symm] at m4
      exact q (.f (.tup ds)) e3 _ G3 H3 ok3 ((x1.trans x2).trans x3) (by show Rep _ _ _ _; rw [Rep]; exact ⟨p, vs, rfl, h1, h2⟩) m4
    · obtain ⟨G4, x4, ok4, rr⟩ := ok3.rtup hl (reps_cut h2 lo hi)
      exact q _ e3 _ G4 _ ok4 (((x1.trans x2).trans x3).trans x4) rr m4
  | scr is =>
    obtain ⟨p, rfl, h1⟩ := v_scr ok3.sub vd
    refine .inl ⟨p, _, rfl, h1, fun l hl => ?_⟩
    obtain ⟨ok4, rr⟩ := ok3.rlst hl (reps_cut (K := X.K) (G := G3) (reps_ints.mpr rfl) lo hi)
    exact q _ e3 _ G3 _ ok4 ((x1.trans x2).trans x3) rr m4
  | _ => cases m4
end
end VL
/-! VL: max, min with default=. -/
namespace VL
open PySem PySem.Spec PyProof.Rows L2
section
variable {prog : Program} {w : World} {A : Around} {R : Result → Shared → Prop} {I : Addr} {fp wr : List Addr} {n : Nat} {P : Nat → Value → Prop} {St : Nat → Heap → Prop} {E : Value → Shared → Prop} {s : Shared}
theorem max_loopD (W : Walks prog w A.in1 I fp wr n P St) (bt : Nat → Nat → Bool) (cmp : CmpOf prog w A.in1 .Gt P bt) (S : Addr) (nS : S ∉ fp) (kw : List (Str × Value)) :
    ∀ (k j : Nat) (s : Shared) (vb : Value) (c : Nat), n - (j + 1) = k → j + 1 ≤ n → St (j + 1) s.heap → P (argBest bt j) vb →
    s.heap.get? S = some { cls := .type "list", dict := none, data := .seq #[vb, vb] c, slots := #[] } →
    (∀ v h' tk, P (argBest bt (n - 1)) v → (∀ b o, b ∉ wr → b ≠ S → s.heap.get? b = some o → h'.get? b = some o) → R (.ok (.ret v)) { s with heap := h', toks := tk }) →
    codeAny (model prog w) A (.builtin "max.loop" ⟨[.ref I, .none, .ref S], kw⟩) R s := by
  have nW : S ∉ wr := fun z => nS (W.sub _ z)
  have nm : (toString "max" ++ toString ".loop" : String) = "max.loop" := by decide
  intro k
  induction k with
  | zero =>
    intro j s vb c ek ej st pb gS fin
    have ej2 : j + 1 = n := by omega
    refine codeAny_builtin PySem.F.entry_max_loop ?_
    rw [Around.under_plainId PySem.F.plain_max_loop _]
    show wpAny _ A.in1 (seqItems? (.ref S) >>= _) _ _ _
    refine wpAny_bind (wpAny_seqItems gS rfl ?_)
    show wpAny _ A.in1 (tryCatch (pyNext (.ref I)) _ >>= _) _ _ _
    refine wpAny_bind (wpAny_tryCatch (W.done _ _ _ (ej2 ▸ st) fun h1 t1 k1 => ?_))
    have gS1 := k1 S _ nW gS
    show wpAny _ A.in1 (updateSeq S (fun _ => #[]) >>= _) _ _ _
    refine wpAny_bind (wpAny_updateSeq gS1 rfl (wpAny_bind (wpAny_letGo (wpAny_pure ?_))))
    exact fin vb _ t1 (by rw [← ej2]; exact pb) fun b o z1 z2 e => (Heap.get?_update_other _ _ (Ne.symm z2)).trans (k1 b o z1 e)
  | succ k ih =>
    intro j s vb c ek ej st pb gS fin
    have lt : j + 1 < n := by omega
    refine codeAny_builtin PySem.F.entry_max_loop ?_
    rw [Around.under_plainId PySem.F.plain_max_loop _]
    show wpAny _ A.in1 (seqItems? (.ref S) >>= _) _ _ _
    refine wpAny_bind (wpAny_seqItems gS rfl ?_)
    show wpAny _ A.in1 (tryCatch (pyNext (.ref I)) _ >>= _) _ _ _
    refine wpAny_bind (wpAny_tryCatch (W.item (j + 1) _ _ _ lt st fun v h1 t1 pv st1 k1 => ?_))
    have gS1 := k1 S _ nW gS
    show wpAny _ A.in1 (tryCatch (holding [v, v] (richCompare .Gt v vb >>= _)) _ >>= _) _ _ _
    refine wpAny_bind (wpAny_tryCatch (wpAny_holding (wpAny_bind (cmp (j + 1) (argBest bt j) v vb _ _ _ pv pb ?_))))
    refine wpAny_bind (wpAny_holding (wpAny_truthy_bool ?_))
    refine wpAny_bind (wpAny_letGo (wpAny_pure ?_))
    cases hb : bt (j + 1) (argBest bt j) with
    | true =>
      simp only [if_true]
      refine wpAny_bind (wpAny_updateSeq gS1 rfl (wpAny_bind (wpAny_letGo ?_)))
      rw [nm]
      refine wpAny_pure ⟨plainId_quiet PySem.F.plain_max_loop _, ih (j + 1) _ v _ (by omega) lt (W.frame _ _ _ st1 fun b z o e => ?_) (by simp only [argBest, hb, if_true]; exact pv) (Heap.get?_update_self _ gS1 rfl) fun v2 h2 t2 p2 k2 => ?_⟩
      · exact (Heap.get?_update_other _ _ (fun y : S = b => nS (by rw [y]; exact z))).trans e
      · exact fin v2 h2 t2 p2 fun b o z1 z2 e => k2 b o z1 z2 ((Heap.get?_update_other _ _ (Ne.symm z2)).trans (k1 b o z1 e))
    | false =>
      simp only [Bool.false_eq_true, if_false]
      refine wpAny_bind (wpAny_letGo ?_)
      rw [nm]
      refine wpAny_pure ⟨plainId_quiet PySem.F.plain_max_loop _, ih (j + 1) _ vb c (by omega) lt st1 (by simp only [argBest, hb, Bool.false_eq_true, if_false]; exact pb) gS1 fun v2 h2 t2 p2 k2 => ?_⟩
      exact fin v2 h2 t2 p2 fun b o z1 z2 e => k2 b o z1 z2 (k1 b o z1 e)
theorem max_firstD (W : Walks prog w A.in1 I fp wr n P St) (bt : Nat → Nat → Bool) (cmp : CmpOf prog w A.in1 .Gt P bt) (S : Addr) (nS : S ∉ fp) (d : Value) (nm0 : Str) {s : Shared} {c : Nat} (st : St 0 s.heap)
    (gS : s.heap.get? S = some { cls := .type "list", dict := none, data := .seq #[] c, slots := #[] })
    (fin : ∀ v h' tk, (0 < n → P (argBest bt (n - 1)) v) → (n = 0 → v = d) → (∀ b o, b ∉ wr → b ≠ S → s.heap.get? b = some o → h'.get? b = some o) → R (.ok (.ret v)) { s with heap := h', toks := tk }) :
    codeAny (model prog w) A (.builtin "max.loop" ⟨[.ref I, .none, .ref S], [(nm0, d)]⟩) R s := by
  have nW : S ∉ wr := fun z => nS (W.sub _ z)
  have nm : (toString "max" ++ toString ".loop" : String) = "max.loop" := by decide
  refine codeAny_builtin PySem.F.entry_max_loop ?_
  rw [Around.under_plainId PySem.F.plain_max_loop _]
  show wpAny _ A.in1 (seqItems? (.ref S) >>= _) _ _ _
  refine wpAny_bind (wpAny_seqItems gS rfl ?_)
  show wpAny _ A.in1 (tryCatch (pyNext (.ref I)) _ >>= _) _ _ _
  by_cases hn : 0 < n
  · refine wpAny_bind (wpAny_tryCatch (W.item 0 _ _ _ hn st fun v h1 t1 pv st1 k1 => ?_))
    have gS1 := k1 S _ nW gS
    show wpAny _ A.in1 (updateSeq S (fun _ => #[v, v]) >>= _) _ _ _
    refine wpAny_bind (wpAny_updateSeq gS1 rfl ?_)
    rw [nm]
    refine wpAny_pure ⟨plainId_quiet PySem.F.plain_max_loop _, max_loopD W bt cmp S nS _ _ 0 _ v _ rfl hn (W.frame _ _ _ st1 fun b z o e => ?_) pv (Heap.get?_update_self _ gS1 rfl) fun v2 h2 t2 p2 k2 => ?_⟩
    · exact (Heap.get?_update_other _ _ (fun y : S = b => nS (by rw [y]; exact z))).trans e
    · exact fin v2 h2 t2 (fun _ => p2) (fun z => absurd hn (by omega)) fun b o z1 z2 e => k2 b o z1 z2 ((Heap.get?_update_other _ _ (Ne.symm z2)).trans (k1 b o z1 e))
  · have n0 : n = 0 := by omega
    refine wpAny_bind (wpAny_tryCatch (W.done _ _ _ (n0 ▸ st) fun h1 t1 k1 => ?_))
    show wpAny _ A.in1 (rule _ >>= _) _ _ _
    refine wpAny_bind (wpAny_rule ?_)
    exact wpAny_pure (fin d h1 t1 (fun z => absurd z hn) (fun _ => rfl) fun b o z1 _ e => k1 b o z1 e)
theorem kw_maxD (a v : Value) : argsOk "max" ⟨[a], [(Str.ofString "default", v)]⟩ := by
  unfold argsOk
  kernel_rfl
theorem call_maxD {l : Addr} {xs : Array (Int × Tok)} {d : Value} {Q : Value → Shared → Prop} (hh : A.handled = none) (hl : s.heap.IsList l (intItems xs))
    (h : ∀ v h' tk, (0 < xs.size → (intItems xs)[argBest (fun i j => decide (numAt xs i > numAt xs j)) (xs.size - 1)]? = some v) → (xs.size = 0 → v = d) → (∀ b o, s.heap.get? b = some o → h'.get? b = some o) → Q v { s with heap := h', toks := tk }) :
    wpAny (model prog w) A (call (.builtin "max") [.ref l] [(Str.ofString "default", d)]) Q E s := by
  have nm : (toString "max" ++ toString ".loop" : String) = "max.loop" := by decide
  refine kmk_tree PySem.F.kind_max PySem.F.plain_max PySem.F.entry_max (kw_maxD _ _) ?_
  show wpAny _ A.in1 (Builtin.Builtins.bindParams "max" ["key", "default"] 0 ⟨[], [(Str.ofString "default", d)]⟩ >>= _) _ _ _
  refine wpAny_bind (wpAny_of_eq (show Builtin.Builtins.bindParams "max" ["key", "default"] 0 ⟨[], [(Str.ofString "default", d)]⟩ = pure [none, some d] from rfl) ?_)
  refine wpAny_bind (wpAny_pure (wpAny_bind (iter_intList hl fun s2 e2 st2 fp2 ne2 => ?_)))
  subst e2
  refine wpAny_bind (wpAny_newObj_type ?_)
  rw [nm]
  have W := Walks.list (prog := prog) (w := w) (A := A.in1) hh s.heap.objs.size l ne2 (intItems xs)
  have szx : (intItems xs).size = xs.size := by simp [intItems]
  refine wpAny_pure ⟨plainId_quiet PySem.F.plain_max_loop _, max_firstD W _ (CmpOf.ints_gt (numAt xs) (fun _ _ => intItems_at)) _ (fun z => Nat.lt_irrefl _ (fp2 _ z)) d _ (W.frame 0 _ _ st2 fun b _ o e => Heap.get?_push_of_some _ e) (Heap.get?_push_size _ rfl) fun v h1 t1 p1 p2 k1 => ?_⟩
  refine h v h1 t1 (fun z => by have := p1 (by rw [szx]; exact z); rw [szx] at this; exact this) (fun z => p2 (by rw [szx]; exact z)) (old_kept (l := l) fun b o z e => ?_)
  exact k1 b o z (Nat.ne_of_lt (Heap.lt_size e)) (Heap.get?_push_of_some _ e)
theorem min_loopD (W : Walks prog w A.in1 I fp wr n P St) (bt : Nat → Nat → Bool) (cmp : CmpOf prog w A.in1 .Lt P bt) (S : Addr) (nS : S ∉ fp) (kw : List (Str × Value)) :
    ∀ (k j : Nat) (s : Shared) (vb : Value) (c : Nat), n - (j + 1) = k → j + 1 ≤ n → St (j + 1) s.heap → P (argBest bt j) vb →
    s.heap.get? S = some { cls := .type "list", dict := none, data := .seq #[vb, vb] c, slots := #[] } →
    (∀ v h' tk, P (argBest bt (n - 1)) v → (∀ b o, b ∉ wr → b ≠ S → s.heap.get? b = some o → h'.get? b = some o) → R (.ok (.ret v)) { s with heap := h', toks := tk }) →
    codeAny (model prog w) A (.builtin "min.loop" ⟨[.ref I, .none, .ref S], kw⟩) R s := by
  have nW : S ∉ wr := fun z => nS (W.sub _ z)
  have nm : (toString "min" ++ toString ".loop" : String) = "min.loop" := by decide
  intro k
  induction k with
  | zero =>
    intro j s vb c ek ej st pb gS fin
    have ej2 : j + 1 = n := by omega
    refine codeAny_builtin PySem.F.entry_min_loop ?_
    rw [Around.under_plainId PySem.F.plain_min_loop _]
    show wpAny _ A.in1 (seqItems? (.ref S) >>= _) _ _ _
    refine wpAny_bind (wpAny_seqItems gS rfl ?_)
    show wpAny _ A.in1 (tryCatch (pyNext (.ref I)) _ >>= _) _ _ _
    refine wpAny_bind (wpAny_tryCatch (W.done _ _ _ (ej2 ▸ st) fun h1 t1 k1 => ?_))
    have gS1 := k1 S _ nW gS
    show wpAny _ A.in1 (updateSeq S (fun _ => #[]) >>= _) _ _ _
    refine wpAny_bind (wpAny_updateSeq gS1 rfl (wpAny_bind (wpAny_letGo (wpAny_pure ?_))))
    exact fin vb _ t1 (by rw [← ej2]; exact pb) fun b o z1 z2 e => (Heap.get?_update_other _ _ (Ne.symm z2)).trans (k1 b o z1 e)
  | succ k ih =>
    intro j s vb c ek ej st pb gS fin
    have lt : j + 1 < n := by omega
    refine codeAny_builtin PySem.F.entry_min_loop ?_
    rw [Around.under_plainId PySem.F.plain_min_loop _]
    show wpAny _ A.in1 (seqItems? (.ref S) >>= _) _ _ _
    refine wpAny_bind (wpAny_seqItems gS rfl ?_)
    show wpAny _ A.in1 (tryCatch (pyNext (.ref I)) _ >>= _) _ _ _
    refine wpAny_bind (wpAny_tryCatch (W.item (j + 1) _ _ _ lt st fun v h1 t1 pv st1 k1 => ?_))
    have gS1 := k1 S _ nW gS
    show wpAny _ A.in1 (tryCatch (holding [v, v] (richCompare .Lt v vb >>= _)) _ >>= _) _ _ _
    refine wpAny_bind (wpAny_tryCatch (wpAny_holding (wpAny_bind (cmp (j + 1) (argBest bt j) v vb _ _ _ pv pb ?_))))
    refine wpAny_bind (wpAny_holding (wpAny_truthy_bool ?_))
    refine wpAny_bind (wpAny_letGo (wpAny_pure ?_))
    cases hb : bt (j + 1) (argBest bt j) with
    | true =>
      simp only [if_true]
      refine wpAny_bind (wpAny_updateSeq gS1 rfl (wpAny_bind (wpAny_letGo ?_)))
      rw [nm]
      refine wpAny_pure ⟨plainId_quiet PySem.F.plain_min_loop _, ih (j + 1) _ v _ (by omega) lt (W.frame _ _ _ st1 fun b z o e => ?_) (by simp only [argBest, hb, if_true]; exact pv) (Heap.get?_update_self _ gS1 rfl) fun v2 h2 t2 p2 k2 => ?_⟩
      · exact (Heap.get?_update_other _ _ (fun y : S = b => nS (by rw [y]; exact z))).trans e
      · exact fin v2 h2 t2 p2 fun b o z1 z2 e => k2 b o z1 z2 ((Heap.get?_update_other _ _ (Ne.symm z2)).trans (k1 b o z1 e))
    | false =>
      simp only [Bool.false_eq_true, if_false]
      refine wpAny_bind (wpAny_letGo ?_)
      rw [nm]
      refine wpAny_pure ⟨plainId_quiet PySem.F.plain_min_loop _, ih (j + 1) _ vb c (by omega) lt st1 (by simp only [argBest, hb, Bool.false_eq_true, if_false]; exact pb) gS1 fun v2 h2 t2 p2 k2 => ?_⟩
      exact fin v2 h2 t2 p2 fun b o z1 z2 e => k2 b o z1 z2 (k1 b o z1 e)
theorem min_firstD (W : Walks prog w A.in1 I fp wr n P St) (bt : Nat → Nat → Bool) (cmp : CmpOf prog w A.in1 .Lt P bt) (S : Addr) (nS : S ∉ fp) (d : Value) (nm0 : Str) {s : Shared} {c : Nat} (st : St 0 s.heap)
    (gS : s.heap.get? S = some { cls := .type "list", dict := none, data := .seq #[] c, slots := #[] })
    (fin : ∀ v h' tk, (0 < n → P (argBest bt (n - 1)) v) → (n = 0 → v = d) → (∀ b o, b ∉ wr → b ≠ S → s.heap.get? b = some o → h'.get? b = some o) → R (.ok (.ret v)) { s with heap := h', toks := tk }) :
    codeAny (model prog w) A (.builtin "min.loop" ⟨[.ref I, .none, .ref S], [(nm0, d)]⟩) R s := by
  have nW : S ∉ wr := fun z => nS (W.sub _ z)
  have nm : (toString "min" ++ toString ".loop" : String) = "min.loop" := by decide
  refine codeAny_builtin PySem.F.entry_min_loop ?_
  rw [Around.under_plainId PySem.F.plain_min_loop _]
  show wpAny _ A.in1 (seqItems? (.ref S) >>= _) _ _ _
  refine wpAny_bind (wpAny_seqItems gS rfl ?_)
  show wpAny _ A.in1 (tryCatch (pyNext (.ref I)) _ >>= _) _ _ _
  by_cases hn : 0 < n
  · refine wpAny_bind (wpAny_tryCatch (W.item 0 _ _ _ hn st fun v h1 t1 pv st1 k1 => ?_))
    have gS1 := k1 S _ nW gS
    show wpAny _ A.in1 (updateSeq S (fun _ => #[v, v]) >>= _) _ _ _
    refine wpAny_bind (wpAny_updateSeq gS1 rfl ?_)
    rw [nm]
    refine wpAny_pure ⟨plainId_quiet PySem.F.plain_min_loop _, min_loopD W bt cmp S nS _ _ 0 _ v _ rfl hn (W.frame _ _ _ st1 fun b z o e => ?_) pv (Heap.get?_update_self _ gS1 rfl) fun v2 h2 t2 p2 k2 => ?_⟩
    · exact (Heap.get?_update_other _ _ (fun y : S = b => nS (by rw [y]; exact z))).trans e
    · exact fin v2 h2 t2 (fun _ => p2) (fun z => absurd hn (by omega)) fun b o z1 z2 e => k2 b o z1 z2 ((Heap.get?_update_other _ _ (Ne.symm z2)).trans (k1 b o z1 e))
  · have n0 : n = 0 := by omega
    refine wpAny_bind (wpAny_tryCatch (W.done _ _ _ (n0 ▸ st) fun h1 t1 k1 => ?_))
    show wpAny _ A.in1 (rule _ >>= _) _ _ _
    refine wpAny_bind (wpAny_rule ?_)
    exact wpAny_pure (fin d h1 t1 (fun z => absurd z hn) (fun _ => rfl) fun b o z1 _ e => k1 b o z1 e)
theorem kw_minD (a v : Value) : argsOk "min" ⟨[a], [(Str.ofString "default", v)]⟩ := by
  unfold argsOk
  kernel_rfl
theorem call_minD {l : Addr} {xs : Array (Int × Tok)} {d : Value} {Q : Value → Shared → Prop} (hh : A.handled = none) (hl : s.heap.IsList l (intItems xs))
    (h : ∀ v h' tk, (0 < xs.size → (intItems xs)[argBest (fun i j => decide (numAt xs i < numAt xs j)) (xs.size - 1)]? = some v) → (xs.size = 0 → v = d) → (∀ b o, s.heap.get? b = some o → h'.get? b = some o) → Q v { s with heap := h', toks := tk }) :
    wpAny (model prog w) A (call (.builtin "min") [.ref l] [(Str.ofString "default", d)]) Q E s := by
  have nm : (toString "min" ++ toString ".loop" : String) = "min.loop" := by decide
  refine kmk_tree PySem.F.kind_min PySem.F.plain_min PySem.F.entry_min (kw_minD _ _) ?_
  show wpAny _ A.in1 (Builtin.Builtins.bindParams "min" ["key", "default"] 0 ⟨[], [(Str.ofString "default", d)]⟩ >>= _) _ _ _
  refine wpAny_bind (wpAny_of_eq (show Builtin.Builtins.bindParams "min" ["key", "default"] 0 ⟨[], [(Str.ofString "default", d)]⟩ = pure [none, some d] from rfl) ?_)
  refine wpAny_bind (wpAny_pure (wpAny_bind (iter_intList hl fun s2 e2 st2 fp2 ne2 => ?_)))
  subst e2
  refine wpAny_bind (wpAny_newObj_type ?_)
  rw [nm]
  have W := Walks.list (prog := prog) (w := w) (A := A.in1) hh s.heap.objs.size l ne2 (intItems xs)
  have szx : (intItems xs).size = xs.size := by simp [intItems]
  refine wpAny_pure ⟨plainId_quiet PySem.F.plain_min_loop _, min_firstD W _ (CmpOf.ints_lt (numAt xs) (fun _ _ => intItems_at)) _ (fun z => Nat.lt_irrefl _ (fp2 _ z)) d _ (W.frame 0 _ _ st2 fun b _ o e => Heap.get?_push_of_some _ e) (Heap.get?_push_size _ rfl) fun v h1 t1 p1 p2 k1 => ?_⟩
  refine h v h1 t1 (fun z => by have := p1 (by rw [szx]; exact z); rw [szx] at this; exact this) (fun z => p2 (by rw [szx]; exact z)) (old_kept (l := l) fun b o z e => ?_)
  exact k1 b o z (Nat.ne_of_lt (Heap.lt_size e)) (Heap.get?_push_of_some _ e)
end
/-- max(xs, default=d) of a list of ints -/
def rMaxD (K : PySem.W.Frag) : List V → List V → Hp → VK → Prop := fun vs zs H Q => ∃ (a : Addr) (ns : List Int) (z : V), vs = [.ref a] ∧ zs = [z] ∧ SqL K H a (ns.map V.int) ∧ (ns = [] → Q z H) ∧ ∀ m, m ∈ ns → (∀ y, y ∈ ns → y ≤ m) → Q (.int m) H
theorem cr_maxD {X : Cx} (hc : X.calm = true) : CallRK X (.builtin "max") [Str.ofString "default"] (rMaxD X.K) := by
  intro pins s σ H xs zs us ws Q I r rz h
  obtain ⟨a, ns, z, rfl, rfl, hS, q1, q2⟩ := h
  obtain ⟨u, rfl, ru⟩ := vals1 r
  cases ru
  obtain ⟨dv, rfl, rd⟩ := vals1 rz
  obtain ⟨its, rv, pl, hz⟩ := I.list hS
  have hI := Vals.ints rv
  obtain ⟨ys, e⟩ := hI.allInts.items
  have hn : numsOf (intItems ys).toList = ns := by rw [← e]; exact hI.numsOf
  rw [nums_intItems] at hn
  subst hn
  rw [e] at pl
  refine call_maxD (I.ok.hd hc) pl.isList fun v h1 t1 p1 p2 k1 => ?_
  by_cases hy : 0 < ys.size
  · obtain ⟨t, rfl⟩ := intItems_at (p1 hy)
    obtain ⟨h2, h3⟩ := argBest_gt (numAt ys) (ys.size - 1)
    refine ⟨.int _, H, I.kept (h' := h1) (t' := t1) k1, ⟨t, rfl⟩, q2 _ ?_ fun y hy2 => ?_⟩
    · rw [numAt_eq]; exact PySem.getD_mem (by rw [List.length_map, Array.length_toList]; omega)
    · obtain ⟨j, hj, rfl⟩ := mem_getD hy2
      rw [List.length_map, Array.length_toList] at hj
      rw [← numAt_eq]; exact h3 j (by omega)
  · have y0 : ys.size = 0 := by omega
    rw [p2 y0]
    exact ⟨z, H, I.kept (h' := h1) (t' := t1) k1, rd, q1 (by rw [List.map_eq_nil_iff, ← List.length_eq_zero_iff, Array.length_toList]; exact y0)⟩
/-- min(xs, default=d) of a list of ints -/
def rMinD (K : PySem.W.Frag) : List V → List V → Hp → VK → Prop := fun vs zs H Q => ∃ (a : Addr) (ns : List Int) (z : V), vs = [.ref a] ∧ zs = [z] ∧ SqL K H a (ns.map V.int) ∧ (ns = [] → Q z H) ∧ ∀ m, m ∈ ns → (∀ y, y ∈ ns → m ≤ y) → Q (.int m) H
theorem cr_minD {X : Cx} (hc : X.calm = true) : CallRK X (.builtin "min") [Str.ofString "default"] (rMinD X.K) := by
  intro pins s σ H xs zs us ws Q I r rz h
  obtain ⟨a, ns, z, rfl, rfl, hS, q1, q2⟩ := h
  obtain ⟨u, rfl, ru⟩ := vals1 r
  cases ru
  obtain ⟨dv, rfl, rd⟩ := vals1 rz
  obtain ⟨its, rv, pl, hz⟩ := I.list hS
  have hI := Vals.ints rv
  obtain ⟨ys, e⟩ := hI.allInts.items
  have hn : numsOf (intItems ys).toList = ns := by rw [← e]; exact hI.numsOf
  rw [nums_intItems] at hn
  subst hn
  rw [e] at pl
  refine call_minD (I.ok.hd hc) pl.isList fun v h1 t1 p1 p2 k1 => ?_
  by_cases hy : 0 < ys.size
  · obtain ⟨t, rfl⟩ := intItems_at (p1 hy)
    obtain ⟨h2, h3⟩ := argBest_lt (numAt ys) (ys.size - 1)
    refine ⟨.int _, H, I.kept (h' := h1) (t' := t1) k1, ⟨t, rfl⟩, q2 _ ?_ fun y hy2 => ?_⟩
    · rw [numAt_eq]; exact PySem.getD_mem (by rw [List.length_map, Array.length_toList]; omega)
    · obtain ⟨j, hj, rfl⟩ := mem_getD hy2
      rw [List.length_map, Array.length_toList] at hj
      rw [← numAt_eq]; exact h3 j (by omega)
  · have y0 : ys.size = 0 := by omega
    rw [p2 y0]
    exact ⟨z, H, I.kept (h' := h1) (t' := t1) k1, rd, q1 (by rw [List.map_eq_nil_iff, ← List.length_eq_zero_iff, Array.length_toList]; exact y0)⟩
/-! ### max, min of a tuple of ints -/
theorem iter_intT {prog : Program} {w : World} {A : Around} {E : Value → Shared → Prop} {s : Shared} {l : Addr} {xs : Array (Int × Tok)} {Q : Value → Shared → Prop} (hl : s.heap.IsTuple l (intItems xs))
    (h : ∀ s₂ : Shared, s₂ = { s with heap := s.heap.push { cls := .type "tuple_iterator", data := .fields #[.ref l, .int 0 0] } } →
      (s₂.heap.IsTupleIter s.heap.objs.size l 0 ∧ s₂.heap.IsTuple l (intItems xs)) → (∀ b ∈ [s.heap.objs.size, l], b < s₂.heap.objs.size) → l ≠ s.heap.objs.size → Q (.ref s.heap.objs.size) s₂) :
    wpAny (model prog w) A (pyIter (.ref l)) Q E s := by
  have hlt : l < s.heap.objs.size := by obtain ⟨_, e, _⟩ := hl; exact Heap.lt_size e
  refine wpAny_pyIter_tuple hl (h _ rfl ⟨⟨_, Heap.get?_push_size _ rfl, rfl, rfl⟩, hl.push _⟩ (fun b hb => ?_) (Nat.ne_of_lt hlt))
  show b < (s.heap.push _).objs.size
  rw [Heap.size_push]
  rcases List.mem_cons.mp hb with rfl | hb
  · exact Nat.lt_succ_self _
  · rcases List.mem_cons.mp hb with rfl | hb
    · exact Nat.lt_succ_of_lt hlt
    · cases hb
theorem old_keptT {s : Shared} {l : Addr} {h' : Heap} (hk : ∀ b o, b ∉ [s.heap.objs.size] → (s.heap.push { cls := .type "tuple_iterator", data := .fields #[.ref l, .int 0 0] }).get? b = some o → h'.get? b = some o) :
    ∀ b o, s.heap.get? b = some o → h'.get? b = some o := fun b o e => by
  refine hk b o (fun hm => ?_) (Heap.get?_push_of_some _ e)
  rcases List.mem_cons.mp hm with e1 | hm
  · exact absurd (e1 ▸ Heap.lt_size e) (Nat.lt_irrefl _)
  · cases hm
theorem max_rawT {prog : Program} {w : World} {A : Around} {E : Value → Shared → Prop} {s : Shared} {l : Addr} {its : List Value} {ns : List Int} {Q : Value → Shared → Prop} (hh : A.handled = none) (hl : s.heap.IsTuple l its.toArray) (hi : IntsAre its ns) (hne : 0 < ns.length)
    (h : ∀ h' tk M t', (∀ b o, s.heap.get? b = some o → h'.get? b = some o) → M ∈ ns → (∀ a, a ∈ ns → a ≤ M) → Q (.int M t') { s with heap := h', toks := tk }) : wpAny (model prog w) A (call (.builtin "max") [.ref l]) Q E s := by
  obtain ⟨xs, e⟩ := hi.allInts.items
  have hn : numsOf (intItems xs).toList = ns := by rw [← e]; exact hi.numsOf
  rw [nums_intItems] at hn
  subst hn
  rw [e] at hl
  have hsz : 0 < xs.size := by simpa using hne
  refine call_max_walk (iter_intT hl fun s₂ e st hfp hlI => ?_)
  subst e
  refine ⟨_, _, _, _, _, _, _, rfl, Walks.tuple (A := A.in1) hh _ l hlI (intItems xs), st, hfp, by simpa [intItems] using hsz, CmpOf.ints_gt (numAt xs) (fun _ _ => intItems_at), fun v h' tk hP hk => ?_⟩
  have hv : (intItems xs)[argBest (fun i j => decide (numAt xs i > numAt xs j)) (xs.size - 1)]? = some v := by simpa [intItems] using hP
  obtain ⟨t, rfl⟩ := intItems_at hv
  obtain ⟨h1, h2⟩ := argBest_gt (numAt xs) (xs.size - 1)
  refine h h' tk _ t (old_keptT hk) ?_ fun a ha => ?_
  · rw [numAt_eq]; exact PySem.getD_mem (by rw [List.length_map, Array.length_toList]; omega)
  · obtain ⟨j, hj, rfl⟩ := mem_getD ha
    rw [List.length_map, Array.length_toList] at hj
    rw [← numAt_eq]; exact h2 j (by omega)
def rMaxT (K : PySem.W.Frag) : List V → Hp → VK → Prop := fun vs H Q => ∃ (a : Addr) (ns : List Int), vs = [V.ref a] ∧ SqT K H a (ns.map V.int) ∧ 0 < ns.length ∧ ∀ m, m ∈ ns → (∀ y, y ∈ ns → y ≤ m) → Q (.int m) H
theorem cr_maxT {X : Cx} (hc : X.calm = true) : CallR X (.builtin "max") (rMaxT X.K) := by
  intro pins s σ H vs us Q I r h
  obtain ⟨a, ns, rfl, hs, hne, q⟩ := h
  obtain ⟨its, rv, hl, _⟩ := I.tuple hs
  rw [Vals.ref1 r]
  exact max_rawT (I.ok.hd hc) hl rv.ints hne fun h' tk m t' hk h1 h2 => ⟨.int _, H, I.kept hk, ⟨_, rfl⟩, q m h1 h2⟩
theorem min_rawT {prog : Program} {w : World} {A : Around} {E : Value → Shared → Prop} {s : Shared} {l : Addr} {its : List Value} {ns : List Int} {Q : Value → Shared → Prop} (hh : A.handled = none) (hl : s.heap.IsTuple l its.toArray) (hi : IntsAre its ns) (hne : 0 < ns.length)
    (h : ∀ h' tk M t', (∀ b o, s.heap.get? b = some o → h'.get? b = some o) → M ∈ ns → (∀ a, a ∈ ns → M ≤ a) → Q (.int M t') { s with heap := h', toks := tk }) : wpAny (model prog w) A (call (.builtin "min") [.ref l]) Q E s := by
  obtain ⟨xs, e⟩ := hi.allInts.items
  have hn : numsOf (intItems xs).toList = ns := by rw [← e]; exact hi.numsOf
  rw [nums_intItems] at hn
  subst hn
  rw [e] at hl
  have hsz : 0 < xs.size := by simpa using hne
  refine call_min_walk (iter_intT hl fun s₂ e st hfp hlI => ?_)
  subst e
  refine ⟨_, _, _, _, _, _, _, rfl, Walks.tuple (A := A.in1) hh _ l hlI (intItems xs), st, hfp, by simpa [intItems] using hsz, CmpOf.ints_lt (numAt xs) (fun _ _ => intItems_at), fun v h' tk hP hk => ?_⟩
  have hv : (intItems xs)[argBest (fun i j => decide (numAt xs i < numAt xs j)) (xs.size - 1)]? = some v := by simpa [intItems] using hP
  obtain ⟨t, rfl⟩ := intItems_at hv
  obtain ⟨h1, h2⟩ := argBest_lt (numAt xs) (xs.size - 1)
  refine h h' tk _ t (old_keptT hk) ?_ fun a ha => ?_
  · rw [numAt_eq]; exact PySem.getD_mem (by rw [List.length_map, Array.length_toList]; omega)
  · obtain ⟨j, hj, rfl⟩ := mem_getD ha
    rw [List.length_map, Array.length_toList] at hj
    rw [← numAt_eq]; exact h2 j (by omega)
def rMinT (K : PySem.W.Frag) : List V → Hp → VK → Prop := fun vs H Q => ∃ (a : Addr) (ns : List Int), vs = [V.ref a] ∧ SqT K H a (ns.map V.int) ∧ 0 < ns.length ∧ ∀ m, m ∈ ns → (∀ y, y ∈ ns → m ≤ y) → Q (.int m) H
theorem cr_minT {X : Cx} (hc : X.calm = true) : CallR X (.builtin "min") (rMinT X.K) := by
  intro pins s σ H vs us Q I r h
  obtain ⟨a, ns, rfl, hs, hne, q⟩ := h
  obtain ⟨its, rv, hl, _⟩ := I.tuple hs
  rw [Vals.ref1 r]
  exact min_rawT (I.ok.hd hc) hl rv.ints hne fun h' tk m t' hk h1 h2 => ⟨.int _, H, I.kept hk, ⟨_, rfl⟩, q m h1 h2⟩
end VL
/-! VL: built-in functions called. -/
namespace VL
open PySem PySem.Spec PyProof.Rows L2

def lookAll (env : En) : List Arg → (List D → Prop) → Prop
  | [], k => k []
  | a :: as, k => look env a fun d => lookAll env as fun ds => k (d :: ds)
def Views (K : PySem.W.Frag) (G H : Hp) : List D → List V → Prop
  | [], vs => vs = []
  | d :: ds, vs => ∃ v ws, vs = v :: ws ∧ View K G H d v ∧ Views K G H ds ws
theorem Ok.lookAll {K : PySem.W.Frag} {Rs : List Nat} {F : Fr} {env : En} {σ : L2.St} {G H : Hp} (ok : Ok K Rs F env σ G H) : ∀ {as : List Arg} {vs : List V} {k : List D → Prop}, ArgsRep K G σ as vs → VL.lookAll env as k → ∃ ds, k ds ∧ Views K G H ds vs
  | [], _, _, h, hk => ⟨[], hk, h⟩
  | a :: as, _, k, ⟨v, ws, e, r, h⟩, hk => by
    obtain ⟨d, h1, h2⟩ := ok.look (k := fun d => VL.lookAll env as fun ds => k (d :: ds)) r hk
    obtain ⟨ds, h3, h4⟩ := Ok.lookAll ok h h1
    exact ⟨d :: ds, h3, v, ws, e, h2, h4⟩
abbrev OpN := List D → (DV → Prop) → Prop
def SemC (K : PySem.W.Frag) (r : List V → Hp → VK → Prop) (g : OpN) : Prop := ∀ (Rs : List Nat) (F : Fr) (env : En) (σ : L2.St) (G H : Hp) (vs : List V) (ds : List D) (Q : VK) (Qm : DV → Prop), Ok K Rs F env σ G H → Views K G H ds vs → g ds Qm →
  (∀ z v G' H', Ok K Rs F env σ G' H' → Ex G G' → RRep K F env σ G' H' z v → Qm z → Q v H') → r vs H Q
def mB (g : OpN) (ma : MA) : ME := fun env Q Em => ma env (fun as e1 => lookAll e1 as fun ds => g ds fun z => Q z e1) Em
section
variable {X : Cx} {Rs : List Nat} {W : WX} {x : Str} {p pos : Pos} {e : Expr} {es : List Expr} {t tk : TA} {ma mk : MA} {r : List V → Hp → VK → Prop} {g : OpN} {id T : String}
theorem sem_b {K : PySem.W.Frag} (h : SemC K r g) (ha : SemA K Rs W t ma) : SemE K Rs W (tCB r t) (mB g ma) := fun F env σ G H Q Qm Em ok lk hm q => ha F env σ G H _ _ Em ok lk hm fun as e1 vs G1 H1 ok1 x1 r1 m1 => by
  obtain ⟨ds, m2, v2⟩ := ok1.lookAll (k := fun ds => g ds fun z => Qm z e1) r1 m1
  exact h Rs F e1 σ G1 H1 vs ds Q _ ok1 v2 m2 fun z v G2 H2 ok2 x2 rr mz => q z e1 v G2 H2 ok2 (x1.trans x2) rr mz
theorem de_b (hc : CallR X (.builtin id) r) (hs : SemC X.K r g) (hg : Gl X x) (hm : X.mg x = none) (hv : bootBuiltins x = some (.builtin id)) (ha : DA X Rs W (e :: es) t ma) (hn : x ≠ "__name__" := by decide) (hdb : (x == ("__debug__" : Str)) = false := by decide)
    (he : starEach (e :: es) X.env = (false, eval e X.env) :: starEach es X.env := by rfl) (hpl : (backTo pos (starEach es X.env)).any (·.1) = false := by rfl) : DE X Rs W (.Call (.Name x p) (e :: es) [] pos) (tCB r t) (mB g ma) := ⟨pe_callB hc hg hm hv ha.p hn hdb he hpl, sem_b hs ha.s⟩
theorem de_t (hc : CallR X (.type T) r) (hs : SemC X.K r g) (hg : Gl X x) (hm : X.mg x = none) (hv : bootBuiltins x = some (.type T)) (ha : DA X Rs W (e :: es) t ma) (hn : x ≠ "__name__" := by decide) (hdb : (x == ("__debug__" : Str)) = false := by decide)
    (he : starEach (e :: es) X.env = (false, eval e X.env) :: starEach es X.env := by rfl) (hpl : (backTo pos (starEach es X.env)).any (·.1) = false := by rfl) : DE X Rs W (.Call (.Name x p) (e :: es) [] pos) (tCB r t) (mB g ma) := ⟨pe_callTy hc hg hm hv ha.p hn hdb he hpl, sem_b hs ha.s⟩
/-- a built-in class as a value -/
theorem de_ty (hg : Gl X x) (hm : X.mg x = none) (hv : bootBuiltins x = some (.type T)) (hn : x ≠ "__name__" := by decide) (hd : (x == ("__debug__" : Str)) = false := by decide) : DE X Rs W (.Name x pos) (tC (.ty T)) (mC (.val (.ty T))) :=
  ⟨pe_bltn hg hm hv rfl hn hd, sem_c fun _ => by rw [Rep]⟩
end
section
variable {K : PySem.W.Frag}
theorem views1 {G H : Hp} {d : D} {vs : List V} (h : Views K G H [d] vs) : ∃ v, vs = [v] ∧ View K G H d v := by
  obtain ⟨v, ws, e, h1, h2⟩ := h
  have h2 : ws = [] := h2
  subst h2
  exact ⟨v, e, h1⟩
theorem views2 {G H : Hp} {d e : D} {vs : List V} (h : Views K G H [d, e] vs) : ∃ v w, vs = [v, w] ∧ View K G H d v ∧ View K G H e w := by
  obtain ⟨v, ws, e1, h1, w, us, e2, h2, h3⟩ := h
  have h3 : us = [] := h3
  subst h3
  exact ⟨v, w, by rw [e1, e2], h1, h2⟩
/-- len -/
def gLen : OpN := fun ds k => match ds with
  | [.lst xs] => k (.f (.int xs.length))
  | [.tup xs] => k (.f (.int xs.length))
  | [.str x] => req (x.length ≤ sizeLine) (k (.f (.int x.length)))
  | [.scr is] => k (.f (.int is.length))
  | _ => False
abbrev rLenX (K : PySem.W.Frag) : List V → Hp → VK → Prop := fun xs H Q => (∃ p ys, xs = [.ref p] ∧ (SqL K H p ys ∨ SqT K H p ys) ∧ Q (.int ys.length) H) ∨ (∃ z, xs = [.str z] ∧ z.length ≤ sizeLine ∧ Q (.int z.length) H)
theorem call_lenX {X : Cx} : CallR X (.builtin "len") (rLenX X.K) := call_len_seq.or call_len_str
theorem sc_len : SemC K (rLenX K) gLen := fun Rs F env σ G H vs ds Q Qm ok vd hm q => by
  unfold gLen at hm
  split at hm
  · rename_i xs
    obtain ⟨v, rfl, a, us, rfl, h1, h2⟩ := views1 vd
    exact .inl ⟨a, us, rfl, .inl (.of h1), by rw [h2.length]; exact q (.f (.int xs.length)) _ G H ok (Ex.refl G) (r_int _) hm⟩
  · rename_i xs
    obtain ⟨v, rfl, h⟩ := views1 vd
    obtain ⟨a, us, rfl, h1, h2⟩ := v_tup ok.sub h
    exact .inl ⟨a, us, rfl, .inr (.of h1), by rw [h2.length]; exact q (.f (.int xs.length)) _ G H ok (Ex.refl G) (r_int _) hm⟩
  · rename_i x
    obtain ⟨hc, hm⟩ := req_of hm
    obtain ⟨v, rfl, h⟩ := views1 vd
    rw [v_str h]
    exact .inr ⟨x, rfl, hc, q (.f (.int x.length)) _ G H ok (Ex.refl G) (r_int _) hm⟩
  · rename_i is
    obtain ⟨v, rfl, h⟩ := views1 vd
    obtain ⟨a, rfl, h1⟩ := v_scr ok.sub h
    exact .inl ⟨a, _, rfl, .inl h1, by rw [List.length_map]; exact q (.f (.int is.length)) _ G H ok (Ex.refl G) (r_int _) hm⟩
  · cases hm
/-- isinstance with built-in classes -/
def D.ty : D → Option String
  | .non => some "NoneType"
  | .bl _ => some "bool"
  | .int _ => some "int"
  | .str _ => some "str"
  | .lst _ => some "list"
  | .tup _ => some "tuple"
  | .dct _ _ => some "dict"
  | _ => none
/-- of a value of the class a (no other than these), whether it is one of b -/
def isB (a b : String) : Option Bool := if a = "NoneType" ∨ a = "bool" ∨ a = "int" ∨ a = "str" ∨ a = "list" ∨ a = "tuple" ∨ a = "dict" then
    (if b = "int" ∨ b = "bool" ∨ b = "str" ∨ b = "list" ∨ b = "tuple" ∨ b = "dict" then some (decide (a = b) || decide (a = "bool" ∧ b = "int")) else none) else none
theorem isB_kit {a b : String} {r : Bool} (h : isB a b = some r) : kitB a b = some r := by
  unfold isB at h
  split at h
  · rename_i ha
    split at h
    · rename_i hb
      cases h
      rcases ha with rfl | rfl | rfl | rfl | rfl | rfl | rfl <;> rcases hb with rfl | rfl | rfl | rfl | rfl | rfl <;> decide +kernel
    · cases h
  · cases h
theorem ty_rep {G H : Hp} (hs : Ex G H) {d : D} {v : V} {T : String} (h : View K G H d v) (e : d.ty = some T) : TyX K H v (.type T) := by
  cases d with
  | non => cases e; rw [v_non h]; exact .base .non
  | bl b => cases e; rw [v_bl h]; exact .base (.bl b)
  | int b => cases e; rw [v_int h]; exact .base (.int b)
  | str b => cases e; rw [v_str h]; exact .base (.str b)
  | lst ds => cases e; obtain ⟨a, vs, rfl, h1, _⟩ := h; exact .base (.lst h1)
  | tup ds =>
    cases e
    obtain ⟨a, vs, rfl, h1, _⟩ := v_tup hs h
    exact .base (.tup h1)
  | dct ks ds => cases e; obtain ⟨a, vs, rfl, h1, _⟩ := h; exact .base (.dK h1)
  | _ => cases e
def isAny (a : String) : List D → Option Bool
  | [] => some false
  | .val (.ty b) :: ds => match isB a b, isAny a ds with
    | some x, some y => some (x || y)
    | _, _ => none
  | _ :: _ => none
def gIsi : OpN := fun ds k => match ds with
  | [d, .val (.ty b)] => (match d.ty with | some a => (match isB a b with | some r => k (.f (.bl r)) | none => False) | none => False)
  | [d, .tup cs] => (match d.ty with | some a => (match isAny a cs with | some r => k (.f (.bl r)) | none => False) | none => False)
  | _ => False
theorem isAny_kit {a : String} : ∀ {cs : List D} {vs : List V} {G : Hp} {r : Bool}, Reps K G cs vs → isAny a cs = some r → ∃ us, Paired ClsV vs us ∧ PySem.W.kitAny K (.type a) us = some r
  | [], vs, G, r, h, e => by rw [reps_nil.mp h]; exact ⟨[], .nil, by cases e; rfl⟩
  | .val (.ty b) :: cs, vs, G, r, h, e => by
    obtain ⟨v, ws, rfl, h1, h2⟩ := reps_cons.mp h
    rw [Rep] at h1
    subst h1
    unfold isAny at e
    cases q : isB a b with
    | none => rw [q] at e; cases e
    | some c =>
      cases q2 : isAny a cs with
      | none => rw [q, q2] at e; cases e
      | some y =>
        rw [q, q2] at e
        cases e
        obtain ⟨us, u1, u2⟩ := isAny_kit h2 q2
        exact ⟨_ :: us, .cons (.ty b) u1, kitAny_cons (kit_ty (isB_kit q)) (fun z => by rw [z]; exact u2) (fun z => by rw [z]; rfl)⟩
  | .non :: _, _, _, _, _, e => by cases e
  | .bl _ :: _, _, _, _, _, e => by cases e
  | .int _ :: _, _, _, _, _, e => by cases e
  | .str _ :: _, _, _, _, _, e => by cases e
  | .lst _ :: _, _, _, _, _, e => by cases e
  | .tup _ :: _, _, _, _, _, e => by cases e
  | .dct _ _ :: _, _, _, _, _, e => by cases e
  | .ins _ _ _ :: _, _, _, _, _, e => by cases e
  | .tag _ _ :: _, _, _, _, _, e => by cases e
  | .scr _ :: _, _, _, _, _, e => by cases e
  | .val .non :: _, _, _, _, _, e => by cases e
  | .val (.bl _) :: _, _, _, _, _, e => by cases e
  | .val (.int _) :: _, _, _, _, _, e => by cases e
  | .val (.str _) :: _, _, _, _, _, e => by cases e
  | .val (.byt _) :: _, _, _, _, _, e => by cases e
  | .val (.flt _) :: _, _, _, _, _, e => by cases e
  | .val (.ref _) :: _, _, _, _, _, e => by cases e
abbrev rIsiX (K : PySem.W.Frag) : List V → Hp → VK → Prop := fun xs H Q => rIsi K xs H Q ∨ rIsiT K xs H Q
theorem call_isiX {X : Cx} : CallR X (.builtin "isinstance") (rIsiX X.K) := call_isi.or call_isiT
theorem sc_isi : SemC K (rIsiX K) gIsi := fun Rs F env σ G H vs ds Q Qm ok vd hm q => by
  unfold gIsi at hm
  split at hm
  · rename_i d b
    obtain ⟨v, w', rfl, h1, h2⟩ := views2 vd
    split at hm
    · rename_i a ea
      split at hm
      · rename_i r er
        rw [v_val h2]
        exact .inl ⟨v, .ty b, .type a, .type b, r, rfl, .ty b, ty_rep ok.sub h1 ea, kit_ty (isB_kit er), q (.f (.bl r)) _ G H ok (Ex.refl G) (r_bl _) hm⟩
      · cases hm
    · cases hm
  · rename_i d cs
    obtain ⟨v, w', rfl, h1, h2⟩ := views2 vd
    split at hm
    · rename_i a ea
      split at hm
      · rename_i r er
        obtain ⟨p, us, rfl, h3, h4⟩ := v_tup ok.sub h2
        obtain ⟨us', u1, u2⟩ := isAny_kit h4 er
        exact .inr ⟨v, p, us, .type a, us', r, rfl, h3, u1, ty_rep ok.sub h1 ea, u2, q (.f (.bl r)) _ G H ok (Ex.refl G) (r_bl _) hm⟩
      · cases hm
    · cases hm
  · cases hm
/-- lists of ints, of bools -/
def intsD : List D → Option (List Int)
  | [] => some []
  | d :: ds => match d.s, intsD ds with
    | .int i, some is => some (i :: is)
    | _, _ => none
def blsD : List D → Option (List Bool)
  | [] => some []
  | d :: ds => match d.s, blsD ds with
    | .bl i, some is => some (i :: is)
    | _, _ => none
theorem ints_rep {G : Hp} : ∀ {ds : List D} {vs : List V} {is : List Int}, Reps K G ds vs → intsD ds = some is → vs = is.map V.int
  | [], vs, is, h, e => by cases e; exact reps_nil.mp h
  | d :: ds, vs, is, h, e => by
    obtain ⟨v, ws, rfl, h1, h2⟩ := reps_cons.mp h
    have h1 := Rep.s h1
    unfold intsD at e
    split at e
    · rename_i i js e1 e2
      cases e
      rw [e1, Rep] at h1
      rw [h1, ints_rep h2 e2]
      rfl
    · cases e
theorem bls_rep {G : Hp} : ∀ {ds : List D} {vs : List V} {is : List Bool}, Reps K G ds vs → blsD ds = some is → vs = is.map V.bl
  | [], vs, is, h, e => by cases e; exact reps_nil.mp h
  | d :: ds, vs, is, h, e => by
    obtain ⟨v, ws, rfl, h1, h2⟩ := reps_cons.mp h
    have h1 := Rep.s h1
    unfold blsD at e
    split at e
    · rename_i i js e1 e2
      cases e
      rw [e1, Rep] at h1
      rw [h1, bls_rep h2 e2]
      rfl
    · cases e
def maxI : Int → List Int → Int
  | m, [] => m
  | m, x :: xs => maxI (if x > m then x else m) xs
def minI : Int → List Int → Int
  | m, [] => m
  | m, x :: xs => minI (if x < m then x else m) xs
theorem maxI_ge : ∀ (xs : List Int) (m : Int), m ≤ maxI m xs ∧ (∀ x ∈ xs, x ≤ maxI m xs) ∧ (maxI m xs = m ∨ maxI m xs ∈ xs)
  | [], m => by
    refine ⟨Int.le_refl m, fun y h => ?_, Or.inl rfl⟩
    cases h
  | x :: xs, m => by
    obtain ⟨h1, h2, h3⟩ := maxI_ge xs (if x > m then x else m)
    show _ ∧ _ ∧ _
    unfold maxI
    refine ⟨?_, fun y hy => ?_, ?_⟩
    · split at h1 <;> split <;> omega
    · rcases List.mem_cons.mp hy with rfl | hy
      · split at h1 <;> split <;> omega
      · exact h2 y hy
    · rcases h3 with h3 | h3
      · rw [h3]
        split
        · exact .inr List.mem_cons_self
        · exact .inl rfl
      · exact .inr (List.mem_cons_of_mem _ h3)
theorem minI_le : ∀ (xs : List Int) (m : Int), minI m xs ≤ m ∧ (∀ x ∈ xs, minI m xs ≤ x) ∧ (minI m xs = m ∨ minI m xs ∈ xs)
  | [], m => by
    refine ⟨Int.le_refl m, fun y h => ?_, Or.inl rfl⟩
    cases h
  | x :: xs, m => by
    obtain ⟨h1, h2, h3⟩ := minI_le xs (if x < m then x else m)
    show _ ∧ _ ∧ _
    unfold minI
    refine ⟨?_, fun y hy => ?_, ?_⟩
    · split at h1 <;> split <;> omega
    · rcases List.mem_cons.mp hy with rfl | hy
      · split at h1 <;> split <;> omega
      · exact h2 y hy
    · rcases h3 with h3 | h3
      · rw [h3]
        split
        · exact .inr List.mem_cons_self
        · exact .inl rfl
      · exact .inr (List.mem_cons_of_mem _ h3)
theorem maxI_is {x : Int} {xs : List Int} {m : Int} (h1 : m ∈ x :: xs) (h2 : ∀ y, y ∈ x :: xs → y ≤ m) : m = maxI x xs := by
  obtain ⟨a, b, c⟩ := maxI_ge xs x
  have h3 : m ≤ maxI x xs := by
    rcases List.mem_cons.mp h1 with rfl | h
    · exact a
    · exact b m h
  have h4 : maxI x xs ≤ m := by
    rcases c with c | c
    · rw [c]; exact h2 x List.mem_cons_self
    · exact h2 _ (List.mem_cons_of_mem _ c)
  omega
theorem minI_is {x : Int} {xs : List Int} {m : Int} (h1 : m ∈ x :: xs) (h2 : ∀ y, y ∈ x :: xs → m ≤ y) : m = minI x xs := by
  obtain ⟨a, b, c⟩ := minI_le xs x
  have h3 : minI x xs ≤ m := by
    rcases List.mem_cons.mp h1 with rfl | h
    · exact a
    · exact b m h
  have h4 : m ≤ minI x xs := by
    rcases c with c | c
    · rw [c]; exact h2 x List.mem_cons_self
    · exact h2 _ (List.mem_cons_of_mem _ c)
  omega
/-- max, min of two ints; of a list -/
def gMax : OpN := fun ds k => match ds with
  | [.int i, .int j] => k (.f (.int (if j > i then j else i)))
  | [.lst xs] => (match intsD xs with | some (i :: is) => k (.f (.int (maxI i is))) | _ => False)
  | [.tup xs] => (match intsD xs with | some (i :: is) => k (.f (.int (maxI i is))) | _ => False)
  | _ => False
def gMin : OpN := fun ds k => match ds with
  | [.int i, .int j] => k (.f (.int (if j < i then j else i)))
  | [.lst xs] => (match intsD xs with | some (i :: is) => k (.f (.int (minI i is))) | _ => False)
  | [.tup xs] => (match intsD xs with | some (i :: is) => k (.f (.int (minI i is))) | _ => False)
  | _ => False
abbrev rMaxX (K : PySem.W.Frag) : List V → Hp → VK → Prop := fun xs H Q => (∃ i j, xs = [.int i, .int j] ∧ Q (.int (if j > i then j else i)) H) ∨ (rMax K xs H Q ∨ rMaxT K xs H Q)
abbrev rMinX (K : PySem.W.Frag) : List V → Hp → VK → Prop := fun xs H Q => (∃ i j, xs = [.int i, .int j] ∧ Q (.int (if j < i then j else i)) H) ∨ (rMin K xs H Q ∨ rMinT K xs H Q)
theorem call_maxX {X : Cx} (hc : X.calm = true) : CallR X (.builtin "max") (rMaxX X.K) := (call_max2 hc).or ((cr_max hc).or (cr_maxT hc))
theorem call_minX {X : Cx} (hc : X.calm = true) : CallR X (.builtin "min") (rMinX X.K) := (call_min2 hc).or ((cr_min hc).or (cr_minT hc))
theorem sc_max : SemC K (rMaxX K) gMax := fun Rs F env σ G H vs ds Q Qm ok vd hm q => by
  unfold gMax at hm
  split at hm
  · rename_i i j
    obtain ⟨v, w', rfl, h1, h2⟩ := views2 vd
    rw [v_int h1, v_int h2]
    exact .inl ⟨i, j, rfl, q (.f (.int (if j > i then j else i))) _ G H ok (Ex.refl G) (r_int _) hm⟩
  · rename_i xs
    obtain ⟨v, rfl, a, us, rfl, h1, h2⟩ := views1 vd
    split at hm
    · rename_i i is ei
      have := ints_rep h2 ei
      subst this
      refine .inr (.inl ⟨a, i :: is, rfl, .of h1, by simp, fun m m1 m2 => ?_⟩)
      rw [maxI_is m1 m2]
      exact q (.f (.int (maxI i is))) _ G H ok (Ex.refl G) (r_int _) hm
    · cases hm
  · rename_i xs
    obtain ⟨v, rfl, h⟩ := views1 vd
    obtain ⟨a, us, rfl, h1, h2⟩ := v_tup ok.sub h
    split at hm
    · rename_i i is ei
      have := ints_rep h2 ei
      subst this
      refine .inr (.inr ⟨a, i :: is, rfl, .of h1, by simp, fun m m1 m2 => ?_⟩)
      rw [maxI_is m1 m2]
      exact q (.f (.int (maxI i is))) _ G H ok (Ex.refl G) (r_int _) hm
    · cases hm
  · cases hm
theorem sc_min : SemC K (rMinX K) gMin := fun Rs F env σ G H vs ds Q Qm ok vd hm q => by
  unfold gMin at hm
  split at hm
  · rename_i i j
    obtain ⟨v, w', rfl, h1, h2⟩ := views2 vd
    rw [v_int h1, v_int h2]
    exact .inl ⟨i, j, rfl, q (.f (.int (if j < i then j else i))) _ G H ok (Ex.refl G) (r_int _) hm⟩
  · rename_i xs
    obtain ⟨v, rfl, a, us, rfl, h1, h2⟩ := views1 vd
    split at hm
    · rename_i i is ei
      have := ints_rep h2 ei
      subst this
      refine .inr (.inl ⟨a, i :: is, rfl, .of h1, by simp, fun m m1 m2 => ?_⟩)
      rw [minI_is m1 m2]
      exact q (.f (.int (minI i is))) _ G H ok (Ex.refl G) (r_int _) hm
    · cases hm
  · rename_i xs
    obtain ⟨v, rfl, h⟩ := views1 vd
    obtain ⟨a, us, rfl, h1, h2⟩ := v_tup ok.sub h
    split at hm
    · rename_i i is ei
      have := ints_rep h2 ei
      subst this
      refine .inr (.inr ⟨a, i :: is, rfl, .of h1, by simp, fun m m1 m2 => ?_⟩)
      rw [minI_is m1 m2]
      exact q (.f (.int (minI i is))) _ G H ok (Ex.refl G) (r_int _) hm
    · cases hm
  · cases hm
/-- max(xs, default=d) -/
def defD (f : Int → List Int → Int) (xs : List D) (d : D) (k : DV → Prop) : Prop := match intsD xs with
  | some (i :: is) => k (.f (.int (f i is)))
  | some [] => k (.f d)
  | none => False
def isL1 (ds : List D) (k : List D → Prop) : Prop := match ds with
  | [.lst xs] => k xs
  | _ => False
def oneVal (bs : List Arg) (k : D → Prop) : Prop := match bs with
  | [.val d] => k d
  | _ => False
def mBD (f : Int → List Int → Int) (ma mk : MA) : ME := fun env Q Em => ma env (fun as e1 => mk e1 (fun bs e2 => lookAll e2 as fun ds => oneVal bs fun d => isL1 ds fun xs => defD f xs d fun z => Q z e2) Em) Em
/-- sum, abs, int, divmod, list, tuple, all, any -/
def gSum : OpN := fun ds k => match ds with
  | [.lst xs] => (match intsD xs with | some is => k (.f (.int is.sum)) | none => False)
  | _ => False
theorem sc_sum : SemC K (rSum K) gSum := fun Rs F env σ G H vs ds Q Qm ok vd hm q => by
  unfold gSum at hm
  split at hm
  · rename_i xs
    obtain ⟨v, rfl, a, us, rfl, h1, h2⟩ := views1 vd
    split at hm
    · rename_i is ei
      have := ints_rep h2 ei
      subst this
      exact ⟨a, is, rfl, .of h1, q (.f (.int is.sum)) _ G H ok (Ex.refl G) (r_int _) hm⟩
    · cases hm
  · cases hm
def gAllB : OpN := fun ds k => match ds with
  | [.lst xs] => (match blsD xs with | some is => k (.f (.bl (is.all id))) | none => False)
  | _ => False
def gAny : OpN := fun ds k => match ds with
  | [.lst xs] => (match blsD xs with | some is => k (.f (.bl (is.any id))) | none => False)
  | _ => False
theorem sc_all : SemC K (rAll K) gAllB := fun Rs F env σ G H vs ds Q Qm ok vd hm q => by
  unfold gAllB at hm
  split at hm
  · rename_i xs
    obtain ⟨v, rfl, a, us, rfl, h1, h2⟩ := views1 vd
    split at hm
    · rename_i is ei
      have := bls_rep h2 ei
      subst this
      exact ⟨a, is, rfl, .of h1, q (.f (.bl (is.all id))) _ G H ok (Ex.refl G) (r_bl _) hm⟩
    · cases hm
  · cases hm
theorem sc_any : SemC K (rAny K) gAny := fun Rs F env σ G H vs ds Q Qm ok vd hm q => by
  unfold gAny at hm
  split at hm
  · rename_i xs
    obtain ⟨v, rfl, a, us, rfl, h1, h2⟩ := views1 vd
    split at hm
    · rename_i is ei
      have := bls_rep h2 ei
      subst this
      exact ⟨a, is, rfl, .of h1, q (.f (.bl (is.any id))) _ G H ok (Ex.refl G) (r_bl _) hm⟩
    · cases hm
  · cases hm
def gAbs : OpN := fun ds k => match ds with
  | [.int i] => k (.f (.int (if i < 0 then -i else i)))
  | _ => False
theorem sc_abs : SemC K (fun xs H Q => ∃ i, xs = [.int i] ∧ Q (.int (if i < 0 then -i else i)) H) gAbs := fun Rs F env σ G H vs ds Q Qm ok vd hm q => by
  unfold gAbs at hm
  split at hm
  · rename_i i
    obtain ⟨v, rfl, h1⟩ := views1 vd
    rw [v_int h1]
    exact ⟨i, rfl, q (.f (.int (if i < 0 then -i else i))) _ G H ok (Ex.refl G) (r_int _) hm⟩
  · cases hm
def gInt : OpN := fun ds k => match ds with
  | [.int i] => k (.f (.int i))
  | [.bl b] => k (.f (.int (if b then 1 else 0)))
  | _ => False
theorem sc_int : SemC K (fun xs H Q => (∃ i, xs = [.int i] ∧ Q (.int i) H) ∨ ∃ k, xs = [.bl k] ∧ Q (.int (if k then 1 else 0)) H) gInt := fun Rs F env σ G H vs ds Q Qm ok vd hm q => by
  unfold gInt at hm
  split at hm
  · rename_i i
    obtain ⟨v, rfl, h1⟩ := views1 vd
    rw [v_int h1]
    exact .inl ⟨i, rfl, q (.f (.int i)) _ G H ok (Ex.refl G) (r_int _) hm⟩
  · rename_i b
    obtain ⟨v, rfl, h1⟩ := views1 vd
    rw [v_bl h1]
    exact .inr ⟨b, rfl, q (.f (.int (if b then 1 else 0))) _ G H ok (Ex.refl G) (r_int _) hm⟩
  · cases hm
def gDivmod : OpN := fun ds k => match ds with
  | [.int i, .int j] => req (CDiv i j) (k (.f (.tup [.int (i / j), .int (i % j)])))
  | _ => False
theorem sc_divmod : SemC K (fun xs H Q => ∃ i j, xs = [.int i, .int j] ∧ CDiv i j ∧ ∀ p, H p = none → Q (.ref p) (upd H p (.tup [.int (i / j), .int (i % j)]))) gDivmod := fun Rs F env σ G H vs ds Q Qm ok vd hm q => by
  unfold gDivmod at hm
  split at hm
  · rename_i i j
    obtain ⟨hc, hm⟩ := req_of hm
    obtain ⟨v, w', rfl, h1, h2⟩ := views2 vd
    rw [v_int h1, v_int h2]
    refine ⟨i, j, rfl, hc, fun p hp => ?_⟩
    obtain ⟨G2, x2, ok2, rr⟩ := ok.rtup (ds := [.int (i / j), .int (i % j)]) hp (Reps.cons (by rw [Rep]) (Reps.cons (by rw [Rep]) (reps_nil.mpr rfl)))
    exact q _ _ G2 _ ok2 x2 rr hm
  · cases hm
def gList : OpN := fun ds k => match ds with
  | [.lst xs] => k (.o xs)
  | [.tup xs] => k (.o xs)
  | _ => False
theorem sc_list : SemC K (fun xs H Q => ∃ p ys, xs = [.ref p] ∧ (SqL K H p ys ∨ SqT K H p ys) ∧ ∀ l, H l = none → Q (.ref l) (upd H l (.lst ys))) gList := fun Rs F env σ G H vs ds Q Qm ok vd hm q => by
  unfold gList at hm
  split at hm
  · rename_i xs
    obtain ⟨v, rfl, a, us, rfl, h1, h2⟩ := views1 vd
    refine ⟨a, us, rfl, .inl (.of h1), fun l hl => ?_⟩
    obtain ⟨ok2, rr⟩ := ok.rlst hl h2
    exact q _ _ G _ ok2 (Ex.refl G) rr hm
  · rename_i xs
    obtain ⟨v, rfl, h1⟩ := views1 vd
    obtain ⟨a, us, rfl, h1, h2⟩ := v_tup ok.sub h1
    refine ⟨a, us, rfl, .inr (.of h1), fun l hl => ?_⟩
    obtain ⟨ok2, rr⟩ := ok.rlst hl h2
    exact q _ _ G _ ok2 (Ex.refl G) rr hm
  · cases hm
def gTuple : OpN := fun ds k => match ds with
  | [.lst xs] => k (.f (.tup xs))
  | [.tup xs] => k (.f (.tup xs))
  | _ => False
theorem sc_tuple : SemC K (fun xs H Q => ∃ p ys, xs = [.ref p] ∧ ((SqL K H p ys ∧ ∀ l, H l = none → Q (.ref l) (upd H l (.tup ys))) ∨ (SqT K H p ys ∧ Q (.ref p) H))) gTuple := fun Rs F env σ G H vs ds Q Qm ok vd hm q => by
  unfold gTuple at hm
  split at hm
  · rename_i xs
    obtain ⟨v, rfl, a, us, rfl, h1, h2⟩ := views1 vd
    refine ⟨a, us, rfl, .inl ⟨.of h1, fun l hl => ?_⟩⟩
    obtain ⟨G2, x2, ok2, rr⟩ := ok.rtup hl h2
    exact q _ _ G2 _ ok2 x2 rr hm
  · rename_i xs
    obtain ⟨v, rfl, h1⟩ := views1 vd
    obtain ⟨a, us, rfl, h1, h2⟩ := v_tupG h1
    exact ⟨a, us, rfl, .inr ⟨.of (ok.sub _ _ h1), q (.f (.tup xs)) _ G H ok (Ex.refl G) (by show Rep _ _ _ _; rw [Rep]; exact ⟨a, us, rfl, h1, h2⟩) hm⟩⟩
  · cases hm
end
section
variable {X : Cx} {Rs : List Nat} {W : WX} {x : Str} {p pos : Pos} {e : Expr} {es : List Expr} {kws : List Keyword} {t tk : TA} {ma mk : MA}
theorem sem_maxD {K : PySem.W.Frag} (ha : SemA K Rs W t ma) (hk : SemA K Rs W tk mk) : SemE K Rs W (tCKw (rMaxD K) t tk) (mBD maxI ma mk) := fun F env σ G H Q Qm Em ok lk hm q =>
  ha F env σ G H _ _ Em ok lk hm fun as e1 vs G1 H1 ok1 x1 r1 m1 => hk F e1 σ G1 H1 _ _ Em ok1 lk m1 fun bs e2 ws G2 H2 ok2 x2 r2 m2 => by
    obtain ⟨ds, m3, v3⟩ := ok2.lookAll (k := fun ds => oneVal bs fun d => isL1 ds fun xs => defD maxI xs d fun z => Qm z e2) (r1.mono x2) m2
    match bs, m3, r2 with
    | [.val d], m3, ⟨z, zs, ez, rz, ezs⟩ =>
      have ezs : zs = [] := ezs
      subst ezs ez
      match ds, m3, v3 with
      | [.lst xs], m3, v3 =>
        obtain ⟨v, rfl, a, us, rfl, h1, h2⟩ := views1 v3
        have m3 : defD maxI xs d fun z => Qm z e2 := m3
        unfold defD at m3
        split at m3
        · rename_i i is ei
          have := ints_rep h2 ei
          subst this
          refine ⟨a, i :: is, z, rfl, rfl, .of h1, (fun y => by cases y), fun m k1 k2 => ?_⟩
          rw [maxI_is k1 k2]
          exact q (.f (.int (maxI i is))) e2 _ G2 H2 ok2 (x1.trans x2) (r_int _) m3
        · rename_i ei
          have := ints_rep h2 ei
          subst this
          exact ⟨a, [], z, rfl, rfl, .of h1, fun _ => q (.f d) e2 _ G2 H2 ok2 (x1.trans x2) rz m3, fun m k1 _ => by cases k1⟩
        · cases m3
theorem sem_minD {K : PySem.W.Frag} (ha : SemA K Rs W t ma) (hk : SemA K Rs W tk mk) : SemE K Rs W (tCKw (rMinD K) t tk) (mBD minI ma mk) := fun F env σ G H Q Qm Em ok lk hm q =>
  ha F env σ G H _ _ Em ok lk hm fun as e1 vs G1 H1 ok1 x1 r1 m1 => hk F e1 σ G1 H1 _ _ Em ok1 lk m1 fun bs e2 ws G2 H2 ok2 x2 r2 m2 => by
    obtain ⟨ds, m3, v3⟩ := ok2.lookAll (k := fun ds => oneVal bs fun d => isL1 ds fun xs => defD minI xs d fun z => Qm z e2) (r1.mono x2) m2
    match bs, m3, r2 with
    | [.val d], m3, ⟨z, zs, ez, rz, ezs⟩ =>
      have ezs : zs = [] := ezs
      subst ezs ez
      match ds, m3, v3 with
      | [.lst xs], m3, v3 =>
        obtain ⟨v, rfl, a, us, rfl, h1, h2⟩ := views1 v3
        have m3 : defD minI xs d fun z => Qm z e2 := m3
        unfold defD at m3
        split at m3
        · rename_i i is ei
          have := ints_rep h2 ei
          subst this
          refine ⟨a, i :: is, z, rfl, rfl, .of h1, (fun y => by cases y), fun m k1 k2 => ?_⟩
          rw [minI_is k1 k2]
          exact q (.f (.int (minI i is))) e2 _ G2 H2 ok2 (x1.trans x2) (r_int _) m3
        · rename_i ei
          have := ints_rep h2 ei
          subst this
          exact ⟨a, [], z, rfl, rfl, .of h1, fun _ => q (.f d) e2 _ G2 H2 ok2 (x1.trans x2) rz m3, fun m k1 _ => by cases k1⟩
        · cases m3
theorem de_maxD (hc : X.calm = true) (hg : Gl X "max") (hm : X.mg "max" = none) (ha : DA X Rs W (e :: es) t ma) (hk : DK X Rs W kws tk mk)
    (he : backTo pos (starEach (e :: es) X.env) = (false, eval e X.env) :: backTo pos (starEach es X.env) := by rfl) (hpl : (backTo pos (starEach (e :: es) X.env)).any (·.1) = false := by rfl)
    (hall : (backToKw pos (keywordEach kws X.env)).all (·.1.isSome) = true := by rfl) (hnone : (backToKw pos (keywordEach kws X.env)).any (·.1.isNone) = false := by rfl) (hks : (backToKw pos (keywordEach kws X.env)).filterMap (·.1) = [Str.ofString "default"] := by rfl) :
    DE X Rs W (.Call (.Name "max" p) (e :: es) kws pos) (tCKw (rMaxD X.K) t tk) (mBD maxI ma mk) := ⟨pe_callBK (cr_maxD hc) hg hm PyProof.Rows.boot_max ha.p hk.p (by decide) (by decide) he hpl hall hnone hks, sem_maxD ha.s hk.s⟩
theorem de_minD (hc : X.calm = true) (hg : Gl X "min") (hm : X.mg "min" = none) (ha : DA X Rs W (e :: es) t ma) (hk : DK X Rs W kws tk mk)
    (he : backTo pos (starEach (e :: es) X.env) = (false, eval e X.env) :: backTo pos (starEach es X.env) := by rfl) (hpl : (backTo pos (starEach (e :: es) X.env)).any (·.1) = false := by rfl)
    (hall : (backToKw pos (keywordEach kws X.env)).all (·.1.isSome) = true := by rfl) (hnone : (backToKw pos (keywordEach kws X.env)).any (·.1.isNone) = false := by rfl) (hks : (backToKw pos (keywordEach kws X.env)).filterMap (·.1) = [Str.ofString "default"] := by rfl) :
    DE X Rs W (.Call (.Name "min" p) (e :: es) kws pos) (tCKw (rMinD X.K) t tk) (mBD minI ma mk) := ⟨pe_callBK (cr_minD hc) hg hm PyProof.Rows.boot_min ha.p hk.p (by decide) (by decide) he hpl hall hnone hks, sem_minD ha.s hk.s⟩
end
end VL
/-! VL: tuple * int, whatever the int is. -/
namespace VL
open PySem PySem.Spec PyProof.Rows L2
theorem tuple_mul_same (l : Addr) (items : Array Value) (n : Nat) (dd : Option Addr) (sl : Array (Option Value)) (u : Tok) :
    Meets (Builtin.«tuple.__mul__» ⟨[.ref l, .int 1 u], []⟩) (fun _ R s => s.heap.get? l = some { cls := .type "tuple", dict := dd, data := .seq items n, slots := sl } ∧ R (.ok (.ret (Value.ref l))) s) :=
  .of_wp fun prog w A R s h => by
    obtain ⟨hp, g, d, tk, os⟩ := s
    obtain ⟨hl, h⟩ := h
    have f1 := AutoSeq1.idx_int
    wp_walk using wpAny_loadPart' hl
    exact ⟨_, rfl, h⟩
theorem tuple_mul_none (l : Addr) (items : Array Value) (n : Nat) (dd : Option Addr) (sl : Array (Option Value)) (x : Int) (u : Tok) (c0 : (decide (x < -(2 ^ 63)) || decide (x ≥ 2 ^ 63)) = false) (c1 : (items.isEmpty || x == 1) = false) (c2 : (decide (x ≤ 0) || items.isEmpty) = true) :
    Meets (Builtin.«tuple.__mul__» ⟨[.ref l, .int x u], []⟩) (fun _ R s => s.heap.get? l = some { cls := .type "tuple", dict := dd, data := .seq items n, slots := sl } ∧
      R (.ok (.ret (Value.ref s.heap.objs.size))) { s with heap := s.heap.push { cls := Value.type "tuple", data := Data.seq #[] }, toks := s.toks }) :=
  .of_wp fun prog w A R s h => by
    obtain ⟨hp, g, d, tk, os⟩ := s
    obtain ⟨hl, h⟩ := h
    have f1 := AutoSeq1.idx_int
    wp_walk using wpAny_loadPart' hl
    repeat (first
      | (refine wpAny_ite_false (decide_eq_false (by rw [c0]; exact Bool.false_ne_true)) ?_; wp_walk using wpAny_loadPart' hl)
      | (refine wpAny_ite_false (decide_eq_false (by rw [c1]; exact Bool.false_ne_true)) ?_; wp_walk using wpAny_loadPart' hl)
      | (refine wpAny_ite_true (decide_eq_true (by rw [c2])) ?_; wp_walk using wpAny_loadPart' hl))
    exact ⟨_, rfl, h⟩
/-- tuple * int -/
def rRepTX (K : PySem.W.Frag) : R2 := fun x y H Q => ∃ l k xs, x = .ref l ∧ y = .int k ∧ SqT K H l xs ∧ xs ≠ [] ∧ -1000 ≤ k ∧ k ≤ 1000 ∧ xs.length ≤ 1000 ∧ (k = 1 → Q (.ref l) H) ∧ (k ≠ 1 → ∀ p, H p = none → Q (.ref p) (upd H p (.tup (List.replicate k.toNat xs).flatten)))
theorem op_repTX {X : Cx} : OpR X (binaryOp .Mult) (rRepTX X.K) := by
  intro pins s σ H x y v u Q I rx ry h
  obtain ⟨l, k, xs, rfl, rfl, hT, hne, h1, h2, hz, q1, q2⟩ := h
  by_cases k2 : 2 ≤ k
  · exact op_repT pins s σ H _ _ v u Q I rx ry ⟨l, k, xs, rfl, rfl, hT, hne, k2, h2, hz, q2 (by omega)⟩
  cases rx
  obtain ⟨t, rfl⟩ := ry
  obtain ⟨its, r, ⟨⟨cls, dd, data, sl⟩, ho, hc, n, hd⟩, hs⟩ := I.tuple hT
  simp only at hc hd
  subst hc hd
  have hn : its ≠ [] := fun e => by
    have := r.length
    rw [e] at this
    exact hne (List.eq_nil_of_length_eq_zero this)
  have hi : its.toArray.isEmpty = false := by
    cases its with
    | nil => exact absurd rfl hn
    | cons a b => rfl
  by_cases k1 : k = 1
  · subst k1
    refine wpAny_binaryOp_repeat_ref (T := "tuple") (U := "int") (by decide) ⟨_, ho, rfl⟩ (fun s' => typeIs_int s' 1 t) noFill_tuple_mul F.fills_int_mul F.slot_int_rmul repeat_tuple F.slot_int_index.lookup
      (call_meets F.slot_int_rmul (typeIs_int s 1 t) F.entry_int_rmul (F.args_int_rmul_2 _ _) (int_rmul_tuple 1 t l its.toArray n dd sl)
        ⟨ho, rfl, ⟨_, ho, rfl⟩, call_meets F.slot_tuple_mul ⟨_, ho, rfl⟩ F.entry_tuple_mul (F.args_tuple_mul_2 _ _) (tuple_mul_same l its.toArray n dd sl t) ⟨ho, ?_⟩⟩)
    exact ⟨.ref l, H, I, rfl, q1 rfl⟩
  · have c0 : (decide (k < -(2 ^ 63)) || decide (k ≥ 2 ^ 63)) = false := by
      rw [decide_eq_false (by omega), decide_eq_false (by omega)] <;> rfl
    have c1 : (its.toArray.isEmpty || k == 1) = false := by
      rw [hi, Bool.false_or]
      exact beq_eq_false_iff_ne.mpr k1
    have c2 : (decide (k ≤ 0) || its.toArray.isEmpty) = true := by
      rw [decide_eq_true (by omega)]; rfl
    refine wpAny_binaryOp_repeat_ref (T := "tuple") (U := "int") (by decide) ⟨_, ho, rfl⟩ (fun s' => typeIs_int s' k t) noFill_tuple_mul F.fills_int_mul F.slot_int_rmul repeat_tuple F.slot_int_index.lookup
      (call_meets F.slot_int_rmul (typeIs_int s k t) F.entry_int_rmul (F.args_int_rmul_2 _ _) (int_rmul_tuple k t l its.toArray n dd sl)
        ⟨ho, rfl, ⟨_, ho, rfl⟩, call_meets F.slot_tuple_mul ⟨_, ho, rfl⟩ F.entry_tuple_mul (F.args_tuple_mul_2 _ _) (tuple_mul_none l its.toArray n dd sl k t c0 c1 c2) ⟨ho, ?_⟩⟩)
    have e0 : (List.replicate k.toNat xs).flatten = [] := by rw [show k.toNat = 0 by omega]; rfl
    have q2 := q2 k1
    rw [e0] at q2
    refine ⟨.ref s.heap.objs.size, _, I.laid (t' := s.toks) (o := .tup []) (fun b ob q => Heap.get?_push_of_some _ q) (Nat.le_refl _) ?_, rfl, q2 _ (I.hok.fresh (Nat.le_refl _))⟩
    exact ⟨Nat.zero_le _, [], .nil, IsTup.new _ _⟩
def gRepT : Op2 := fun d e k => match d, e with
  | .tup a, .int j => req (a.isEmpty = false ∧ -1000 ≤ j ∧ j ≤ 1000 ∧ a.length ≤ 1000) (k (.f (.tup (List.replicate j.toNat a).flatten)))
  | _, _ => False
theorem so_repT {K : PySem.W.Frag} : SemOp K (rRepTX K) gRepT := fun Rs F env σ G H x y d e Q Qm ok vd ve hm q => by
  unfold gRepT at hm
  split at hm
  · rename_i as j
    obtain ⟨⟨c0, c1, c2, c3⟩, hm⟩ := req_of hm
    obtain ⟨a, vs, rfl, h1, h2⟩ := v_tupG vd
    rw [v_int ve]
    have hv : vs ≠ [] := fun z => by
      have := h2.length
      rw [z] at this
      rw [List.eq_nil_of_length_eq_zero this.symm] at c0
      cases c0
    refine ⟨a, j, vs, rfl, rfl, .of (ok.sub _ _ h1), hv, c1, c2, by rw [h2.length]; exact c3, fun j1 => ?_, fun _ p hp => ?_⟩
    · subst j1
      have e1 : (List.replicate (1 : Int).toNat as).flatten = as := by simp
      rw [e1] at hm
      exact q (.f (.tup as)) _ G H ok (Ex.refl G) (by show Rep _ _ _ _; rw [Rep]; exact ⟨a, vs, rfl, h1, h2⟩) hm
    · obtain ⟨G2, x2, ok2, rr⟩ := ok.rtup hp (Reps.rep h2 j.toNat)
      exact q _ _ G2 _ ok2 x2 rr hm
  · cases hm
end VL
/-! VL: defs of the text by name. -/
namespace VL
open PySem PySem.Spec PyProof.Rows L2
theorem passB {X : Cx} : ∀ σ, PassesAt (L2.CX X.prog X.w) X σ (WE WN σ) := fun σ pins H s e s' I h => by
  obtain ⟨_, _, _, _, _, _, _, _, _, _, _, _, z⟩ := h
  exact z.elim
section
variable (P : Program) (w : World) (K : PySem.W.Frag) (mg : Str → Option Value) (base : Heap)
/-- a def stands under its name and keeps its promise -/
def Has (x : Str) (st : Stmt) (ps : List Str) (k : Nat) (Rc : List Nat) (mf : MF) : Prop :=
  ∃ a d, mg x = some (.ref a) ∧ Fun K x x st a d ∧ Binds K d ps [] ∧ FnOk P w K mg base (L2.CX P w) k a d ps (spOf K Rc ps.length mf)
/-- it stands under its name -/
def At (x : Str) (st : Stmt) : Prop := ∃ a d, mg x = some (.ref a) ∧ Fun K x x st a d
end
section
variable {P : Program} {w : World} {K : PySem.W.Frag} {mg : Str → Option Value} {base : Heap}
theorem at_mk {h : Heap} {x : Str} {st : Stmt} {f : Addr} {oc : Value} {od an : Option Addr} {osl : Array (Option Value)} {kV doc pm cdv ct : Value} (X : K.In h) (G : h.Ns mainGlobals mg) (a : PySem.W.nsIn K mainGlobals x = some (some (.ref f)))
    (l : K.lookup f = some ⟨oc, od, .func (PySem.W.fnOf x x (defArgs st) (defBody st) (defScope st) .none kV doc pm an cdv ct), osl⟩) (c : PySem.W.codeIn K cdv x = true) (k : PySem.W.keepIn K (.ref f) = true) : At K mg x st := ⟨f, _, PySem.W.mg_of X G a, fun_mk l c k⟩
theorem has_mk {x : Str} {st : Stmt} {N ps : List Str} {k : Nat} {Rs : List Nat} {ms : MS} (A0 : At K mg x st) (S : FnScope N ps (defScope st))
    (hb : ∀ (kV doc pm : Value) (an : Option Addr) (cdv ct : Value) (us : List Value), us.length = ps.length → bindArgs (PySem.W.fnOf x x (defArgs st) (defBody st) (defScope st) .none kV doc pm an cdv ct) ⟨us, []⟩ = pure (ps.zip us))
    (hbody : ∀ (f : Addr) (cdv : Value) (A : Around) (outer : List Env) (s : Shared) (H : Hp) (E : XK), Room k (A.deeper (envOfC x (defScope st) s.heap.objs.size f cdv)) →
      ∃ t, DSs (cxOf (L2.CX P w) P w K mg base N x (defScope st) f cdv A outer s H E) Rs (fun cls d _ H => E cls d H) (defBody st) t ms) : Has P w K mg base x st ps (k + 1) Rs (mBody N.length ps.length Rs ms) := by
  obtain ⟨a, d, g, F⟩ := A0
  exact ⟨a, d, g, F, F.binds hb, fn_ok F S (hbody a)⟩
theorem Has.mono {x : Str} {st : Stmt} {ps : List Str} {j k : Nat} {Rc : List Nat} {mf : MF} (h : Has P w K mg base x st ps j Rc mf) (e : j ≤ k) : Has P w K mg base x st ps k Rc mf := by
  obtain ⟨a, d, g, F, b, Fn⟩ := h
  exact ⟨a, d, g, F, b, Fn.mono e⟩
/-- keywords -/
def KOf (x : Str) (st : Stmt) (ps ks : List Str) (nu : Nat) (pm : List Nat) : Prop :=
  ∀ (kV doc pmv : Value) (an : Option Addr) (cdv ct : Value) (us ws : List Value), us.length = nu → ws.length = ks.length → (permL pm (us ++ ws)).length = ps.length ∧ bindArgs (PySem.W.fnOf x x (defArgs st) (defBody st) (defScope st) .none kV doc pmv an cdv ct) ⟨us, ks.zip ws⟩ = pure (ps.zip (permL pm (us ++ ws)))
theorem kb_of {x : Str} {st : Stmt} {f : Addr} {fd : FuncData} {ps ks : List Str} {nu : Nat} {pm : List Nat} (F : Fun K x x st f fd) (h : KOf x st ps ks nu pm) : KB K fd ps ks nu pm := fun s us ws _ hu hw => by
  obtain ⟨oc, od, kV, doc, pmv, an, cdv, ct, osl, rfl, lk, hcd⟩ := F.ex
  obtain ⟨h1, h2⟩ := h kV doc pmv an cdv ct us ws hu hw
  exact ⟨h1, .of_eq h2⟩
end
section
variable {X : Cx} {Rs : List Nat} {W : WX} {k : Nat} {ps : List Str} {mf : MF} {Rc : List Nat} {x : Str} {st : Stmt} {p pos : Pos} {e : Expr} {es : List Expr} {ma mk : MA} {ta tk : TA}
theorem de_callH (h : Has X.prog X.w X.K X.mg X.base x st ps k Rc mf) (hr : Room k X.A) (hg : Gl X x) (hx : ∀ σ, PassesAt (L2.CX X.prog X.w) X σ (WE W σ)) (ha : DA X Rs W (e :: es) ta ma)
    (hdb : (x == ("__debug__" : Str)) = false := by decide) (he : starEach (e :: es) X.env = (false, eval e X.env) :: starEach es X.env := by rfl) (hpl : (backTo pos (starEach es X.env)).any (·.1) = false := by rfl) :
    DE X Rs W (.Call (.Name x p) (e :: es) [] pos) (tCallS (spOf X.K Rc ps.length mf) (WE W) ta) (mCall mf Rc ps.length ma) := by
  obtain ⟨a, d, g, F, b, Fn⟩ := h
  exact de_call Fn hr hg g F.kp b hx ha hdb he hpl
theorem de_callKH0 {ks : List Str} {pm : List Nat} {kws : List Keyword} (h : Has X.prog X.w X.K X.mg X.base x st ps k Rc mf) (hr : Room k X.A) (hg : Gl X x) (hx : ∀ σ, PassesAt (L2.CX X.prog X.w) X σ (WE W σ)) (hb : KOf x st ps ks 0 pm) (hkw : DK X Rs W kws tk mk)
    (hall : (backToKw pos (keywordEach kws X.env)).all (·.1.isSome) = true := by rfl) (hks : (backToKw pos (keywordEach kws X.env)).filterMap (·.1) = ks := by rfl) (hdb : (x == ("__debug__" : Str)) = false := by decide)
    (hpl : ((backTo pos (starEach [] X.env)).any (·.1) || (backToKw pos (keywordEach kws X.env)).any (·.1.isNone)) = false := by rfl) :
    DE X Rs W (.Call (.Name x p) [] kws pos) (tCallKS (spOf X.K Rc ps.length mf) 0 ks.length pm (WE W) tNil tk) (mCallK mf Rc ps.length 0 ks.length pm aNil mk) := by
  obtain ⟨a, d, g, F, b, Fn⟩ := h
  exact de_callK0 Fn hr hg g F.kp (kb_of F hb) hx hkw hall hks hdb hpl
theorem de_callKH {ks : List Str} {nu : Nat} {pm : List Nat} {kws : List Keyword} (h : Has X.prog X.w X.K X.mg X.base x st ps k Rc mf) (hr : Room k X.A) (hg : Gl X x) (hx : ∀ σ, PassesAt (L2.CX X.prog X.w) X σ (WE W σ)) (hb : KOf x st ps ks nu pm) (ha : DA X Rs W (e :: es) ta ma) (hkw : DK X Rs W kws tk mk)
    (hall : (backToKw pos (keywordEach kws X.env)).all (·.1.isSome) = true := by rfl) (hks : (backToKw pos (keywordEach kws X.env)).filterMap (·.1) = ks := by rfl) (hdb : (x == ("__debug__" : Str)) = false := by decide)
    (he : starEach (e :: es) X.env = (false, eval e X.env) :: starEach es X.env := by rfl) (hpl : ((backTo pos (starEach (e :: es) X.env)).any (·.1) || (backToKw pos (keywordEach kws X.env)).any (·.1.isNone)) = false := by rfl) :
    DE X Rs W (.Call (.Name x p) (e :: es) kws pos) (tCallKS (spOf X.K Rc ps.length mf) nu ks.length pm (WE W) ta tk) (mCallK mf Rc ps.length nu ks.length pm ma mk) := by
  obtain ⟨a, d, g, F, b, Fn⟩ := h
  exact de_callK Fn hr hg g F.kp (kb_of F hb) hx ha hkw hall hks hdb he hpl
/-- a module's int -/
theorem de_constI {i : Int} (hg : Gl X x) (h : ∃ t, X.mg x = some (.int i t)) (hd : (x == ("__debug__" : Str)) = false := by decide) : DE X Rs W (.Name x pos) (tC (.int i)) (mC (.int i)) := by
  obtain ⟨t, h⟩ := h
  exact ⟨pe_glob hg h ⟨t, rfl⟩ hd, sem_c fun _ => by rw [Rep]⟩
/-- xs[::-1] of a list -/
def mRevS (ma : MO) : ME := fun env Q Em => ma env (fun x e1 => look e1 x fun d => match d with
  | .lst ds => Q (.o ds.reverse) e1
  | _ => False) Em
theorem de_revS {te : TE} {me : MO} {kk : Nat} {p1 p2 p3 : Pos} (he : DO X Rs W e te me) : DE X Rs W (.Subscript e (.Slice none none (some (.UnaryOp .USub (.Constant (.int 1) kk p1) p2)) p3) pos) (tRevL X.K te) (mRevS me) := by
  refine ⟨pe_revL he.p, fun F env σ G H Q Qm Em ok lk hm q => he.s F env σ G H _ _ Em ok lk hm fun x e1 v1 G1 H1 ok1 x1 r1 m1 => ?_⟩
  obtain ⟨d, m2, vd⟩ := ok1.look (k := fun d => match d with
    | .lst ds => Qm (.o ds.reverse) e1
    | _ => False) r1 m1
  cases d with
  | lst ds =>
    obtain ⟨a, vs, rfl, h1, h2⟩ := vd
    refine ⟨a, vs, rfl, .of h1, fun p hp => ?_⟩
    obtain ⟨ok2, rr⟩ := ok1.rlst hp (Reps.reverse h2)
    exact q _ e1 _ G1 _ ok2 x1 rr m2
  | _ => cases m2
/-- is True, is False of bools -/
def gIsB (neg : Bool) : Op2 := fun d e k => match d, e with
  | .bl a, .bl b => k (.f (.bl (if neg then !decide (a = b) else decide (a = b))))
  | _, _ => False
theorem so_isB {K : PySem.W.Frag} : SemOp K rIsB (gIsB false) := fun Rs F env σ G H x y d e Q Qm ok vd ve hm q => by
  unfold gIsB at hm
  split at hm
  · rename_i a b
    rw [v_bl vd, v_bl ve]
    exact ⟨a, b, rfl, rfl, q (.f (.bl (decide (a = b)))) _ G H ok (Ex.refl G) (r_bl _) hm⟩
  · cases hm
theorem so_notB {K : PySem.W.Frag} : SemOp K rNotB (gIsB true) := fun Rs F env σ G H x y d e Q Qm ok vd ve hm q => by
  unfold gIsB at hm
  split at hm
  · rename_i a b
    rw [v_bl vd, v_bl ve]
    exact ⟨a, b, rfl, rfl, q (.f (.bl (!decide (a = b)))) _ G H ok (Ex.refl G) (r_bl _) hm⟩
  · cases hm
end
end VL
/-! VL: built-in functions that ask a calm world. -/
namespace VL
open PySem PySem.Spec PyProof.Rows L2
section
variable {X : Cx} {Rs : List Nat} {W : WX} {x : Str} {p pos : Pos} {e : Expr} {es : List Expr} {t tk : TA} {ma mk : MA} {r : PySem.W.Frag → List V → Hp → VK → Prop} {g : OpN} {id T : String}
theorem de_zall (hcalm : X.calm = true) (hg : Gl X "all") (hm : X.mg "all" = none) (ha : DA X Rs W (e :: es) t ma)
    (he : starEach (e :: es) X.env = (false, eval e X.env) :: starEach es X.env := by rfl) (hpl : (backTo pos (starEach es X.env)).any (·.1) = false := by rfl) : DE X Rs W (.Call (.Name "all" p) (e :: es) [] pos) (tCB (rAll X.K) t) (mB gAllB ma) := de_b (cr_all hcalm) sc_all hg hm PyProof.Rows.boot_all ha (by decide) (by decide) he hpl
theorem de_zany (hcalm : X.calm = true) (hg : Gl X "any") (hm : X.mg "any" = none) (ha : DA X Rs W (e :: es) t ma)
    (he : starEach (e :: es) X.env = (false, eval e X.env) :: starEach es X.env := by rfl) (hpl : (backTo pos (starEach es X.env)).any (·.1) = false := by rfl) : DE X Rs W (.Call (.Name "any" p) (e :: es) [] pos) (tCB (rAny X.K) t) (mB gAny ma) := de_b (cr_any hcalm) sc_any hg hm PyProof.Rows.boot_any ha (by decide) (by decide) he hpl
theorem de_zsum (hcalm : X.calm = true) (hg : Gl X "sum") (hm : X.mg "sum" = none) (ha : DA X Rs W (e :: es) t ma)
    (he : starEach (e :: es) X.env = (false, eval e X.env) :: starEach es X.env := by rfl) (hpl : (backTo pos (starEach es X.env)).any (·.1) = false := by rfl) : DE X Rs W (.Call (.Name "sum" p) (e :: es) [] pos) (tCB (rSum X.K) t) (mB gSum ma) := de_b (cr_sum hcalm) sc_sum hg hm PyProof.Rows.boot_sum ha (by decide) (by decide) he hpl
theorem de_zmax (hcalm : X.calm = true) (hg : Gl X "max") (hm : X.mg "max" = none) (ha : DA X Rs W (e :: es) t ma)
    (he : starEach (e :: es) X.env = (false, eval e X.env) :: starEach es X.env := by rfl) (hpl : (backTo pos (starEach es X.env)).any (·.1) = false := by rfl) : DE X Rs W (.Call (.Name "max" p) (e :: es) [] pos) (tCB (rMaxX X.K) t) (mB gMax ma) := de_b (call_maxX hcalm) sc_max hg hm PyProof.Rows.boot_max ha (by decide) (by decide) he hpl
theorem de_zmin (hcalm : X.calm = true) (hg : Gl X "min") (hm : X.mg "min" = none) (ha : DA X Rs W (e :: es) t ma)
    (he : starEach (e :: es) X.env = (false, eval e X.env) :: starEach es X.env := by rfl) (hpl : (backTo pos (starEach es X.env)).any (·.1) = false := by rfl) : DE X Rs W (.Call (.Name "min" p) (e :: es) [] pos) (tCB (rMinX X.K) t) (mB gMin ma) := de_b (call_minX hcalm) sc_min hg hm PyProof.Rows.boot_min ha (by decide) (by decide) he hpl
end
section
variable {X : Cx} {Rs : List Nat} {W : WX} {a b c : Expr} {pos : Pos} {t_ha : TA}
theorem ds_par3 (i j l : Nat) {x y z : Str} {md : MD} {px py pz pt pt2 : Pos} {kt k2} (hc : X.calm = true) (hN : X.N.Nodup) (ha : DD X Rs W [a, b, c] t_ha md) (hR : ∀ q ∈ [i, j, l], q ∉ Rs := by decide) (hi : X.N[i]? = some x := by rfl) (hj : X.N[j]? = some y := by rfl) (hl : X.N[l]? = some z := by rfl) (hij : i ≠ j := by decide) (hil : i ≠ l := by decide) (hjl : j ≠ l := by decide)
    (hx : X.env.scope.names.lookup x = some .local := by rfl) (hy : X.env.scope.names.lookup y = some .local := by rfl) (hz : X.env.scope.names.lookup z = some .local := by rfl) (hw : swappedStores [.Tuple [.Name x px, .Name y py, .Name z pz] kt pt] (.Tuple [a, b, c] k2 pt2) X.env = pure (some [x, y, z]) := by rfl)
    (hs : swapsWithSole [.Tuple [.Name x px, .Name y py, .Name z pz] kt pt] (.Tuple [a, b, c] k2 pt2) pos.line X.env = pure false := by rfl) : DS X Rs W (.Assign [.Tuple [.Name x px, .Name y py, .Name z pz] kt pt] (.Tuple [a, b, c] k2 pt2) pos) (tPar3 i j l t_ha) (mPar [i, j, l] md) := by
  obtain ⟨a1, a2⟩ := ha
  refine ⟨ps_par3 hc hN hi hj hl hij hil hjl hx hy hz a1 hw hs, fun F env σ G H D M Em ok lk el hm => a2 F env σ G H _ _ Em ok lk hm fun rs e1 vs G1 H1 ok1 x1 rr mr => ?_⟩
  obtain ⟨e2, ok2, m2, hl⟩ := ok1.storeAll hR rr mr
  match vs, hl with
  | [v, w, u], _ => exact ⟨v, w, u, rfl, el.nx e2 _ G1 H1 ok2 x1 m2⟩
end
/-! ### a walk over a list or a tuple -/
def iSqT (K : PySem.W.Frag) (tl : TE) : TI := fun σ H R => tl σ H fun x H1 => (∃ a, x = .ref a ∧ (∃ xs, SqL K H1 a xs) ∧ R (Itl K a) H1) ∨ (∃ a, x = .ref a ∧ (∃ xs, SqT K H1 a xs) ∧ R (Itt K a) H1)
theorem pi_sq {X : Cx} {tg l : Expr} {tl : TE} (hl : PE X l tl) : PI X tg l (iSqT X.K tl) := by
  refine ⟨fun pins s σ H R I h => ?_⟩
  refine thn (hl.run pins s σ H _ I h) fun v s1 ⟨x, H1, I1, r1, q1⟩ => ?_
  rcases q1 with q1 | q1
  · obtain ⟨a, e, ⟨xs, hq⟩, q⟩ := q1
    subst e
    cases r1
    obtain ⟨its, rv, p, hz⟩ := I1.list hq
    refine wpAny_pyIter_list p.isList ?_
    refine ⟨s1.heap.objs.size, [s1.heap.objs.size], _, _, H1, rfl, I1.kept (t' := s1.toks) fun b o e => Heap.get?_push_of_some _ e, turn_list a _, ⟨_, Heap.get?_push_size _ rfl, rfl, rfl⟩, fun b hb => ?_, q⟩
    have e : b = s1.heap.objs.size := by simpa using hb
    subst e
    exact I1.fpOk (Nat.le_refl _) (I1.hok.fresh (Nat.le_refl _))
  · obtain ⟨a, e, ⟨xs, hq⟩, q⟩ := q1
    subst e
    cases r1
    obtain ⟨its, rv, p, hz⟩ := I1.tuple hq
    refine wpAny_pyIter_tuple (show s1.heap.IsTuple a its.toArray from p) ?_
    refine ⟨s1.heap.objs.size, [s1.heap.objs.size], _, _, H1, rfl, I1.kept (t' := s1.toks) fun b o e => Heap.get?_push_of_some _ e, turn_tuple a _, ⟨_, Heap.get?_push_size _ rfl, rfl, rfl⟩, fun b hb => ?_, q⟩
    have e : b = s1.heap.objs.size := by simpa using hb
    subst e
    exact I1.fpOk (Nat.le_refl _) (I1.hok.fresh (Nat.le_refl _))
theorem seq_lst {K : PySem.W.Frag} {G : Hp} {a : Addr} {vs : List V} {ds : List D} (h : SqL K G a vs) (r : Reps K G ds vs) : Seq K (Itl K a) G ds :=
  ⟨fun i H x hi => ⟨vs, vs[i]'(by rw [r.length]; exact hi), ex_l x h, List.getElem?_eq_getElem _⟩, fun i H x hi => ⟨vs, ex_l x h, by rw [r.length]; exact hi⟩, fun i x H H' q ⟨e, y⟩ d hd => by
    obtain ⟨v, e1, e2⟩ := r.get hd
    have := y vs (ex_l q h)
    rw [e1] at this; cases this
    exact .inl ⟨e, e2⟩⟩
def isSq (d : D) (k : List D → Prop) : Prop := match d.s with
  | .lst ds => k ds
  | .tup ds => k ds
  | .scr is => k (is.map D.int)
  | _ => False
def iSq (m : ME) : MI := fun env Q Em => m env (fun r e1 => fz r fun d => isSq d fun ds => Q ds e1) Em
theorem di_sq {X : Cx} {Rs : List Nat} {W : WX} {tg e : Expr} {t_h : TE} {m : ME} (h : DE X Rs W e t_h m) : DI X Rs W tg e (iSqT X.K t_h) (iSq m) := by
  obtain ⟨a1, a2⟩ := h
  refine ⟨pi_sq a1, fun F env σ G H R Qm Em ok lk hm q => a2 F env σ G H _ _ Em ok lk hm fun r e1 v G1 H1 ok1 x1 rr mr => ?_⟩
  obtain ⟨d, G2, md, x2, ok2, rd⟩ := ok1.freeze rr mr
  have rd := Rep.s rd
  unfold isSq at md
  split at md
  · rename_i ds w
    rw [w, Rep] at rd
    obtain ⟨p, vs, e2, h1, h2⟩ := rd
    exact .inl ⟨p, e2, ⟨vs, .of (ok2.sub _ _ h1)⟩, q ds _ _ G2 H1 ok2 (x1.trans x2) (seq_list h1 h2) md⟩
  · rename_i ds w
    rw [w, Rep] at rd
    obtain ⟨p, vs, e2, h1, h2⟩ := rd
    exact .inr ⟨p, e2, ⟨vs, .of (ok2.sub _ _ h1)⟩, q ds _ _ G2 H1 ok2 (x1.trans x2) (seq_tup (.of h1) h2) md⟩
  · rename_i is w
    rw [w, Rep] at rd
    obtain ⟨p, e2, h1⟩ := rd
    exact .inl ⟨p, e2, ⟨_, ex_l ok2.sub h1⟩, q _ _ _ G2 H1 ok2 (x1.trans x2) (seq_lst h1 (reps_ints.mpr rfl)) md⟩
  · cases md
/-! ### a call that only looks: the caller's own lists stay its own -/
mutual
def flat : D → Bool
  | .non => true
  | .bl _ => true
  | .int _ => true
  | .str _ => true
  | .val _ => true
  | .tup ds => flats ds
  | _ => false
def flats : List D → Bool
  | [] => true
  | d :: ds => flat d && flats ds
end
def flatR : DV → Bool
  | .f d => flat d
  | .o ds => flats ds
  | _ => false
mutual
theorem flat_rep {K : PySem.W.Frag} {G G' : Hp} (h : ∀ a xs, G a = some (.tup xs) → G' a = some (.tup xs)) : ∀ (d : D) (v : V), flat d = true → Rep K G d v → Rep K G' d v
  | .non, v, _, r => by rw [Rep] at r ⊢; exact r
  | .bl _, v, _, r => by rw [Rep] at r ⊢; exact r
  | .int _, v, _, r => by rw [Rep] at r ⊢; exact r
  | .str _, v, _, r => by rw [Rep] at r ⊢; exact r
  | .val _, v, _, r => by rw [Rep] at r ⊢; exact r
  | .tup ds, v, f, r => by
    rw [Rep] at r ⊢
    obtain ⟨a, vs, e, h1, h2⟩ := r
    exact ⟨a, vs, e, h a vs h1, flats_rep h ds vs (by rw [flat] at f; exact f) h2⟩
  | .lst _, _, f, _ => by simp [flat] at f
  | .dct _ _, _, f, _ => by simp [flat] at f
  | .ins _ _ _, _, f, _ => by simp [flat] at f
  | .tag _ _, _, f, _ => by simp [flat] at f
  | .scr _, _, f, _ => by simp [flat] at f
theorem flats_rep {K : PySem.W.Frag} {G G' : Hp} (h : ∀ a xs, G a = some (.tup xs) → G' a = some (.tup xs)) : ∀ (ds : List D) (vs : List V), flats ds = true → Reps K G ds vs → Reps K G' ds vs
  | [], vs, _, r => by rw [Reps] at r ⊢; exact r
  | d :: ds, vs, f, r => by
    rw [Reps] at r ⊢
    rw [flats, Bool.and_eq_true] at f
    obtain ⟨v, ws, e, h1, h2⟩ := r
    exact ⟨v, ws, e, flat_rep h d v f.1 h1, flats_rep h ds ws f.2 h2⟩
end
def dvB (env : En) : Arg → DV
  | .val d => .f d
  | .ref i => match env.getD i .u with
    | .f d => .f d
    | .o ds => .f (.lst ds)
    | .od ks ds => .f (.dct ks ds)
    | .u => .u
theorem dvB_own {env : En} (a : Arg) : (dvB env a).own = false := by
  cases a with
  | val d => rfl
  | ref i => unfold dvB; dsimp only; split <;> rfl
def callB (mf : MF) (n : Nat) (as : List Arg) (env : En) (Q : DV → En → Prop) (Em : EmT) : Prop :=
  as.length = n ∧ mf (as.map (dvB env)) (fun r _ => flatR r = true ∧ Q r env) (fun e _ => flats e.ds = true ∧ Em e env)
section
variable {K : PySem.W.Frag} {Rs : List Nat} {F : Fr} {env : En} {σ : L2.St} {G H : Hp}
open Classical in
theorem call_look {W : WX} {mf : MF} {as : List Arg} {vs : List V} {n : Nat} {Qm : DV → En → Prop} {Em : EmT} {Q : VK} (ok : Ok K Rs F env σ G H) (lk : Link K Rs F W Em) (r : ArgsRep K G σ as vs) (h : callB mf n as env Qm Em)
    (q : ∀ r env' v G' H', Ok K Rs F env' σ G' H' → Ex G G' → RRep K F env' σ G' H' r v → Qm r env' → Q v H') : spOf K [] n mf vs H Q (fun cls d H' => W cls d σ H') := by
  obtain ⟨hn, hm⟩ := h
  have hl := args_len r
  let P : Addr → Prop := fun a => G a = none ∧ ∃ i, OwnAt env σ i a
  let G1 : Hp := fun a => if P a then H a else G a
  have g1P : ∀ a, P a → G1 a = H a := fun a h => if_pos h
  have g1N : ∀ a, ¬ P a → G1 a = G a := fun a h => if_neg h
  have eG : Ex G G1 := fun a o h => by
    rw [g1N a (fun z => by rw [z.1] at h; cases h)]; exact h
  have sub1 : Ex G1 H := fun a o h => by
    by_cases z : P a
    · rw [g1P a z] at h; exact h
    · rw [g1N a z] at h; exact ok.sub a o h
  have ok0 : Ok K [] ⟨H, G1, []⟩ (as.map (dvB env)) (vs.map some) G1 H := by
    refine ⟨sub1, fun a o h _ => h, fun a o h => .inl h, Ex.refl _, rfl, fun i a h => (by cases h), fun i a h => (by cases h), by simp [hl], fun j dv x h1 h2 => ?_, fun i j p h1 _ => ?_⟩
    · rw [List.getElem?_map] at h1 h2
      cases ea : as[j]? with
      | none => rw [ea] at h1; cases h1
      | some a =>
        rw [ea] at h1; cases h1
        obtain ⟨v, ev, rv⟩ := args_get r ea
        rw [ev] at h2; cases h2
        cases a with
        | val d => exact ⟨v, rfl, Rep.mono eG d v rv⟩
        | ref i =>
          have rv : σ[i]? = some (some v) := rv
          unfold dvB
          dsimp only
          cases w : env.getD i .u with
          | u => trivial
          | f d =>
            obtain ⟨v', s1, s2⟩ := ok.slot w (by simp)
            rw [rv] at s1; cases s1
            obtain ⟨_, e2, e3⟩ := s2
            cases e2
            exact ⟨_, rfl, Rep.mono eG d _ e3⟩
          | o ds =>
            obtain ⟨v', s1, s2⟩ := ok.slot w (by simp)
            rw [rv] at s1; cases s1
            obtain ⟨p, us, e2, e3, _, e5, e6⟩ := s2
            cases e2
            refine ⟨_, rfl, ?_⟩
            rw [Rep]
            have hp : P p := ⟨e3, i, .o ds, getD_some w (by simp), rfl, rv⟩
            exact ⟨p, us, rfl, by rw [g1P p hp]; exact e5, Reps.mono eG ds us e6⟩
          | od ks ds =>
            obtain ⟨v', s1, s2⟩ := ok.slot w (by simp)
            rw [rv] at s1; cases s1
            obtain ⟨p, us, e2, e3, _, e5, e6, e7⟩ := s2
            cases e2
            refine ⟨_, rfl, ?_⟩
            rw [Rep]
            have hp : P p := ⟨e3, i, .od ks ds, getD_some w (by simp), rfl, rv⟩
            exact ⟨p, us, rfl, by rw [g1P p hp]; exact e5, e6, Reps.mono eG ds us e7⟩
    · obtain ⟨dv, z1, z2, _⟩ := h1
      rw [List.getElem?_map] at z1
      cases ea : as[i]? with
      | none => rw [ea] at z1; cases z1
      | some a => rw [ea] at z1; cases z1; rw [dvB_own a] at z2; cases z2
  -- behind the call
  have behind : ∀ {env' : En} {σ' : L2.St} {G' H' : Hp}, Ok K [] ⟨H, G1, []⟩ env' σ' G' H' → ∃ G2 : Hp, Ok K Rs F env σ G2 H' ∧ Ex G G2 ∧ Ex G2 G' ∧ ∀ a xs, G' a = some (.tup xs) → G2 a = some (.tup xs) := fun {env' σ' G' H'} ok' => by
    let G2 : Hp := fun a => if P a then none else G' a
    have g2P : ∀ a, P a → G2 a = none := fun a h => if_pos h
    have g2N : ∀ a, ¬ P a → G2 a = G' a := fun a h => if_neg h
    have e2 : Ex G2 G' := fun a o h => by
      by_cases z : P a
      · rw [g2P a z] at h; cases h
      · rw [g2N a z] at h; exact h
    have e0 : Ex G G2 := fun a o h => by
      rw [g2N a (fun z => by rw [z.1] at h; cases h)]
      exact ok'.g0 a o (eG a o h)
    have keep : ∀ a o, H a = some o → H' a = some o := fun a o h => ok'.fr a o h (by simp)
    refine ⟨G2, ⟨fun a o h => ok'.sub a o (e2 a o h), fun a o h hn => keep a o (ok.fr a o h hn), fun a o h => ?_, ok.g0.trans e0, ok.rs, fun i a h => ⟨(ok.rp i a h).1, ?_⟩, ok.rh, ok.len, fun i dv x h1 h2 => ?_, ok.dis⟩, e0, e2, fun a xs h => ?_⟩
    · by_cases z : P a
      · rw [g2P a z] at h; cases h
      · rw [g2N a z] at h
        rcases ok'.nw a o h with y | y
        · have y : G1 a = some o := y
          rw [g1N a z] at y
          exact ok.nw a o y
        · exact .inr (ok.fresh y)
    · obtain ⟨o, e⟩ := Option.ne_none_iff_exists'.mp (ok.rp i a h).2
      rw [keep a o e]; simp
    · refine (ok.var i dv x h1 h2).ext e0 fun p o hx ho hp => ⟨keep p o hp, ?_⟩
      have ow : OwnAt env σ i p := ⟨dv, h1, ho, by rw [h2, hx]⟩
      exact g2P p ⟨(ok.own ow).1, i, ow⟩
    · by_cases z : P a
      · exfalso
        obtain ⟨z1, i, dv, y1, y2, y3⟩ := id z
        have hv := ok.var i dv _ y1 y3
        have hG : ∀ o, H a = some o → G' a = some o := fun o e => ok'.g0 a o (by show G1 a = some o; rw [g1P a z]; exact e)
        cases dv with
        | u => cases y2
        | f d => cases y2
        | o ds =>
          obtain ⟨p, us, c1, _, _, c4, _⟩ := hv
          cases c1
          rw [hG _ c4] at h; cases h
        | od ks ds =>
          obtain ⟨p, us, c1, _, _, c4, _⟩ := hv
          cases c1
          rw [hG _ c4] at h; cases h
      · rw [g2N a z]; exact h
  refine ⟨hl.trans hn, as.map (dvB env), G1, [], _, _, ok0, hm, fun r env' σ' v G' H' ok' rr hq => ?_, fun e env' σ' G' H' cls d ok' er he => ?_⟩
  · obtain ⟨G2, okc, e0, e2, ht⟩ := behind ok'
    refine q r env v G2 H' okc e0 ?_ hq.2
    cases r with
    | u => exact rr
    | f d => exact flat_rep ht d v hq.1 rr
    | o ds =>
      obtain ⟨p, us, e1, a1, a2, a3, a4, a5⟩ := rr
      refine ⟨p, us, e1, ?_, ok.fresh a2, a3, flats_rep ht ds us hq.1 a4, fun i ow => ?_⟩
      · cases z : G2 p with
        | none => rfl
        | some o => rw [e2 p o z] at a1; cases a1
      · obtain ⟨_, _, o, z⟩ := ok.own ow
        rw [show (Fr.mk H G1 []).H0 = H from rfl, z] at a2; cases a2
    | od ks ds => cases hq.1
  · obtain ⟨G2, okc, e0, e2, ht⟩ := behind ok'
    refine lk e env σ G2 H' cls d okc ?_ he.2
    obtain ⟨c1, c2⟩ := er
    refine ⟨c1, ?_⟩
    rcases c2 with c2 | ⟨a, us, d1, d2, d3, d4⟩
    · exact .inl c2
    · exact .inr ⟨a, us, d1, d2, d3, flats_rep ht _ _ he.1 d4⟩
end
def mCallB (mf : MF) (n : Nat) (ma : MA) : ME := fun env Q Em => ma env (fun as e1 => callB mf n as e1 Q Em) Em
def mCallKB (mf : MF) (n nu nk : Nat) (pm : List Nat) (ma mk : MA) : ME := fun env Q Em => ma env (fun as e1 => mk e1 (fun bs e2 => (as.length = nu ∧ bs.length = nk) ∧ callB mf n (permL pm (as ++ bs)) e2 Q Em) Em) Em
theorem sem_callKB {K : PySem.W.Frag} {Rs : List Nat} {W : WX} {mf : MF} {n nu nk : Nat} {pm : List Nat} {ta tk : TA} {ma mk : MA} (h1 : SemA K Rs W ta ma) (h2 : SemA K Rs W tk mk) : SemE K Rs W (tCallKS (spOf K [] n mf) nu nk pm (WE W) ta tk) (mCallKB mf n nu nk pm ma mk) := fun F env σ G H Q Qm Em ok lk hm q =>
  h1 F env σ G H _ _ Em ok lk hm fun as e1 us G1 H1 ok1 x1 r1 m1 => h2 F e1 σ G1 H1 _ _ Em ok1 lk m1 fun bs e2 vs G2 H2 ok2 x2 r2 m2 =>
    ⟨(args_len r1).trans m2.1.1, (args_len r2).trans m2.1.2, call_look ok2 lk (permL_rep (args_append (r1.mono x2) r2) pm) m2.2 fun r env' v G' H' ok' x' rr hq => q r env' v G' H' ok' ((x1.trans x2).trans x') rr hq⟩
section
variable {X : Cx} {Rs : List Nat} {W : WX} {k : Nat} {ps : List Str} {mf : MF} {x : Str} {st : Stmt} {p pos : Pos} {e : Expr} {es : List Expr} {ma mk : MA} {ta tk : TA}
theorem de_callHB (h : Has X.prog X.w X.K X.mg X.base x st ps k [] mf) (hr : Room k X.A) (hg : Gl X x) (hx : ∀ σ, PassesAt (L2.CX X.prog X.w) X σ (WE W σ)) (ha : DA X Rs W (e :: es) ta ma)
    (hdb : (x == ("__debug__" : Str)) = false := by decide) (he : starEach (e :: es) X.env = (false, eval e X.env) :: starEach es X.env := by rfl) (hpl : (backTo pos (starEach es X.env)).any (·.1) = false := by rfl) :
    DE X Rs W (.Call (.Name x p) (e :: es) [] pos) (tCallS (spOf X.K [] ps.length mf) (WE W) ta) (mCallB mf ps.length ma) := by
  obtain ⟨a, d, g, F, b, Fn⟩ := h
  refine ⟨pe_callS Fn hr hg g F.kp b hx ha.p hdb he hpl, fun F env σ G H Q Qm Em ok lk hm q => ha.s F env σ G H _ _ Em ok lk hm fun as e1 vs G1 H1 ok1 x1 r1 m1 => ?_⟩
  exact call_look ok1 lk r1 m1 fun r env' v G' H' ok' x' rr hq => q r env' v G' H' ok' (x1.trans x') rr hq
theorem de_callKHB {ks : List Str} {nu : Nat} {pm : List Nat} {kws : List Keyword} (h : Has X.prog X.w X.K X.mg X.base x st ps k [] mf) (hr : Room k X.A) (hg : Gl X x) (hx : ∀ σ, PassesAt (L2.CX X.prog X.w) X σ (WE W σ)) (hb : KOf x st ps ks nu pm) (ha : DA X Rs W (e :: es) ta ma) (hkw : DK X Rs W kws tk mk)
    (hall : (backToKw pos (keywordEach kws X.env)).all (·.1.isSome) = true := by rfl) (hks : (backToKw pos (keywordEach kws X.env)).filterMap (·.1) = ks := by rfl) (hdb : (x == ("__debug__" : Str)) = false := by decide)
    (he : starEach (e :: es) X.env = (false, eval e X.env) :: starEach es X.env := by rfl) (hpl : ((backTo pos (starEach (e :: es) X.env)).any (·.1) || (backToKw pos (keywordEach kws X.env)).any (·.1.isNone)) = false := by rfl) :
    DE X Rs W (.Call (.Name x p) (e :: es) kws pos) (tCallKS (spOf X.K [] ps.length mf) nu ks.length pm (WE W) ta tk) (mCallKB mf ps.length nu ks.length pm ma mk) := by
  have h' := h
  obtain ⟨a, d, g, F, b, Fn⟩ := h'
  exact ⟨(de_callKH (Rs := Rs) h hr hg hx hb ha hkw hall hks hdb he hpl).p, sem_callKB ha.s hkw.s⟩
theorem de_callKHB0 {ks : List Str} {pm : List Nat} {kws : List Keyword} (h : Has X.prog X.w X.K X.mg X.base x st ps k [] mf) (hr : Room k X.A) (hg : Gl X x) (hx : ∀ σ, PassesAt (L2.CX X.prog X.w) X σ (WE W σ)) (hb : KOf x st ps ks 0 pm) (hkw : DK X Rs W kws tk mk)
    (hall : (backToKw pos (keywordEach kws X.env)).all (·.1.isSome) = true := by rfl) (hks : (backToKw pos (keywordEach kws X.env)).filterMap (·.1) = ks := by rfl) (hdb : (x == ("__debug__" : Str)) = false := by decide)
    (hpl : ((backTo pos (starEach [] X.env)).any (·.1) || (backToKw pos (keywordEach kws X.env)).any (·.1.isNone)) = false := by rfl) :
    DE X Rs W (.Call (.Name x p) [] kws pos) (tCallKS (spOf X.K [] ps.length mf) 0 ks.length pm (WE W) tNil tk) (mCallKB mf ps.length 0 ks.length pm aNil mk) :=
  ⟨(de_callKH0 (Rs := Rs) h hr hg hx hb hkw hall hks hdb hpl).p, sem_callKB da_nil.s hkw.s⟩
end
/-! ### in, not in a list or tuple of plain values; x.extend(e) -/
def plainV : D → Option V
  | .non => some .non
  | .bl b => some (.bl b)
  | .int i => some (.int i)
  | .str x => some (.str x)
  | _ => none
def plainVs : List D → Option (List V)
  | [] => some []
  | d :: ds => match plainV d, plainVs ds with
    | some v, some vs => some (v :: vs)
    | _, _ => none
theorem plain_rep {K : PySem.W.Frag} {G : Hp} {d : D} {v w : V} (h : Rep K G d v) (e : plainV d = some w) : v = w ∧ flatV w = true := by
  cases d <;> cases e <;> rw [Rep] at h <;> exact ⟨h, rfl⟩
theorem plain_view {K : PySem.W.Frag} {G H : Hp} {d : D} {v w : V} (h : View K G H d v) (e : plainV d = some w) : v = w ∧ flatV w = true := by
  cases d with
  | lst _ => cases e
  | dct _ _ => cases e
  | _ => exact plain_rep h e
theorem plains_rep {K : PySem.W.Frag} {G : Hp} : ∀ {ds : List D} {vs ws : List V}, Reps K G ds vs → plainVs ds = some ws → vs = ws ∧ ws.all flatV = true
  | [], vs, ws, h, e => by cases e; exact ⟨reps_nil.mp h, rfl⟩
  | d :: ds, vs, ws, h, e => by
    obtain ⟨v, us, rfl, h1, h2⟩ := reps_cons.mp h
    unfold plainVs at e
    split at e
    · rename_i a b e1 e2
      cases e
      obtain ⟨rfl, f1⟩ := plain_rep h1 e1
      obtain ⟨rfl, f2⟩ := plains_rep h2 e2
      exact ⟨rfl, by rw [List.all_cons, f1, f2]; rfl⟩
    · cases e
def gIn (neg : Bool) : Op2 := fun d e k => match plainV d, e with
  | some v, .lst ds => (match plainVs ds with | some vs => k (.f (.bl (if neg then !inV v vs else inV v vs))) | none => False)
  | some v, .tup ds => (match plainVs ds with | some vs => k (.f (.bl (if neg then !inV v vs else inV v vs))) | none => False)
  | _, _ => False
theorem so_in {K : PySem.W.Frag} {neg : Bool} : SemOp K (rIn K neg) (gIn neg) := fun Rs F env σ G H x y d e Q Qm ok vd ve hm q => by
  unfold gIn at hm
  split at hm
  · rename_i v ds e1
    split at hm
    · rename_i vs e2
      obtain ⟨a, us, rfl, h1, h2⟩ := ve
      obtain ⟨rfl, f1⟩ := plain_view vd e1
      obtain ⟨rfl, f2⟩ := plains_rep h2 e2
      exact ⟨a, us, rfl, .inl (.of h1), f1, f2, q (.f (.bl (if neg then !inV x us else inV x us))) _ G H ok (Ex.refl G) (r_bl _) hm⟩
    · cases hm
  · rename_i v ds e1
    split at hm
    · rename_i vs e2
      obtain ⟨a, us, rfl, h1, h2⟩ := v_tup ok.sub ve
      obtain ⟨rfl, f1⟩ := plain_view vd e1
      obtain ⟨rfl, f2⟩ := plains_rep h2 e2
      exact ⟨a, us, rfl, .inr (.of h1), f1, f2, q (.f (.bl (if neg then !inV x us else inV x us))) _ G H ok (Ex.refl G) (r_bl _) hm⟩
    · cases hm
  · cases hm
def mExt (i : Nat) (ma : MO) : MS := fun M Em env => isO (env.getD i .u) fun _ => ma env (fun x e1 => isVal x fun d => isLst d fun es => isO (e1.getD i .u) fun ds => ds.length + es.length ≤ sizeLine ∧ M.nx (e1.set i (.o (ds ++ es)))) Em
theorem sem_ext {K : PySem.W.Frag} {Rs : List Nat} {W : WX} {i : Nat} {t : TE} {ma : MO} (h : SemO K Rs W t ma) : SemS K Rs W (tDrop (tBM K "list" rExtend (tVar i) (tCons t tNil))) (mExt i ma) := fun F env σ G H D M Em ok lk el hm => by
  obtain ⟨ds0, e0, hm⟩ := isO_of hm
  obtain ⟨p0, vs0, s0, _, _, _, h0, _⟩ := own_slot ok e0
  refine ⟨.ref p0, s0, .inl ⟨rfl, vs0, .of h0⟩, ?_⟩
  refine h F env σ G H _ _ Em ok lk hm fun x e1 v G1 H1 ok1 x1 r1 m1 => ?_
  cases x with
  | ref j => cases m1
  | val d =>
    obtain ⟨es, b, zs, m1, rfl, hb1, hb2⟩ := isLst_rep r1 m1
    obtain ⟨ds, e2, hz, m2⟩ := isO_of m1
    obtain ⟨p, vs, s1, ow, a1, a2, a3, a4⟩ := own_slot ok1 e2
    rw [s0] at s1; cases s1
    refine ⟨p0, b, vs, zs, rfl, rfl, a3, ok1.sub _ _ hb1, by rw [a4.length, hb2.length]; exact hz, ?_⟩
    refine el.nx _ σ G1 _ (ok1.updO (dv := .o (ds ++ es)) ow ⟨p0, vs ++ zs, rfl, a1, a2, upd_same, Reps.append a4 hb2⟩ rfl) x1 m2
theorem ds_extend {X : Cx} {Rs : List Nat} {W : WX} {e : Expr} {t_ha : TE} {pos : Pos} (i : Nat) {x : Str} {ma : MO} {pn pa pc : Pos} (ha : DO X Rs W e t_ha ma) (hN : X.N[i]? = some x := by rfl) (hv : Vis X.env.scope x := by first | exact Or.inl rfl | exact Or.inr (Or.inl rfl) | exact Or.inr (Or.inr rfl))
    (hd : (x == ("__debug__" : Str)) = false := by decide) (hcd : (x == ("__classdict__" : Str)) = false := by decide)
    (hfew : ((backTo pc (starEach [e] X.env)).all (fun x => !x.1) && (backToKw pc (keywordEach [] X.env)).all (fun x => x.1.isSome) && decide ([e].length + ([] : List Keyword).length + (if ([] : List Keyword).isEmpty then 0 else 1) < 30)) = true := by rfl)
    (hline : (pa.endLine == pc.line) = true := by rfl) (hs : starEach [e] X.env = [(false, eval e X.env)] := by rfl) (hsw : swapsWith (.Call (.Attribute (.Name x pn) "extend" pa) [e] [] pc) none pos.line X.env = pure false := by rfl) :
    DS X Rs W (.Expr (.Call (.Attribute (.Name x pn) "extend" pa) [e] [] pc) pos) (tDrop (tBM X.K "list" rExtend (tVar i) (tCons t_ha tNil))) (mExt i ma) :=
  ⟨ps_expr (pe_bm PySem.F.plainAttrs_list PySem.F.slot_list_extend PySem.F.type_list_extend mt_extend (pe_var hN hv hd hcd) (pa_cons ha.p pa_nil hs) rfl hfew hline hs rfl) hsw, sem_ext ha.s⟩
/-! ### comprehensions with two fors -/
def lc2In (vs1 : List Nat) (mg1 : MG) (mt1 : MT) (me : ME) (K : List D → En → Prop) : List D → List D → En → Prop
  | [], acc, env => K acc env
  | d :: ds, acc, env => mg1 d (wipeE env vs1) fun e1 => mt1 e1 (fun b e2 => if b = true then me e2 (fun r e3 => fz r fun x => acc.length < sizeLine ∧ lc2In vs1 mg1 mt1 me K ds (acc ++ [x]) (back env vs1 e3)) EmN
      else lc2In vs1 mg1 mt1 me K ds acc (back env vs1 e2)) EmN
def lc2Go (vs vs1 : List Nat) (mg : MG) (mt : MT) (mi1 : MI) (mg1 : MG) (mt1 : MT) (me : ME) (Q : DV → En → Prop) : List D → List D → En → Prop
  | [], acc, env => Q (.o acc) env
  | d :: ds, acc, env => mg d (wipeE env vs) fun e1 => mt e1 (fun b e2 => if b = true then mi1 e2 (fun items e3 => lc2In vs1 mg1 mt1 me (fun acc' e4 => lc2Go vs vs1 mg mt mi1 mg1 mt1 me Q ds acc' (back env vs e4)) items acc e3) EmN
      else lc2Go vs vs1 mg mt mi1 mg1 mt1 me Q ds acc (back env vs e2)) EmN
def mLc2 (vs vs1 : List Nat) (mi : MI) (mg : MG) (mt : MT) (mi1 : MI) (mg1 : MG) (mt1 : MT) (me : ME) : ME := fun env Q Em => mi env (fun items e1 => lc2Go vs vs1 mg mt mi1 mg1 mt1 me Q items [] e1) Em
theorem own_back {env env2 : En} {σ σ2 : L2.St} {vs : List Nat} (l2 : σ2.length = env2.length) (hs : ∀ i, i ∉ vs → σ2[i]? = σ[i]?) : ∀ j p, OwnAt (back env vs env2) σ j p → OwnAt env2 σ2 j p := fun j p ⟨dv, z1, z2, z3⟩ => by
  rw [back_get] at z1
  by_cases c : j ∈ vs ∧ j < env2.length
  · rw [if_pos c] at z1; cases z1
    cases q : env.getD j .u <;> rw [q] at z2 <;> cases z2
  · rw [if_neg c] at z1
    have hj : j ∉ vs := fun z => c ⟨z, (List.getElem?_eq_some_iff.mp z1).1⟩
    exact ⟨dv, z1, z2, by rw [hs j hj]; exact z3⟩
section
variable {K : PySem.W.Frag} {Rs : List Nat} {W : WX} {mi mi1 : MI} {mg mg1 : MG} {mt mt1 : MT} {me : ME} {gs gs1 vs vs1 : List Nat}
theorem sem_lc2 {ti ti1 : TI} {g g1 : TG} {tt tt1 : TT} {te : TE} (hR : ∀ i ∈ vs, i ∉ Rs) (hgs : ∀ i ∈ gs, i ∈ vs) (hR1 : ∀ i ∈ vs1, i ∉ Rs) (hgs1 : ∀ i ∈ gs1, i ∈ vs1) (h1 : SemI K Rs W ti mi) (h2 : SemG K Rs g mg gs) (h3 : SemT K Rs WN tt mt)
    (h5 : SemI K Rs WN ti1 mi1) (h6 : SemG K Rs g1 mg1 gs1) (h7 : SemT K Rs WN tt1 mt1) (h4 : SemE K Rs WN te me) : SemE K Rs W (tLc2 ti g tt ti1 g1 tt1 te vs vs1) (mLc2 vs vs1 mi mg mt mi1 mg1 mt1 me) := fun F env σ G H Q Qm Em ok lk hm q =>
  h1 F env σ G H _ _ Em ok lk hm fun items e1 J G1 H1 ok1 x1 sq m1 => fun Dl hD => by
    have hg0 := ok1.gnone hD
    have hF0 := ok1.fresh hD
    refine ⟨fun i m H' => ∃ env' G' acc us, Ok K Rs F env' σ G' H' ∧ Ex G1 G' ∧ i ≤ items.length ∧ m = items.length - i ∧ H' Dl = some (.lst us) ∧ G' Dl = none ∧ Reps K G' acc us ∧ (∀ j, ¬ OwnAt env' σ j Dl) ∧ lc2Go vs vs1 mg mt mi1 mg1 mt1 me Qm (items.drop i) acc env',
      ⟨items.length, e1, G1, [], [], ok1.newO hD, Ex.refl _, Nat.zero_le _, rfl, upd_same, hg0, reps_nil.mpr rfl, ok1.notOwn hD, m1⟩, fun i m H' hW => ?_⟩
    obtain ⟨env', G', acc, us, ok', x', hi, rfl, hDl, hGl, hacc, hnot, hl⟩ := hW
    by_cases hlt : i < items.length
    · refine .inr ⟨sq.go i H' (x'.trans ok'.sub) hlt, fun H2 => ∃ env2 G2 acc2 us2, Ok K Rs F env2 σ G2 H2 ∧ Ex G1 G2 ∧ H2 Dl = some (.lst us2) ∧ G2 Dl = none ∧ Reps K G2 acc2 us2 ∧ (∀ j, ¬ OwnAt env2 σ j Dl) ∧ lc2Go vs vs1 mg mt mi1 mg1 mt1 me Qm (items.drop (i + 1)) acc2 env2,
        fun H2 ⟨env2, G2, acc2, us2, a1, a2, a3, a4, a5, a6, a7⟩ => ⟨items.length - (i + 1), by omega, env2, G2, acc2, us2, a1, a2, by omega, rfl, a3, a4, a5, a6, a7⟩, fun x H2 hy => ?_⟩
      rw [List.drop_eq_getElem_cons hlt] at hl
      have okN := ok'.toNow
      obtain ⟨G2, x2, ok2, rd⟩ := sq.turn x' okN (List.getElem?_eq_getElem hlt) hy
      have fin : ∀ {env5 : En} {σ5 : L2.St} {G5 H5 : Hp}, Ok K Rs (F.now env' σ G' H') env5 σ5 G5 H5 → Ex G2 G5 → σ5.length = σ.length → (∀ j, j ∉ vs → σ5[j]? = σ[j]?) →
          Ok K Rs F (back env' vs env5) σ G5 H5 ∧ H5 Dl = some (.lst us) ∧ G5 Dl = none ∧ ∀ j, ¬ OwnAt (back env' vs env5) σ j Dl := fun {env5 σ5 G5 H5} ok5 x5 l5 s5 => by
        have okB := Ok.unwiped (vs := vs) okN ok5 (x2.trans x5) hR l5 s5
        obtain ⟨p1, p2, p3⟩ := ok'.pend hDl hGl hF0 hnot okB
        exact ⟨ok'.ofNow okB, p1, p2, p3⟩
      have okw := ok2.wiped hR
      refine h2 _ _ _ G2 H2 _ x _ _ okw rd hl fun env3 σ3 ok3 l3 s3 m3 => ?_
      obtain ⟨w1, w2, w3⟩ := wipe_of (vs := vs) (σ := σ) l3 fun j hj => s3 j fun z => hj (hgs j z)
      refine ⟨w1, h3 _ env3 σ3 G2 H2 _ _ EmN ok3 linkN m3 fun b env4 G4 H4 ok4 x4 m4 => ?_⟩
      cases b with
      | false =>
        obtain ⟨a1, a2, a3, a4⟩ := fin ok4 x4 w2 w3
        exact ⟨_, G4, acc, us, a1, (x'.trans x2).trans x4, a2, a3, Reps.mono (x2.trans x4) acc us hacc, a4, m4⟩
      | true =>
        refine h5 _ env4 σ3 G4 H4 _ _ EmN ok4 linkN m4 fun items1 env5 J1 G5 H5 ok5 x5 sq1 m5 => ?_
        -- the walk inside, in the def's own frame
        obtain ⟨p1, p2, p3⟩ := ok'.pend hDl hGl hF0 hnot ok5
        have okF := ok'.ofNow ok5
        refine ⟨fun j k H6 => ∃ env6 G6 acc6 us6, Ok K Rs F env6 σ3 G6 H6 ∧ Ex G5 G6 ∧ j ≤ items1.length ∧ k = items1.length - j ∧ H6 Dl = some (.lst us6) ∧ G6 Dl = none ∧ Reps K G6 acc6 us6 ∧ (∀ j, ¬ OwnAt env6 σ3 j Dl) ∧
            lc2In vs1 mg1 mt1 me (fun acc' e4 => lc2Go vs vs1 mg mt mi1 mg1 mt1 me Qm (items.drop (i + 1)) acc' (back env' vs e4)) (items1.drop j) acc6 env6,
          ⟨items1.length, env5, G5, acc, us, okF, Ex.refl _, Nat.zero_le _, rfl, p1, p2, Reps.mono ((x2.trans x4).trans x5) acc us hacc, p3, m5⟩, fun j k H6 hW1 => ?_⟩
        obtain ⟨env6, G6, acc6, us6, ok6, x6, hj, rfl, hD6, hG6, hacc6, hnot6, hl6⟩ := hW1
        by_cases hlt1 : j < items1.length
        · refine .inr ⟨sq1.go j H6 (x6.trans ok6.sub) hlt1, fun H7 => ∃ env7 G7 acc7 us7, Ok K Rs F env7 σ3 G7 H7 ∧ Ex G5 G7 ∧ H7 Dl = some (.lst us7) ∧ G7 Dl = none ∧ Reps K G7 acc7 us7 ∧ (∀ j, ¬ OwnAt env7 σ3 j Dl) ∧
              lc2In vs1 mg1 mt1 me (fun acc' e4 => lc2Go vs vs1 mg mt mi1 mg1 mt1 me Qm (items.drop (i + 1)) acc' (back env' vs e4)) (items1.drop (j + 1)) acc7 env7,
            fun H7 ⟨env7, G7, acc7, us7, a1, a2, a3, a4, a5, a6, a7⟩ => ⟨items1.length - (j + 1), by omega, env7, G7, acc7, us7, a1, a2, by omega, rfl, a3, a4, a5, a6, a7⟩, fun y H7 hy1 => ?_⟩
          rw [List.drop_eq_getElem_cons hlt1] at hl6
          have okN6 := ok6.toNow
          obtain ⟨G7, x7, ok7, rd7⟩ := sq1.turn x6 okN6 (List.getElem?_eq_getElem hlt1) hy1
          have fin1 : ∀ {env8 : En} {σ8 : L2.St} {G8 H8 : Hp}, Ok K Rs (F.now env6 σ3 G6 H6) env8 σ8 G8 H8 → Ex G7 G8 → σ8.length = σ3.length → (∀ j, j ∉ vs1 → σ8[j]? = σ3[j]?) →
              Ok K Rs F (back env6 vs1 env8) σ3 G8 H8 ∧ H8 Dl = some (.lst us6) ∧ G8 Dl = none ∧ ∀ j, ¬ OwnAt (back env6 vs1 env8) σ3 j Dl := fun {env8 σ8 G8 H8} ok8 x8 l8 s8 => by
            have okB := Ok.unwiped (vs := vs1) okN6 ok8 (x7.trans x8) hR1 l8 s8
            obtain ⟨p1, p2, p3⟩ := ok6.pend hD6 hG6 hF0 hnot6 okB
            exact ⟨ok6.ofNow okB, p1, p2, p3⟩
          have okw7 := ok7.wiped hR1
          refine h6 _ _ _ G7 H7 _ y _ _ okw7 rd7 hl6 fun env8 σ8 ok8 l8 s8 m8 => ?_
          obtain ⟨w4, w5, w6⟩ := wipe_of (vs := vs1) (σ := σ3) l8 fun j hj => s8 j fun z => hj (hgs1 j z)
          refine ⟨w4, h7 _ env8 σ8 G7 H7 _ _ EmN ok8 linkN m8 fun b env9 G9 H9 ok9 x9 m9 => ?_⟩
          cases b with
          | false =>
            obtain ⟨a1, a2, a3, a4⟩ := fin1 ok9 x9 w5 w6
            exact ⟨_, G9, acc6, us6, a1, (x6.trans x7).trans x9, a2, a3, Reps.mono (x7.trans x9) acc6 us6 hacc6, a4, m9⟩
          | true =>
            refine h4 _ env9 σ8 G9 H9 _ _ EmN ok9 linkN m9 fun r envA v GA HA okA xA rr mA => ?_
            obtain ⟨d, GB, ⟨hz, mB⟩, xB, okB, rdB⟩ := okA.freeze rr mA
            obtain ⟨a1, a2, a3, a4⟩ := fin1 okB ((x9.trans xA).trans xB) w5 w6
            refine ⟨us6, a2, by rw [hacc6.length]; exact hz, _, GB, acc6 ++ [d], us6 ++ [v], ?_, (((x6.trans x7).trans x9).trans xA).trans xB, upd_same, a3, Reps.append (Reps.mono ((((x7.trans x9).trans xA).trans xB)) acc6 us6 hacc6) (Reps.cons rdB (reps_nil.mpr rfl)), a4, mB⟩
            exact a1.updP a3 hF0 a4
        · have ej : j = items1.length := by omega
          subst ej
          rw [List.drop_length] at hl6
          have xx : Ex G' G6 := ((x2.trans x4).trans x5).trans x6
          refine .inl ⟨sq1.stop _ H6 (x6.trans ok6.sub) (Nat.le_refl _), _, G6, acc6, us6, Ok.unwiped (vs := vs) ok' ok6 xx hR w2 w3, x'.trans xx, hD6, hG6, hacc6, fun j ow => hnot6 j (own_back ok6.len w3 j Dl ow), hl6⟩
    · have ei : i = items.length := by omega
      subst ei
      rw [List.drop_length] at hl
      refine .inl ⟨sq.stop _ H' (x'.trans ok'.sub) (Nat.le_refl _), q (.o acc) env' _ G' H' ok' (x1.trans x') ⟨Dl, us, rfl, hGl, hF0, hDl, hacc, hnot⟩ hl⟩
end
/-! ### *xs in a display; sorted(xs) of ints -/
def isLT (d : D) (k : List D → Prop) : Prop := match d.s with
  | .lst ds => k ds
  | .tup ds => k ds
  | _ => False
def aStar (m : ME) (mr : MA) : MA := fun env Q Em => m env (fun r e1 => fz r fun d => isLT d fun ds => mr e1 (fun xs e2 => Q (ds.map Arg.val ++ xs) e2) Em) Em
theorem args_vals {K : PySem.W.Frag} {G : Hp} {σ : L2.St} : ∀ {ds : List D} {vs : List V}, Reps K G ds vs → ArgsRep K G σ (ds.map Arg.val) vs
  | [], _, h => reps_nil.mp h
  | d :: ds, _, h => by
    obtain ⟨v, ws, rfl, h1, h2⟩ := reps_cons.mp h
    exact ⟨v, ws, rfl, h1, args_vals h2⟩
theorem da_star {X : Cx} {Rs : List Nat} {W : WX} {e : Expr} {es : List Expr} {p : Pos} {t_he : TE} {t_hr : TA} {m : ME} {mr : MA} (he : DE X Rs W e t_he m) (hr : DA X Rs W es t_hr mr) (hs : starEach (.Starred e p :: es) X.env = (true, eval e X.env) :: starEach es X.env := by rfl) : DA X Rs W (.Starred e p :: es) (StX.tStar X.K t_he t_hr) (aStar m mr) := by
  refine ⟨StX.pa_star he.p hr.p hs, fun F env σ G H Q Qm Em ok lk hm q => he.s F env σ G H _ _ Em ok lk hm fun r e1 v G1 H1 ok1 x1 rr mz => ?_⟩
  obtain ⟨d, G2, md, x2, ok2, rd⟩ := ok1.freeze rr mz
  have rd := Rep.s rd
  unfold isLT at md
  split at md
  · rename_i ds w
    rw [w, Rep] at rd
    obtain ⟨a, vs, e2, h1, h2⟩ := rd
    refine ⟨a, vs, e2, .inr (.of (ok2.sub _ _ h1)), hr.s F e1 σ G2 H1 _ _ Em ok2 lk md fun xs e3 ys G3 H3 ok3 x3 r3 m3 => ?_⟩
    exact q _ e3 _ G3 H3 ok3 ((x1.trans x2).trans x3) (args_append (args_vals (Reps.mono x3 ds vs h2)) r3) m3
  · rename_i ds w
    rw [w, Rep] at rd
    obtain ⟨a, vs, e2, h1, h2⟩ := rd
    refine ⟨a, vs, e2, .inl (.of (ok2.sub _ _ h1)), hr.s F e1 σ G2 H1 _ _ Em ok2 lk md fun xs e3 ys G3 H3 ok3 x3 r3 m3 => ?_⟩
    exact q _ e3 _ G3 H3 ok3 ((x1.trans x2).trans x3) (args_append (args_vals (Reps.mono x3 ds vs h2)) r3) m3
  · cases md
/-- the ints in order -/
def insI (x : Int) : List Int → List Int
  | [] => [x]
  | y :: ys => if x ≤ y then x :: y :: ys else y :: insI x ys
def sortI : List Int → List Int
  | [] => []
  | x :: xs => insI x (sortI xs)
theorem insI_perm (x : Int) : ∀ ys : List Int, (insI x ys).Perm (x :: ys)
  | [] => .refl _
  | y :: ys => by
    unfold insI
    split
    · exact .refl _
    · exact ((insI_perm x ys).cons y).trans (List.Perm.swap x y ys)
theorem sortI_perm : ∀ xs : List Int, (sortI xs).Perm xs
  | [] => .refl _
  | x :: xs => (insI_perm x (sortI xs)).trans ((sortI_perm xs).cons x)
theorem insI_ord (x : Int) : ∀ {ys : List Int}, ys.Pairwise (· ≤ ·) → (insI x ys).Pairwise (· ≤ ·)
  | [], _ => by simp [insI]
  | y :: ys, h => by
    obtain ⟨h1, h2⟩ := List.pairwise_cons.mp h
    unfold insI
    split
    · rename_i c
      refine List.pairwise_cons.mpr ⟨fun z hz => ?_, h⟩
      rcases List.mem_cons.mp hz with rfl | hz
      · exact c
      · exact Int.le_trans c (h1 z hz)
    · rename_i c
      refine List.pairwise_cons.mpr ⟨fun z hz => ?_, insI_ord x h2⟩
      rcases List.mem_cons.mp ((insI_perm x ys).mem_iff.mp hz) with rfl | hz
      · omega
      · exact h1 z hz
theorem sortI_ord : ∀ xs : List Int, (sortI xs).Pairwise (· ≤ ·)
  | [] => .nil
  | x :: xs => insI_ord x (sortI_ord xs)
theorem ord_one {xs ys : List Int} (hp : xs.Perm ys) (hx : xs.Pairwise (· ≤ ·)) (hy : ys.Pairwise (· ≤ ·)) : xs = ys :=
  hp.eq_of_pairwise (fun a b _ _ h1 h2 => Int.le_antisymm h1 h2) hx hy
def gSorted : OpN := fun ds k => match ds with
  | [.lst xs] => (match intsD xs with | some is => k (.o ((sortI is).map D.int)) | none => False)
  | _ => False
theorem sc_sorted {K : PySem.W.Frag} : SemC K (rSortedI K) gSorted := fun Rs F env σ G H vs ds Q Qm ok vd hm q => by
  unfold gSorted at hm
  split at hm
  · rename_i xs
    obtain ⟨v, rfl, a, us, rfl, h1, h2⟩ := views1 vd
    split at hm
    · rename_i is ei
      have := ints_rep h2 ei
      subst this
      refine ⟨a, is, rfl, .of h1, fun ns' p hp ho hn => ?_⟩
      have e : ns' = sortI is := ord_one (hp.trans (sortI_perm is).symm) ho (sortI_ord is)
      subst e
      obtain ⟨ok2, rr⟩ := ok.rlst (ds := (sortI is).map D.int) hn (reps_ints.mpr rfl)
      exact q _ _ G _ ok2 (Ex.refl G) rr hm
    · cases hm
  · cases hm
end VL
/-! VL: the judgements without their readings. -/
namespace VL
open PySem PySem.Spec PyProof.Rows L2
def XE (X : Cx) (Rs : List Nat) (W : WX) (e : Expr) (m : ME) : Prop := ∃ t, DE X Rs W e t m
def XO (X : Cx) (Rs : List Nat) (W : WX) (e : Expr) (m : MO) : Prop := ∃ t, DO X Rs W e t m
def XT (X : Cx) (Rs : List Nat) (W : WX) (e : Expr) (m : MT) : Prop := ∃ t, DT X Rs W e t m
def XW (X : Cx) (Rs : List Nat) (W : WX) (e : Expr) (m : MT) : Prop := ∃ t, DW X Rs W e t m
def XA (X : Cx) (Rs : List Nat) (W : WX) (e : List Expr) (m : MA) : Prop := ∃ t, DA X Rs W e t m
def XS (X : Cx) (Rs : List Nat) (W : WX) (e : Stmt) (m : MS) : Prop := ∃ t, DS X Rs W e t m
def XSs (X : Cx) (Rs : List Nat) (W : WX) (e : List Stmt) (m : MS) : Prop := ∃ t, DSs X Rs W e t m
def XG (X : Cx) (Rs : List Nat) (e : Expr) (m : MG) (gs : List Nat) : Prop := ∃ t, DG X Rs e t m gs
def XGs (X : Cx) (Rs : List Nat) (e : List Expr) (m : MGs) (gs : List Nat) : Prop := ∃ t, DGs X Rs e t m gs
def XI (X : Cx) (Rs : List Nat) (W : WX) (tg e : Expr) (m : MI) : Prop := ∃ t, DI X Rs W tg e t m
def XP (X : Cx) (Rs : List Nat) (W : WX) (e : Option Expr) (m : MP) : Prop := ∃ t, DP X Rs W e t m
def XK1 (X : Cx) (Rs : List Nat) (W : WX) (e : List Keyword) (m : MA) : Prop := ∃ t, DK X Rs W e t m
def XD (X : Cx) (Rs : List Nat) (W : WX) (e : List Expr) (m : MD) : Prop := ∃ t, DD X Rs W e t m
def XTs (X : Cx) (Rs : List Nat) (W : WX) (e : List Expr) (m : MT) : Prop := ∃ t, DTs X Rs W e t m
section
variable (K : PySem.W.Frag) (Rs : List Nat) (W : WX)
end
section
variable {K : PySem.W.Frag} {Rs : List Nat} {F : Fr} {env : En} {σ : L2.St} {G G' H H' : Hp}
end
section
variable {X : Cx} {Rs : List Nat} {W : WX} {e a b c : Expr} {pos p : Pos} {ma mb mc : MO}
theorem xe_int {i : Int} {j} : XE X Rs W (.Constant (.int i) j pos) (mC (.int i)) := by
  exact ⟨_, de_int⟩
theorem xe_bl {i : Bool} {j} : XE X Rs W (.Constant (.bool i) j pos) (mC (.bl i)) := by
  exact ⟨_, de_bl⟩
theorem xe_non {j} : XE X Rs W (.Constant .none j pos) (mC .non) := by
  exact ⟨_, de_non⟩
theorem xe_str {i : Str} {j} : XE X Rs W (.Constant (.str i) j pos) (mC (.str i)) := by
  exact ⟨_, de_str⟩
theorem xe_glob {x : Str} {d : D} {v : V} {u : Value} (hg : Gl X x) (hm : X.mg x = some u) (r : RelV v u) (hr : ∀ G, Rep X.K G d v) (hd : (x == ("__debug__" : Str)) = false := by decide) : XE X Rs W (.Name x pos) (mC d) := by
  exact ⟨_, de_glob hg hm r hr hd⟩
theorem xo_var (i : Nat) {x : Str} (hN : X.N[i]? = some x := by rfl) (hv : Vis X.env.scope x := by first | exact Or.inl rfl | exact Or.inr (Or.inl rfl) | exact Or.inr (Or.inr rfl)) (hd : (x == ("__debug__" : Str)) = false := by decide)
    (hcd : (x == ("__classdict__" : Str)) = false := by decide) : XO X Rs W (.Name x pos) (oVar i) := by
  exact ⟨_, do_var i hN hv hd hcd⟩
theorem xo_val {m : ME} (h : XE X Rs W e m) : XO X Rs W e (oVal m) := by
  obtain ⟨t_0, h⟩ := h
  exact ⟨_, do_val h⟩
theorem xe_var (i : Nat) {x : Str} (hi : i ∉ Rs := by decide) (hN : X.N[i]? = some x := by rfl) (hv : Vis X.env.scope x := by first | exact Or.inl rfl | exact Or.inr (Or.inl rfl) | exact Or.inr (Or.inr rfl)) (hd : (x == ("__debug__" : Str)) = false := by decide)
    (hcd : (x == ("__classdict__" : Str)) = false := by decide) : XE X Rs W (.Name x pos) (mVar i) := by
  exact ⟨_, de_var i hi hN hv hd hcd⟩
theorem xe_move (i : Nat) {x : Str} (hi : i ∉ Rs := by decide) (hN : X.N[i]? = some x := by rfl) (hv : Vis X.env.scope x := by first | exact Or.inl rfl | exact Or.inr (Or.inl rfl) | exact Or.inr (Or.inr rfl)) (hd : (x == ("__debug__" : Str)) = false := by decide)
    (hcd : (x == ("__classdict__" : Str)) = false := by decide) : XE X Rs W (.Name x pos) (mMove i) := by
  exact ⟨_, de_move i hi hN hv hd hcd⟩
theorem xe_op {op : Operator} {r : R2} {g : Op2} (ho : OpR X (binaryOp op) r) (hs : SemOp X.K r g) (ha : XO X Rs W a ma) (hb : XO X Rs W b mb) : XE X Rs W (.BinOp a op b pos) (mOp g ma mb) := by
  obtain ⟨t_0, ha⟩ := ha
  obtain ⟨t_1, hb⟩ := hb
  exact ⟨_, de_op ho hs ha hb⟩
theorem xe_cmp {op : CmpOp} {r : R2} {g : Op2} (ho : OpR X (compareOp op) r) (hs : SemOp X.K r g) (ha : XO X Rs W a ma) (hb : XO X Rs W b mb) (hm : behindInMarks op b = false) : XE X Rs W (.Compare a [op] [b] pos) (mOp g ma mb) := by
  obtain ⟨t_0, ha⟩ := ha
  obtain ⟨t_1, hb⟩ := hb
  exact ⟨_, de_cmp ho hs ha hb hm⟩
theorem xt_cmp {op : CmpOp} {r : R2} {g : Op2} (ho : OpR X (compareOp op) r) (hs : SemOp X.K r g) (ha : XO X Rs W a ma) (hb : XO X Rs W b mb) (hm : behindInMarks op b = false) : XT X Rs W (.Compare a [op] [b] pos) (tB' (mOp g ma mb)) := by
  obtain ⟨t_0, ha⟩ := ha
  obtain ⟨t_1, hb⟩ := hb
  exact ⟨_, dt_cmp ho hs ha hb hm⟩
theorem xe_chain {op op' : CmpOp} {r r' : R2} {g g' : Op2} (ho : OpR X (compareOp op) r) (ho' : OpR X (compareOp op') r') (hs : SemOp X.K r g) (hs' : SemOp X.K r' g') (ha : XO X Rs W a ma) (hb : XO X Rs W b mb) (hc : XO X Rs W c mc)
    (hm : lastMarks [op, op'] [b, c] = false := by with_unfolding_all rfl) : XE X Rs W (.Compare a [op, op'] [b, c] pos) (mChain g g' ma mb mc) := by
  obtain ⟨t_0, ha⟩ := ha
  obtain ⟨t_1, hb⟩ := hb
  obtain ⟨t_2, hc⟩ := hc
  exact ⟨_, de_chain ho ho' hs hs' ha hb hc hm⟩
theorem xt_chain {op op' : CmpOp} {r r' : R2} {g g' : Op2} (ho : OpR X (compareOp op) r) (ho' : OpR X (compareOp op') r') (hs : SemOp X.K r g) (hs' : SemOp X.K r' g') (ha : XO X Rs W a ma) (hb : XO X Rs W b mb) (hc : XO X Rs W c mc)
    (hm : lastMarks [op, op'] [b, c] = false := by with_unfolding_all rfl) : XT X Rs W (.Compare a [op, op'] [b, c] pos) (tB' (mChain g g' ma mb mc)) := by
  obtain ⟨t_0, ha⟩ := ha
  obtain ⟨t_1, hb⟩ := hb
  obtain ⟨t_2, hc⟩ := hc
  exact ⟨_, dt_chain ho ho' hs hs' ha hb hc hm⟩
theorem xe_un {op : UnaryOp} {r : V → Hp → VK → Prop} {g : Op1} (ho : UnR X (unaryOp op) r) (hs : SemU X.K r g) (ha : XO X Rs W a ma) : XE X Rs W (.UnaryOp op a pos) (mUn g ma) := by
  obtain ⟨t_0, ha⟩ := ha
  exact ⟨_, de_un ho hs ha⟩
theorem xt_truth (ha : XO X Rs W a ma) (he : ∀ whole, isTrue a X.env whole = (do let v ← whole; standAt a.pos; holding [v] (truthy v)) := by intro _; rfl) : XT X Rs W a (tTru ma) := by
  obtain ⟨t_0, ha⟩ := ha
  exact ⟨_, dt_truth ha he⟩
variable {rest : List Expr} {ta' tb' : MT}
theorem xw_dt (h : XW X Rs W e ta') : XT X Rs W e ta' := by
  obtain ⟨t_0, h⟩ := h
  exact ⟨_, DW.dt h⟩
theorem xw_and1 (h : XT X Rs W a ta') : XW X Rs W (.BoolOp .And [a] pos) ta' := by
  obtain ⟨t_0, h⟩ := h
  exact ⟨_, dw_and1 h⟩
theorem xw_or1 (h : XT X Rs W a ta') : XW X Rs W (.BoolOp .Or [a] pos) ta' := by
  obtain ⟨t_0, h⟩ := h
  exact ⟨_, dw_or1 h⟩
theorem xw_and (ha : XT X Rs W a ta') (hb : XW X Rs W (.BoolOp .And (b :: rest) pos) tb') : XW X Rs W (.BoolOp .And (a :: b :: rest) pos) (tAnd' ta' tb') := by
  obtain ⟨t_0, ha⟩ := ha
  obtain ⟨t_1, hb⟩ := hb
  exact ⟨_, dw_and ha hb⟩
theorem xw_or (ha : XT X Rs W a ta') (hb : XW X Rs W (.BoolOp .Or (b :: rest) pos) tb') : XW X Rs W (.BoolOp .Or (a :: b :: rest) pos) (tOr' ta' tb') := by
  obtain ⟨t_0, ha⟩ := ha
  obtain ⟨t_1, hb⟩ := hb
  exact ⟨_, dw_or ha hb⟩
theorem xt_not (h : XT X Rs W a ta') : XT X Rs W (.UnaryOp .Not a pos) (tNot' ta') := by
  obtain ⟨t_0, h⟩ := h
  exact ⟨_, dt_not h⟩
variable {na nb : ME}
theorem xe_one {op} (h : XE X Rs W a na) : XE X Rs W (.BoolOp op [a] pos) na := by
  obtain ⟨t_0, h⟩ := h
  exact ⟨_, de_one h⟩
theorem xe_and (ha : XE X Rs W a na) (hb : XE X Rs W (.BoolOp .And (b :: rest) pos) nb) : XE X Rs W (.BoolOp .And (a :: b :: rest) pos) (mAnd na nb) := by
  obtain ⟨t_0, ha⟩ := ha
  obtain ⟨t_1, hb⟩ := hb
  exact ⟨_, de_and ha hb⟩
theorem xe_or (ha : XE X Rs W a na) (hb : XE X Rs W (.BoolOp .Or (b :: rest) pos) nb) : XE X Rs W (.BoolOp .Or (a :: b :: rest) pos) (mOr na nb) := by
  obtain ⟨t_0, ha⟩ := ha
  obtain ⟨t_1, hb⟩ := hb
  exact ⟨_, de_or ha hb⟩
theorem xe_not (ha : XE X Rs W a na) : XE X Rs W (.UnaryOp .Not a pos) (mNot na) := by
  obtain ⟨t_0, ha⟩ := ha
  exact ⟨_, de_not ha⟩
theorem xe_if (hc : XT X Rs W c ta') (ha : XE X Rs W a na) (hb : XE X Rs W b nb) : XE X Rs W (.IfExp c a b pos) (mIf ta' na nb) := by
  obtain ⟨t_0, hc⟩ := hc
  obtain ⟨t_1, ha⟩ := ha
  obtain ⟨t_2, hb⟩ := hb
  exact ⟨_, de_if hc ha hb⟩
variable {es : List Expr} {mas : MA}
theorem xa_nil : XA X Rs W [] aNil := by
  exact ⟨_, da_nil⟩
theorem xa_cons (ha : XO X Rs W e ma) (hr : XA X Rs W es mas) (hs : starEach (e :: es) X.env = (false, eval e X.env) :: starEach es X.env := by rfl) : XA X Rs W (e :: es) (aCons ma mas) := by
  obtain ⟨t_0, ha⟩ := ha
  obtain ⟨t_1, hr⟩ := hr
  exact ⟨_, da_cons ha hr hs⟩
theorem xe_tup {k} (ha : XA X Rs W es mas) : XE X Rs W (.Tuple es k pos) (mTup mas) := by
  obtain ⟨t_0, ha⟩ := ha
  exact ⟨_, de_tup ha⟩
theorem xe_lst (ha : XA X Rs W es mas) : XE X Rs W (.List es pos) (mLst mas) := by
  obtain ⟨t_0, ha⟩ := ha
  exact ⟨_, de_lst ha⟩
end
section
variable {K : PySem.W.Frag} {Rs : List Nat} {F : Fr} {env : En} {σ : L2.St} {G G' H H' : Hp}
end
section
variable {X : Cx} {Rs : List Nat} {W : WX} {st : Stmt} {rest : List Stmt} {e a b c o i : Expr} {pos p : Pos} {m m1 m2 : MS} {me : ME} {mt : MT}
theorem xss_nil : XSs X Rs W [] mNext := by
  exact ⟨_, dss_nil⟩
theorem xss_one (h : XS X Rs W st m) : XSs X Rs W [st] m := by
  obtain ⟨t_0, h⟩ := h
  exact ⟨_, dss_one h⟩
theorem xss_cons (h1 : XS X Rs W st m1) (h2 : XSs X Rs W rest m2) : XSs X Rs W (st :: rest) (mSeq m1 m2) := by
  obtain ⟨t_0, h1⟩ := h1
  obtain ⟨t_1, h2⟩ := h2
  exact ⟨_, dss_cons h1 h2⟩
theorem xs_pass : XS X Rs W (.Pass pos) mNext := by
  exact ⟨_, ds_pass⟩
theorem xs_break : XS X Rs W (.Break pos) mBreak := by
  exact ⟨_, ds_break⟩
theorem xs_continue : XS X Rs W (.Continue pos) mCont := by
  exact ⟨_, ds_continue⟩
theorem xs_never : XS X Rs W st mNever := by
  exact ⟨_, ds_never⟩
theorem xss_never {sts : List Stmt} : XSs X Rs W sts mNever := by
  exact ⟨_, dss_never⟩
theorem xs_ret (h : XE X Rs W e me) : XS X Rs W (.Return (some e) pos) (mRet me) := by
  obtain ⟨t_0, h⟩ := h
  exact ⟨_, ds_ret h⟩
theorem xs_retN : XS X Rs W (.Return none pos) mRetN := by
  exact ⟨_, ds_retN⟩
theorem xs_expr (h : XE X Rs W e me) (hs : swapsWith e none pos.line X.env = pure false := by rfl) : XS X Rs W (.Expr e pos) (mDrop me) := by
  obtain ⟨t_0, h⟩ := h
  exact ⟨_, ds_expr h hs⟩
theorem xs_if {sa sb : List Stmt} (hc : XT X Rs W c mt) (ha : XSs X Rs W sa m1) (hb : XSs X Rs W sb m2) : XS X Rs W (.If c sa sb pos) (mIfS mt m1 m2) := by
  obtain ⟨t_0, hc⟩ := hc
  obtain ⟨t_1, ha⟩ := ha
  obtain ⟨t_2, hb⟩ := hb
  exact ⟨_, ds_if hc ha hb⟩
theorem xs_set (i : Nat) {x : Str} {pos' : Pos} (hN : X.N.Nodup) (h : XE X Rs W e me) (hR : i ∉ Rs := by decide) (hi : X.N[i]? = some x := by rfl) (hx : Loc X.env.scope x := by first | exact Or.inl rfl | exact Or.inr rfl)
    (hs : swapsWith e (some (.Name x pos')) pos.line X.env = pure false := by rfl) (hf : X.fn x = true ∨ X.env.scope.names.lookup x = some .local := by first | exact .inl rfl | exact .inr rfl | assumption) : XS X Rs W (.Assign [.Name x pos'] e pos) (mSet i me) := by
  obtain ⟨t_0, h⟩ := h
  exact ⟨_, ds_set i hN h hR hi hx hs hf⟩
theorem xg_name (i : Nat) {x : Str} (hN : X.N.Nodup) (hR : i ∉ Rs := by decide) (hi : X.N[i]? = some x := by rfl) (hx : Loc X.env.scope x := by first | exact Or.inl rfl | exact Or.inr rfl)
    (hf : X.fn x = true ∨ X.env.scope.names.lookup x = some .local := by first | exact .inl rfl | exact .inr rfl | assumption) : XG X Rs (.Name x pos) (mgName i) [i] := by
  exact ⟨_, dg_name i hN hR hi hx hf⟩
theorem xgs_nil : XGs X Rs [] mgNil [] := by
  exact ⟨_, dgs_nil⟩
theorem xgs_cons {tg : Expr} {tgs : List Expr} {mg : MG} {mr : MGs} {gs hs : List Nat} (h1 : XG X Rs tg mg gs) (h2 : XGs X Rs tgs mr hs) (hq : (assignEach (tg :: tgs) X.env).map (·.2) = assign tg X.env :: (assignEach tgs X.env).map (·.2) := by rfl) : XGs X Rs (tg :: tgs) (mgCons mg mr) (gs ++ hs) := by
  obtain ⟨t_0, h1⟩ := h1
  obtain ⟨t_1, h2⟩ := h2
  exact ⟨_, dgs_cons h1 h2 hq⟩
theorem xg_tup {es : List Expr} {k : Nat} {n : Nat} {mg : MGs} {gs : List Nat} (hc : X.calm = true) (h : XGs X Rs es mg gs) (hn : (assignEach es X.env).length = n := by rfl) (hst : (assignEach es X.env).findIdx? (·.1) = none := by rfl) : XG X Rs (.Tuple es k pos) (mgTup n mg) gs := by
  obtain ⟨t_0, h⟩ := h
  exact ⟨_, dg_tup hc h hn hst⟩
theorem xs_asg {tg : Expr} {mg : MG} {gs : List Nat} (he : XE X Rs W e me) (hg : XG X Rs tg mg gs) (hs : swapsWithSole [tg] e pos.line X.env = pure false := by rfl) (hw : swappedStores [tg] e X.env = pure none := by rfl) (hq : (assignEach [tg] X.env).map (·.2) = [assign tg X.env] := by rfl) : XS X Rs W (.Assign [tg] e pos) (mAsg me mg) := by
  obtain ⟨t_0, he⟩ := he
  obtain ⟨t_1, hg⟩ := hg
  exact ⟨_, ds_asg he hg hs hw hq⟩
theorem xs_append (i : Nat) {x : Str} {ma : MO} {pn pa pc : Pos} (ha : XO X Rs W e ma) (hN : X.N[i]? = some x := by rfl) (hv : Vis X.env.scope x := by first | exact Or.inl rfl | exact Or.inr (Or.inl rfl) | exact Or.inr (Or.inr rfl))
    (hd : (x == ("__debug__" : Str)) = false := by decide) (hcd : (x == ("__classdict__" : Str)) = false := by decide)
    (hfew : ((backTo pc (starEach [e] X.env)).all (fun x => !x.1) && (backToKw pc (keywordEach [] X.env)).all (fun x => x.1.isSome) && decide ([e].length + ([] : List Keyword).length + (if ([] : List Keyword).isEmpty then 0 else 1) < 30)) = true := by rfl)
    (hline : (pa.endLine == pc.line) = true := by rfl) (hs : starEach [e] X.env = [(false, eval e X.env)] := by rfl) (hsw : swapsWith (.Call (.Attribute (.Name x pn) "append" pa) [e] [] pc) none pos.line X.env = pure false := by rfl) :
    XS X Rs W (.Expr (.Call (.Attribute (.Name x pn) "append" pa) [e] [] pc) pos) (mApp i ma) := by
  obtain ⟨t_0, ha⟩ := ha
  exact ⟨_, ds_append i ha hN hv hd hcd hfew hline hs hsw⟩
theorem xs_setIx (i : Nat) {x : Str} {k : Expr} {me mk : MO} {pn ps : Pos} (he : XO X Rs W e me) (hk : XO X Rs W k mk) (hN : X.N[i]? = some x := by rfl) (hv : Vis X.env.scope x := by first | exact Or.inl rfl | exact Or.inr (Or.inl rfl) | exact Or.inr (Or.inr rfl))
    (hd : (x == ("__debug__" : Str)) = false := by decide) (hcd : (x == ("__classdict__" : Str)) = false := by decide) (hs : swapsWithSole [.Subscript (.Name x pn) k ps] e pos.line X.env = pure false := by rfl) (hw : swappedStores [.Subscript (.Name x pn) k ps] e X.env = pure none := by rfl)
    (hq : (assignEach [.Subscript (.Name x pn) k ps] X.env).map (·.2) = [assign (.Subscript (.Name x pn) k ps) X.env] := by rfl)
    (hsub : ∀ v, assign (.Subscript (.Name x pn) k ps) X.env v = (do
      let w1 ← holding [v] (eval (.Name x pn) X.env)
      let w2 ← holding [v, w1] (eval k X.env)
      standAt ps
      holding [v, w1, w2] (setItem w1 w2 v)
      release [v, w1, w2] []) := by intro _; rfl) : XS X Rs W (.Assign [.Subscript (.Name x pn) k ps] e pos) (mSetIx i me mk) := by
  obtain ⟨t_0, he⟩ := he
  obtain ⟨t_1, hk⟩ := hk
  exact ⟨_, ds_setIx i he hk hN hv hd hcd hs hw hq hsub⟩
theorem xd_nil : XD X Rs W [] dNil := by
  exact ⟨_, dd_nil⟩
theorem xd_cons {es : List Expr} {md : MD} (ha : XE X Rs W e me) (hr : XD X Rs W es md) (hs : starEach (e :: es) X.env = (false, eval e X.env) :: starEach es X.env := by rfl) : XD X Rs W (e :: es) (dCons me md) := by
  obtain ⟨t_0, ha⟩ := ha
  obtain ⟨t_1, hr⟩ := hr
  exact ⟨_, dd_cons ha hr hs⟩
theorem xs_par2 (i j : Nat) {x y : Str} {md : MD} {px py pt pt2 : Pos} {kt k2} (hc : X.calm = true) (hN : X.N.Nodup) (ha : XD X Rs W [a, b] md) (hR : ∀ l ∈ [i, j], l ∉ Rs := by decide) (hi : X.N[i]? = some x := by rfl) (hj : X.N[j]? = some y := by rfl) (hij : i ≠ j := by decide)
    (hx : X.env.scope.names.lookup x = some .local := by rfl) (hy : X.env.scope.names.lookup y = some .local := by rfl) (hw : swappedStores [.Tuple [.Name x px, .Name y py] kt pt] (.Tuple [a, b] k2 pt2) X.env = pure (some [x, y]) := by rfl)
    (hs : swapsWithSole [.Tuple [.Name x px, .Name y py] kt pt] (.Tuple [a, b] k2 pt2) pos.line X.env = pure false := by rfl) : XS X Rs W (.Assign [.Tuple [.Name x px, .Name y py] kt pt] (.Tuple [a, b] k2 pt2) pos) (mPar [i, j] md) := by
  obtain ⟨t_0, ha⟩ := ha
  exact ⟨_, ds_par2 i j hc hN ha hR hi hj hij hx hy hw hs⟩
theorem xs_parT (is : List Nat) {n : Nat} {es ts : List Expr} {md : MD} {pt pt2 : Pos} {kt k2} (hc : X.calm = true) (ha : XD X Rs W es md) (hg : PGs X ts (gAll is)) (hR : ∀ l ∈ is, l ∉ Rs := by decide) (hlen : is.length = n := by rfl)
    (hn : (assignEach ts X.env).length = n := by rfl) (hst : (assignEach ts X.env).findIdx? (·.1) = none := by rfl) (hz : ∀ (rs : List DV) (vs : List V), n ≤ sizeLine := by intro _ _; show _ ≤ 16777216; decide)
    (hs : swapsWithSole [.Tuple ts kt pt] (.Tuple es k2 pt2) pos.line X.env = pure false := by rfl) (hw : swappedStores [.Tuple ts kt pt] (.Tuple es k2 pt2) X.env = pure none := by rfl) (hq : (assignEach [.Tuple ts kt pt] X.env).map (·.2) = [assign (.Tuple ts kt pt) X.env] := by rfl) :
    XS X Rs W (.Assign [.Tuple ts kt pt] (.Tuple es k2 pt2) pos) (mPar is md) := by
  obtain ⟨t_0, ha⟩ := ha
  exact ⟨_, ds_parT is hc ha hg hR hlen hn hst hz hs hw hq⟩
end
section
variable {X : Cx} {Rs : List Nat} {W : WX} {tg e e2 a b c : Expr} {pos p : Pos} {m : ME} {ma : MA}
theorem xi_list (h : XE X Rs W e m) : XI X Rs W tg e (iLst m) := by
  obtain ⟨t_0, h⟩ := h
  exact ⟨_, di_list h⟩
theorem xi_tup (h : XE X Rs W e m) : XI X Rs W tg e (iTupD m) := by
  obtain ⟨t_0, h⟩ := h
  exact ⟨_, di_tup h⟩
theorem xi_range1 (hg : Gl X "range") (hm : X.mg "range" = none) (ha : XA X Rs W [a] ma) (hs : starEach [a] X.env = [(false, eval a X.env)] := by rfl) : XI X Rs W tg (.Call (.Name "range" p) [a] [] pos) (iRange1 ma) := by
  obtain ⟨t_0, ha⟩ := ha
  exact ⟨_, di_range1 hg hm ha hs⟩
theorem xi_range2 (hg : Gl X "range") (hm : X.mg "range" = none) (ha : XA X Rs W [a, b] ma) (hs : starEach [a, b] X.env = [(false, eval a X.env), (false, eval b X.env)] := by rfl) (hs2 : starEach [b] X.env = [(false, eval b X.env)] := by rfl) : XI X Rs W tg (.Call (.Name "range" p) [a, b] [] pos) (iRange2 ma) := by
  obtain ⟨t_0, ha⟩ := ha
  exact ⟨_, di_range2 hg hm ha hs hs2⟩
theorem xi_rev (hg : Gl X "reversed") (hm : X.mg "reversed" = none) (ha : XA X Rs W [a] ma) (hs : starEach [a] X.env = [(false, eval a X.env)] := by rfl) : XI X Rs W tg (.Call (.Name "reversed" p) [a] [] pos) (iRevL ma) := by
  obtain ⟨t_0, ha⟩ := ha
  exact ⟨_, di_rev hg hm ha hs⟩
theorem xi_enum {elts : List Expr} {kk : Nat} {tpos : Pos} (hg : Gl X "enumerate") (hm : X.mg "enumerate" = none) (ha : XA X Rs W [a] ma) (hs : starEach [a] X.env = [(false, eval a X.env)] := by rfl) : XI X Rs W (.Tuple elts kk tpos) (.Call (.Name "enumerate" p) [a] [] pos) (iEnumL ma) := by
  obtain ⟨t_0, ha⟩ := ha
  exact ⟨_, di_enum hg hm ha hs⟩
theorem xi_zip {elts : List Expr} {kk : Nat} {tpos : Pos} (hg : Gl X "zip") (hm : X.mg "zip" = none) (ha : XA X Rs W [a, b] ma) (hs : starEach [a, b] X.env = (false, eval a X.env) :: starEach [b] X.env := by rfl) (hpl : (backTo pos (starEach [b] X.env)).any (·.1) = false := by rfl) :
    XI X Rs W (.Tuple elts kk tpos) (.Call (.Name "zip" p) [a, b] [] pos) (iZipL ma) := by
  obtain ⟨t_0, ha⟩ := ha
  exact ⟨_, di_zip hg hm ha hs hpl⟩
variable {mi : MI} {mg : MG} {ms : MS} {gs : List Nat}
theorem xs_for {iter : Expr} {body : List Stmt} (hp : PassesOwn (model X.prog X.w) X.A X.env X.xe) (hc : X.calm = true) (hi : XI X Rs W tg iter mi) (hg : XG X Rs tg mg gs) (hb : XSs X Rs W body ms)
    (hs : ∀ x, foldedSetIterable iter X.env x = pure x := by intro _; rfl) : XS X Rs W (.For tg iter body [] pos) (mFor mi mg ms) := by
  obtain ⟨t_0, hi⟩ := hi
  obtain ⟨t_1, hg⟩ := hg
  obtain ⟨t_2, hb⟩ := hb
  exact ⟨_, ds_for hp hc hi hg hb hs⟩
theorem xs_while {body : List Stmt} {mt : MT} (hp : PassesOwn (model X.prog X.w) X.A X.env X.xe) (hc : XT X Rs W c mt) (hb : XSs X Rs W body ms) : XS X Rs W (.While c body [] pos) (mWhile mt ms) := by
  obtain ⟨t_0, hc⟩ := hc
  obtain ⟨t_1, hb⟩ := hb
  exact ⟨_, ds_while hp hc hb⟩
end
section
variable {K : PySem.W.Frag} {Rs : List Nat} {F : Fr} {env : En} {σ : L2.St} {G H : Hp}
end
section
variable {K : PySem.W.Frag} {Rs : List Nat} {W : WX} {mi : MI} {mg : MG} {mt : MT} {me : ME} {gs vs : List Nat}
variable {X : Cx} {elt tg iter : Expr} {ifs : List Expr} {scope : Scope} {own : List (Str × Nat)} {pos : Pos}
theorem xts_nil : XTs X Rs W [] mYes := by
  exact ⟨_, dts_nil⟩
theorem xts_one {c : Expr} (h : XT X Rs W c mt) : XTs X Rs W [c] mt := by
  obtain ⟨t_0, h⟩ := h
  exact ⟨_, dts_one h⟩
end
section
variable {P : Program} {w : World} {K : PySem.W.Frag} {mg : Str → Option Value} {base : Heap}
end
section
variable {K : PySem.W.Frag} {Rs : List Nat} {F : Fr} {env : En} {σ : L2.St} {G H : Hp}
end
section
variable {X : Cx} {Rs : List Nat} {W : WX} {k : Nat} {f : Addr} {fd : FuncData} {ps : List Str} {mf : MF} {Rc : List Nat} {x : Str} {p pos : Pos} {e : Expr} {es : List Expr} {ma mk : MA} {ta tk : TA}
theorem xe_call (Fn : FnOk X.prog X.w X.K X.mg X.base (L2.CX X.prog X.w) k f fd ps (spOf X.K Rc ps.length mf)) (hr : Room k X.A) (hg : Gl X x) (hm : X.mg x = some (.ref f)) (hk : PySem.W.keepIn X.K (.ref f) = true) (hb : Binds X.K fd ps []) (hx : ∀ σ, PassesAt (L2.CX X.prog X.w) X σ (WE W σ))
    (ha : XA X Rs W (e :: es) ma) (hdb : (x == ("__debug__" : Str)) = false := by decide) (he : starEach (e :: es) X.env = (false, eval e X.env) :: starEach es X.env := by rfl) (hpl : (backTo pos (starEach es X.env)).any (·.1) = false := by rfl) :
    XE X Rs W (.Call (.Name x p) (e :: es) [] pos) (mCall mf Rc ps.length ma) := by
  obtain ⟨t_0, ha⟩ := ha
  exact ⟨_, de_call Fn hr hg hm hk hb hx ha hdb he hpl⟩
theorem xk_nil : XK1 X Rs W [] aNil := by
  exact ⟨_, dk_nil⟩
theorem xk_cons {nm : Option Str} {kpos : Pos} {kws : List Keyword} {me : MO} (ha : XO X Rs W e me) (hr : XK1 X Rs W kws mk) : XK1 X Rs W (⟨nm, e, kpos⟩ :: kws) (aCons me mk) := by
  obtain ⟨t_0, ha⟩ := ha
  obtain ⟨t_1, hr⟩ := hr
  exact ⟨_, dk_cons ha hr⟩
theorem xe_callK0 {ks : List Str} {pm : List Nat} {kws : List Keyword} (Fn : FnOk X.prog X.w X.K X.mg X.base (L2.CX X.prog X.w) k f fd ps (spOf X.K Rc ps.length mf)) (hr : Room k X.A) (hg : Gl X x) (hm : X.mg x = some (.ref f)) (hk : PySem.W.keepIn X.K (.ref f) = true) (hb : KB X.K fd ps ks 0 pm) (hx : ∀ σ, PassesAt (L2.CX X.prog X.w) X σ (WE W σ))
    (hkw : XK1 X Rs W kws mk) (hall : (backToKw pos (keywordEach kws X.env)).all (·.1.isSome) = true := by rfl) (hks : (backToKw pos (keywordEach kws X.env)).filterMap (·.1) = ks := by rfl) (hdb : (x == ("__debug__" : Str)) = false := by decide)
    (hpl : ((backTo pos (starEach [] X.env)).any (·.1) || (backToKw pos (keywordEach kws X.env)).any (·.1.isNone)) = false := by rfl) :
    XE X Rs W (.Call (.Name x p) [] kws pos) (mCallK mf Rc ps.length 0 ks.length pm aNil mk) := by
  obtain ⟨t_0, hkw⟩ := hkw
  exact ⟨_, de_callK0 Fn hr hg hm hk hb hx hkw hall hks hdb hpl⟩
theorem xe_callK {ks : List Str} {nu : Nat} {pm : List Nat} {kws : List Keyword} (Fn : FnOk X.prog X.w X.K X.mg X.base (L2.CX X.prog X.w) k f fd ps (spOf X.K Rc ps.length mf)) (hr : Room k X.A) (hg : Gl X x) (hm : X.mg x = some (.ref f)) (hk : PySem.W.keepIn X.K (.ref f) = true) (hb : KB X.K fd ps ks nu pm) (hx : ∀ σ, PassesAt (L2.CX X.prog X.w) X σ (WE W σ))
    (ha : XA X Rs W (e :: es) ma) (hkw : XK1 X Rs W kws mk) (hall : (backToKw pos (keywordEach kws X.env)).all (·.1.isSome) = true := by rfl) (hks : (backToKw pos (keywordEach kws X.env)).filterMap (·.1) = ks := by rfl) (hdb : (x == ("__debug__" : Str)) = false := by decide)
    (he : starEach (e :: es) X.env = (false, eval e X.env) :: starEach es X.env := by rfl) (hpl : ((backTo pos (starEach (e :: es) X.env)).any (·.1) || (backToKw pos (keywordEach kws X.env)).any (·.1.isNone)) = false := by rfl) :
    XE X Rs W (.Call (.Name x p) (e :: es) kws pos) (mCallK mf Rc ps.length nu ks.length pm ma mk) := by
  obtain ⟨t_0, ha⟩ := ha
  obtain ⟨t_1, hkw⟩ := hkw
  exact ⟨_, de_callK Fn hr hg hm hk hb hx ha hkw hall hks hdb he hpl⟩
end
section
variable {K : PySem.W.Frag} {Rs : List Nat} {F : Fr} {env : En} {σ : L2.St} {G H : Hp}
end
section
variable {K : PySem.W.Frag}
end
section
variable {X : Cx} {Rs : List Nat} {W : WX} {a b : Expr} {ta tb : TE} {ma mb : MO} {pos p2 : Pos}
theorem xe_ix (ha : XO X Rs W a ma) (hb : XO X Rs W b mb) (hs : PlainIx b := by intro _ _; rfl) : XE X Rs W (.Subscript a b pos) (mOp gIx ma mb) := by
  obtain ⟨t_0, ha⟩ := ha
  obtain ⟨t_1, hb⟩ := hb
  exact ⟨_, de_ix ha hb hs⟩
theorem xp_none : XP X Rs W none pNone := by
  exact ⟨_, dp_none⟩
theorem xp_some (ha : XO X Rs W a ma) : XP X Rs W (some a) (pSome ma) := by
  obtain ⟨t_0, ha⟩ := ha
  exact ⟨_, dp_some ha⟩
theorem xe_slice {lo hi : Option Expr} {ml mh : MP} (ha : XO X Rs W a ma) (hl : XP X Rs W lo ml) (hh : XP X Rs W hi mh) : XE X Rs W (.Subscript a (.Slice lo hi none p2) pos) (mSl ma ml mh) := by
  obtain ⟨t_0, ha⟩ := ha
  obtain ⟨t_1, hl⟩ := hl
  obtain ⟨t_2, hh⟩ := hh
  exact ⟨_, de_slice ha hl hh⟩
end
section
variable {prog : Program} {w : World} {A : Around} {R : Result → Shared → Prop} {I : Addr} {fp wr : List Addr} {n : Nat} {P : Nat → Value → Prop} {St : Nat → Heap → Prop} {E : Value → Shared → Prop} {s : Shared}
end
section
variable {X : Cx} {Rs : List Nat} {W : WX} {x : Str} {p pos : Pos} {e : Expr} {es : List Expr} {t tk : TA} {ma mk : MA} {r : List V → Hp → VK → Prop} {g : OpN} {id T : String}
theorem xe_b (hc : CallR X (.builtin id) r) (hs : SemC X.K r g) (hg : Gl X x) (hm : X.mg x = none) (hv : bootBuiltins x = some (.builtin id)) (ha : XA X Rs W (e :: es) ma) (hn : x ≠ "__name__" := by decide) (hdb : (x == ("__debug__" : Str)) = false := by decide)
    (he : starEach (e :: es) X.env = (false, eval e X.env) :: starEach es X.env := by rfl) (hpl : (backTo pos (starEach es X.env)).any (·.1) = false := by rfl) : XE X Rs W (.Call (.Name x p) (e :: es) [] pos) (mB g ma) := by
  obtain ⟨t_0, ha⟩ := ha
  exact ⟨_, de_b hc hs hg hm hv ha hn hdb he hpl⟩
theorem xe_t (hc : CallR X (.type T) r) (hs : SemC X.K r g) (hg : Gl X x) (hm : X.mg x = none) (hv : bootBuiltins x = some (.type T)) (ha : XA X Rs W (e :: es) ma) (hn : x ≠ "__name__" := by decide) (hdb : (x == ("__debug__" : Str)) = false := by decide)
    (he : starEach (e :: es) X.env = (false, eval e X.env) :: starEach es X.env := by rfl) (hpl : (backTo pos (starEach es X.env)).any (·.1) = false := by rfl) : XE X Rs W (.Call (.Name x p) (e :: es) [] pos) (mB g ma) := by
  obtain ⟨t_0, ha⟩ := ha
  exact ⟨_, de_t hc hs hg hm hv ha hn hdb he hpl⟩
theorem xe_ty (hg : Gl X x) (hm : X.mg x = none) (hv : bootBuiltins x = some (.type T)) (hn : x ≠ "__name__" := by decide) (hd : (x == ("__debug__" : Str)) = false := by decide) : XE X Rs W (.Name x pos) (mC (.val (.ty T))) := by
  exact ⟨_, de_ty hg hm hv hn hd⟩
end
section
variable {K : PySem.W.Frag}
end
section
variable {X : Cx} {Rs : List Nat} {W : WX} {x : Str} {p pos : Pos} {e : Expr} {es : List Expr} {kws : List Keyword} {t tk : TA} {ma mk : MA}
theorem xe_maxD (hc : X.calm = true) (hg : Gl X "max") (hm : X.mg "max" = none) (ha : XA X Rs W (e :: es) ma) (hk : XK1 X Rs W kws mk)
    (he : backTo pos (starEach (e :: es) X.env) = (false, eval e X.env) :: backTo pos (starEach es X.env) := by rfl) (hpl : (backTo pos (starEach (e :: es) X.env)).any (·.1) = false := by rfl)
    (hall : (backToKw pos (keywordEach kws X.env)).all (·.1.isSome) = true := by rfl) (hnone : (backToKw pos (keywordEach kws X.env)).any (·.1.isNone) = false := by rfl) (hks : (backToKw pos (keywordEach kws X.env)).filterMap (·.1) = [Str.ofString "default"] := by rfl) :
    XE X Rs W (.Call (.Name "max" p) (e :: es) kws pos) (mBD maxI ma mk) := by
  obtain ⟨t_0, ha⟩ := ha
  obtain ⟨t_1, hk⟩ := hk
  exact ⟨_, de_maxD hc hg hm ha hk he hpl hall hnone hks⟩
theorem xe_minD (hc : X.calm = true) (hg : Gl X "min") (hm : X.mg "min" = none) (ha : XA X Rs W (e :: es) ma) (hk : XK1 X Rs W kws mk)
    (he : backTo pos (starEach (e :: es) X.env) = (false, eval e X.env) :: backTo pos (starEach es X.env) := by rfl) (hpl : (backTo pos (starEach (e :: es) X.env)).any (·.1) = false := by rfl)
    (hall : (backToKw pos (keywordEach kws X.env)).all (·.1.isSome) = true := by rfl) (hnone : (backToKw pos (keywordEach kws X.env)).any (·.1.isNone) = false := by rfl) (hks : (backToKw pos (keywordEach kws X.env)).filterMap (·.1) = [Str.ofString "default"] := by rfl) :
    XE X Rs W (.Call (.Name "min" p) (e :: es) kws pos) (mBD minI ma mk) := by
  obtain ⟨t_0, ha⟩ := ha
  obtain ⟨t_1, hk⟩ := hk
  exact ⟨_, de_minD hc hg hm ha hk he hpl hall hnone hks⟩
end
section
variable (P : Program) (w : World) (K : PySem.W.Frag) (mg : Str → Option Value) (base : Heap)
end
section
variable {P : Program} {w : World} {K : PySem.W.Frag} {mg : Str → Option Value} {base : Heap}
end
section
variable {X : Cx} {Rs : List Nat} {W : WX} {k : Nat} {ps : List Str} {mf : MF} {Rc : List Nat} {x : Str} {st : Stmt} {p pos : Pos} {e : Expr} {es : List Expr} {ma mk : MA} {ta tk : TA}
theorem xe_callH (h : Has X.prog X.w X.K X.mg X.base x st ps k Rc mf) (hr : Room k X.A) (hg : Gl X x) (hx : ∀ σ, PassesAt (L2.CX X.prog X.w) X σ (WE W σ)) (ha : XA X Rs W (e :: es) ma)
    (hdb : (x == ("__debug__" : Str)) = false := by decide) (he : starEach (e :: es) X.env = (false, eval e X.env) :: starEach es X.env := by rfl) (hpl : (backTo pos (starEach es X.env)).any (·.1) = false := by rfl) :
    XE X Rs W (.Call (.Name x p) (e :: es) [] pos) (mCall mf Rc ps.length ma) := by
  obtain ⟨t_0, ha⟩ := ha
  exact ⟨_, de_callH h hr hg hx ha hdb he hpl⟩
theorem xe_callKH0 {ks : List Str} {pm : List Nat} {kws : List Keyword} (h : Has X.prog X.w X.K X.mg X.base x st ps k Rc mf) (hr : Room k X.A) (hg : Gl X x) (hx : ∀ σ, PassesAt (L2.CX X.prog X.w) X σ (WE W σ)) (hb : KOf x st ps ks 0 pm) (hkw : XK1 X Rs W kws mk)
    (hall : (backToKw pos (keywordEach kws X.env)).all (·.1.isSome) = true := by rfl) (hks : (backToKw pos (keywordEach kws X.env)).filterMap (·.1) = ks := by rfl) (hdb : (x == ("__debug__" : Str)) = false := by decide)
    (hpl : ((backTo pos (starEach [] X.env)).any (·.1) || (backToKw pos (keywordEach kws X.env)).any (·.1.isNone)) = false := by rfl) :
    XE X Rs W (.Call (.Name x p) [] kws pos) (mCallK mf Rc ps.length 0 ks.length pm aNil mk) := by
  obtain ⟨t_0, hkw⟩ := hkw
  exact ⟨_, de_callKH0 h hr hg hx hb hkw hall hks hdb hpl⟩
theorem xe_callKH {ks : List Str} {nu : Nat} {pm : List Nat} {kws : List Keyword} (h : Has X.prog X.w X.K X.mg X.base x st ps k Rc mf) (hr : Room k X.A) (hg : Gl X x) (hx : ∀ σ, PassesAt (L2.CX X.prog X.w) X σ (WE W σ)) (hb : KOf x st ps ks nu pm) (ha : XA X Rs W (e :: es) ma) (hkw : XK1 X Rs W kws mk)
    (hall : (backToKw pos (keywordEach kws X.env)).all (·.1.isSome) = true := by rfl) (hks : (backToKw pos (keywordEach kws X.env)).filterMap (·.1) = ks := by rfl) (hdb : (x == ("__debug__" : Str)) = false := by decide)
    (he : starEach (e :: es) X.env = (false, eval e X.env) :: starEach es X.env := by rfl) (hpl : ((backTo pos (starEach (e :: es) X.env)).any (·.1) || (backToKw pos (keywordEach kws X.env)).any (·.1.isNone)) = false := by rfl) :
    XE X Rs W (.Call (.Name x p) (e :: es) kws pos) (mCallK mf Rc ps.length nu ks.length pm ma mk) := by
  obtain ⟨t_0, ha⟩ := ha
  obtain ⟨t_1, hkw⟩ := hkw
  exact ⟨_, de_callKH h hr hg hx hb ha hkw hall hks hdb he hpl⟩
theorem xe_constI {i : Int} (hg : Gl X x) (h : ∃ t, X.mg x = some (.int i t)) (hd : (x == ("__debug__" : Str)) = false := by decide) : XE X Rs W (.Name x pos) (mC (.int i)) := by
  exact ⟨_, de_constI hg h hd⟩
theorem xe_revS {me : MO} {kk : Nat} {p1 p2 p3 : Pos} (he : XO X Rs W e me) : XE X Rs W (.Subscript e (.Slice none none (some (.UnaryOp .USub (.Constant (.int 1) kk p1) p2)) p3) pos) (mRevS me) := by
  obtain ⟨t_0, he⟩ := he
  exact ⟨_, de_revS he⟩
end
section
variable {X : Cx} {Rs : List Nat} {W : WX} {x : Str} {p pos : Pos} {e : Expr} {es : List Expr} {t tk : TA} {ma mk : MA} {r : PySem.W.Frag → List V → Hp → VK → Prop} {g : OpN} {id T : String}
theorem xe_zall (hcalm : X.calm = true) (hg : Gl X "all") (hm : X.mg "all" = none) (ha : XA X Rs W (e :: es) ma)
    (he : starEach (e :: es) X.env = (false, eval e X.env) :: starEach es X.env := by rfl) (hpl : (backTo pos (starEach es X.env)).any (·.1) = false := by rfl) : XE X Rs W (.Call (.Name "all" p) (e :: es) [] pos) (mB gAllB ma) := by
  obtain ⟨t_0, ha⟩ := ha
  exact ⟨_, de_zall hcalm hg hm ha he hpl⟩
theorem xe_zany (hcalm : X.calm = true) (hg : Gl X "any") (hm : X.mg "any" = none) (ha : XA X Rs W (e :: es) ma)
    (he : starEach (e :: es) X.env = (false, eval e X.env) :: starEach es X.env := by rfl) (hpl : (backTo pos (starEach es X.env)).any (·.1) = false := by rfl) : XE X Rs W (.Call (.Name "any" p) (e :: es) [] pos) (mB gAny ma) := by
  obtain ⟨t_0, ha⟩ := ha
  exact ⟨_, de_zany hcalm hg hm ha he hpl⟩
theorem xe_zsum (hcalm : X.calm = true) (hg : Gl X "sum") (hm : X.mg "sum" = none) (ha : XA X Rs W (e :: es) ma)
    (he : starEach (e :: es) X.env = (false, eval e X.env) :: starEach es X.env := by rfl) (hpl : (backTo pos (starEach es X.env)).any (·.1) = false := by rfl) : XE X Rs W (.Call (.Name "sum" p) (e :: es) [] pos) (mB gSum ma) := by
  obtain ⟨t_0, ha⟩ := ha
  exact ⟨_, de_zsum hcalm hg hm ha he hpl⟩
theorem xe_zmax (hcalm : X.calm = true) (hg : Gl X "max") (hm : X.mg "max" = none) (ha : XA X Rs W (e :: es) ma)
    (he : starEach (e :: es) X.env = (false, eval e X.env) :: starEach es X.env := by rfl) (hpl : (backTo pos (starEach es X.env)).any (·.1) = false := by rfl) : XE X Rs W (.Call (.Name "max" p) (e :: es) [] pos) (mB gMax ma) := by
  obtain ⟨t_0, ha⟩ := ha
  exact ⟨_, de_zmax hcalm hg hm ha he hpl⟩
theorem xe_zmin (hcalm : X.calm = true) (hg : Gl X "min") (hm : X.mg "min" = none) (ha : XA X Rs W (e :: es) ma)
    (he : starEach (e :: es) X.env = (false, eval e X.env) :: starEach es X.env := by rfl) (hpl : (backTo pos (starEach es X.env)).any (·.1) = false := by rfl) : XE X Rs W (.Call (.Name "min" p) (e :: es) [] pos) (mB gMin ma) := by
  obtain ⟨t_0, ha⟩ := ha
  exact ⟨_, de_zmin hcalm hg hm ha he hpl⟩
end
section
variable {X : Cx} {Rs : List Nat} {W : WX} {a b c : Expr} {pos : Pos} {t_ha : TA}
theorem xs_par3 (i j l : Nat) {x y z : Str} {md : MD} {px py pz pt pt2 : Pos} {kt k2} (hc : X.calm = true) (hN : X.N.Nodup) (ha : XD X Rs W [a, b, c] md) (hR : ∀ q ∈ [i, j, l], q ∉ Rs := by decide) (hi : X.N[i]? = some x := by rfl) (hj : X.N[j]? = some y := by rfl) (hl : X.N[l]? = some z := by rfl) (hij : i ≠ j := by decide) (hil : i ≠ l := by decide) (hjl : j ≠ l := by decide)
    (hx : X.env.scope.names.lookup x = some .local := by rfl) (hy : X.env.scope.names.lookup y = some .local := by rfl) (hz : X.env.scope.names.lookup z = some .local := by rfl) (hw : swappedStores [.Tuple [.Name x px, .Name y py, .Name z pz] kt pt] (.Tuple [a, b, c] k2 pt2) X.env = pure (some [x, y, z]) := by rfl)
    (hs : swapsWithSole [.Tuple [.Name x px, .Name y py, .Name z pz] kt pt] (.Tuple [a, b, c] k2 pt2) pos.line X.env = pure false := by rfl) : XS X Rs W (.Assign [.Tuple [.Name x px, .Name y py, .Name z pz] kt pt] (.Tuple [a, b, c] k2 pt2) pos) (mPar [i, j, l] md) := by
  obtain ⟨t_0, ha⟩ := ha
  exact ⟨_, ds_par3 i j l hc hN ha hR hi hj hl hij hil hjl hx hy hz hw hs⟩
end
theorem xi_sq {X : Cx} {Rs : List Nat} {W : WX} {tg e : Expr} {m : ME} (h : XE X Rs W e m) : XI X Rs W tg e (iSq m) := by
  obtain ⟨t_0, h⟩ := h
  exact ⟨_, di_sq h⟩
section
variable {K : PySem.W.Frag} {Rs : List Nat} {F : Fr} {env : En} {σ : L2.St} {G H : Hp}
end
section
variable {X : Cx} {Rs : List Nat} {W : WX} {k : Nat} {ps : List Str} {mf : MF} {x : Str} {st : Stmt} {p pos : Pos} {e : Expr} {es : List Expr} {ma mk : MA} {ta tk : TA}
theorem xe_callHB (h : Has X.prog X.w X.K X.mg X.base x st ps k [] mf) (hr : Room k X.A) (hg : Gl X x) (hx : ∀ σ, PassesAt (L2.CX X.prog X.w) X σ (WE W σ)) (ha : XA X Rs W (e :: es) ma)
    (hdb : (x == ("__debug__" : Str)) = false := by decide) (he : starEach (e :: es) X.env = (false, eval e X.env) :: starEach es X.env := by rfl) (hpl : (backTo pos (starEach es X.env)).any (·.1) = false := by rfl) :
    XE X Rs W (.Call (.Name x p) (e :: es) [] pos) (mCallB mf ps.length ma) := by
  obtain ⟨t_0, ha⟩ := ha
  exact ⟨_, de_callHB h hr hg hx ha hdb he hpl⟩
theorem xe_callKHB {ks : List Str} {nu : Nat} {pm : List Nat} {kws : List Keyword} (h : Has X.prog X.w X.K X.mg X.base x st ps k [] mf) (hr : Room k X.A) (hg : Gl X x) (hx : ∀ σ, PassesAt (L2.CX X.prog X.w) X σ (WE W σ)) (hb : KOf x st ps ks nu pm) (ha : XA X Rs W (e :: es) ma) (hkw : XK1 X Rs W kws mk)
    (hall : (backToKw pos (keywordEach kws X.env)).all (·.1.isSome) = true := by rfl) (hks : (backToKw pos (keywordEach kws X.env)).filterMap (·.1) = ks := by rfl) (hdb : (x == ("__debug__" : Str)) = false := by decide)
    (he : starEach (e :: es) X.env = (false, eval e X.env) :: starEach es X.env := by rfl) (hpl : ((backTo pos (starEach (e :: es) X.env)).any (·.1) || (backToKw pos (keywordEach kws X.env)).any (·.1.isNone)) = false := by rfl) :
    XE X Rs W (.Call (.Name x p) (e :: es) kws pos) (mCallKB mf ps.length nu ks.length pm ma mk) := by
  obtain ⟨t_0, ha⟩ := ha
  obtain ⟨t_1, hkw⟩ := hkw
  exact ⟨_, de_callKHB h hr hg hx hb ha hkw hall hks hdb he hpl⟩
theorem xe_callKHB0 {ks : List Str} {pm : List Nat} {kws : List Keyword} (h : Has X.prog X.w X.K X.mg X.base x st ps k [] mf) (hr : Room k X.A) (hg : Gl X x) (hx : ∀ σ, PassesAt (L2.CX X.prog X.w) X σ (WE W σ)) (hb : KOf x st ps ks 0 pm) (hkw : XK1 X Rs W kws mk)
    (hall : (backToKw pos (keywordEach kws X.env)).all (·.1.isSome) = true := by rfl) (hks : (backToKw pos (keywordEach kws X.env)).filterMap (·.1) = ks := by rfl) (hdb : (x == ("__debug__" : Str)) = false := by decide)
    (hpl : ((backTo pos (starEach [] X.env)).any (·.1) || (backToKw pos (keywordEach kws X.env)).any (·.1.isNone)) = false := by rfl) :
    XE X Rs W (.Call (.Name x p) [] kws pos) (mCallKB mf ps.length 0 ks.length pm aNil mk) := by
  obtain ⟨t_0, hkw⟩ := hkw
  exact ⟨_, de_callKHB0 h hr hg hx hb hkw hall hks hdb hpl⟩
end
theorem xs_extend {X : Cx} {Rs : List Nat} {W : WX} {e : Expr} {pos : Pos} (i : Nat) {x : Str} {ma : MO} {pn pa pc : Pos} (ha : XO X Rs W e ma) (hN : X.N[i]? = some x := by rfl) (hv : Vis X.env.scope x := by first | exact Or.inl rfl | exact Or.inr (Or.inl rfl) | exact Or.inr (Or.inr rfl))
    (hd : (x == ("__debug__" : Str)) = false := by decide) (hcd : (x == ("__classdict__" : Str)) = false := by decide)
    (hfew : ((backTo pc (starEach [e] X.env)).all (fun x => !x.1) && (backToKw pc (keywordEach [] X.env)).all (fun x => x.1.isSome) && decide ([e].length + ([] : List Keyword).length + (if ([] : List Keyword).isEmpty then 0 else 1) < 30)) = true := by rfl)
    (hline : (pa.endLine == pc.line) = true := by rfl) (hs : starEach [e] X.env = [(false, eval e X.env)] := by rfl) (hsw : swapsWith (.Call (.Attribute (.Name x pn) "extend" pa) [e] [] pc) none pos.line X.env = pure false := by rfl) :
    XS X Rs W (.Expr (.Call (.Attribute (.Name x pn) "extend" pa) [e] [] pc) pos) (mExt i ma) := by
  obtain ⟨t_0, ha⟩ := ha
  exact ⟨_, ds_extend i ha hN hv hd hcd hfew hline hs hsw⟩
section
variable {K : PySem.W.Frag} {Rs : List Nat} {W : WX} {mi mi1 : MI} {mg mg1 : MG} {mt mt1 : MT} {me : ME} {gs gs1 vs vs1 : List Nat}
end
theorem xa_star {X : Cx} {Rs : List Nat} {W : WX} {e : Expr} {es : List Expr} {p : Pos} {m : ME} {mr : MA} (he : XE X Rs W e m) (hr : XA X Rs W es mr) (hs : starEach (.Starred e p :: es) X.env = (true, eval e X.env) :: starEach es X.env := by rfl) : XA X Rs W (.Starred e p :: es) (aStar m mr) := by
  obtain ⟨t_0, he⟩ := he
  obtain ⟨t_1, hr⟩ := hr
  exact ⟨_, da_star he hr hs⟩
/-! ### a block's parts: one reading for every block -/
def semE (K : PySem.W.Frag) (Rs : List Nat) (W : WX) (m : ME) : TE := fun σ H Q => ∃ (F : Fr) (env : En) (G : Hp) (Qm : DV → En → Prop) (Em : EmT), Ok K Rs F env σ G H ∧ Link K Rs F W Em ∧ m env Qm Em ∧
  ∀ r env' v G' H', Ok K Rs F env' σ G' H' → Ex G G' → RRep K F env' σ G' H' r v → Qm r env' → Q v H'
def semT (K : PySem.W.Frag) (Rs : List Nat) (W : WX) (m : MT) : TT := fun σ H Q => ∃ (F : Fr) (env : En) (G : Hp) (Qm : Bool → En → Prop) (Em : EmT), Ok K Rs F env σ G H ∧ Link K Rs F W Em ∧ m env Qm Em ∧
  ∀ b env' G' H', Ok K Rs F env' σ G' H' → Ex G G' → Qm b env' → Q b H'
def semI (K : PySem.W.Frag) (Rs : List Nat) (W : WX) (m : MI) : TI := fun σ H R => ∃ (F : Fr) (env : En) (G : Hp) (Qm : List D → En → Prop) (Em : EmT), Ok K Rs F env σ G H ∧ Link K Rs F W Em ∧ m env Qm Em ∧
  ∀ items env' J G' H', Ok K Rs F env' σ G' H' → Ex G G' → Seq K J G' items → Qm items env' → R J H'
def semG (K : PySem.W.Frag) (Rs : List Nat) (m : MG) (gs : List Nat) : TG := fun v σ H Q => ∃ (F : Fr) (env : En) (G : Hp) (d : D) (Qm : En → Prop), Ok K Rs F env σ G H ∧ Rep K G d v ∧ m d env Qm ∧
  ∀ env' σ', Ok K Rs F env' σ' G H → σ'.length = σ.length → (∀ i, i ∉ gs → σ'[i]? = σ[i]?) → Qm env' → Q σ' H
section
variable {X : Cx} {Rs : List Nat} {W : WX} {mi : MI} {mg : MG} {mt : MT} {me : ME} {gs : List Nat}
theorem XE.uni {e : Expr} (h : XE X Rs W e me) : DE X Rs W e (semE X.K Rs W me) me := by
  obtain ⟨t, h⟩ := h
  exact ⟨⟨fun pins s σ H Q I ⟨F, env, G, Qm, Em, ok, lk, hm, q⟩ => h.p.run pins s σ H Q I (h.s F env σ G H Q Qm Em ok lk hm q)⟩, fun F env σ G H Q Qm Em ok lk hm q => ⟨F, env, G, Qm, Em, ok, lk, hm, q⟩⟩
theorem XTs.uni {e : List Expr} (h : XTs X Rs W e mt) : DTs X Rs W e (semT X.K Rs W mt) mt := by
  obtain ⟨t, h⟩ := h
  exact ⟨⟨fun pins s σ H Q I ⟨F, env, G, Qm, Em, ok, lk, hm, q⟩ => h.p.run pins s σ H Q I (h.s F env σ G H Q Qm Em ok lk hm q)⟩, fun F env σ G H Q Qm Em ok lk hm q => ⟨F, env, G, Qm, Em, ok, lk, hm, q⟩⟩
theorem XG.uni {e : Expr} (h : XG X Rs e mg gs) : DG X Rs e (semG X.K Rs mg gs) mg gs := by
  obtain ⟨t, h⟩ := h
  exact ⟨⟨fun pins s σ H v u Q I r ⟨F, env, G, d, Qm, ok, rd, hm, q⟩ => h.p.run pins s σ H v u Q I r (h.s F env σ G H d v Q Qm ok rd hm q)⟩, fun F env σ G H d v Q Qm ok rd hm q => ⟨F, env, G, d, Qm, ok, rd, hm, q⟩⟩
theorem XI.uni {tg e : Expr} (h : XI X Rs W tg e mi) : DI X Rs W tg e (semI X.K Rs W mi) mi := by
  obtain ⟨t, h⟩ := h
  exact ⟨⟨fun pins s σ H R I ⟨F, env, G, Qm, Em, ok, lk, hm, q⟩ => h.p.run pins s σ H R I (h.s F env σ G H R Qm Em ok lk hm q)⟩, fun F env σ G H R Qm Em ok lk hm q => ⟨F, env, G, Qm, Em, ok, lk, hm, q⟩⟩
variable {elt tg iter tg1 iter1 : Expr} {ifs ifs1 : List Expr} {scope : Scope} {own : List (Str × Nat)} {pos : Pos}
theorem xe_lc2 {mi1 : MI} {mg1 : MG} {mt1 : MT} {gs1 vs1 : List Nat} (hc : X.calm = true) (hN : X.N.Nodup) (hi : XI X Rs W tg iter mi) (ok : BlkOk X.N X.env.scope scope own) (hg : ∀ s H C cl fp, XG (Blk X scope s H C cl fp) Rs tg mg gs)
    (ht : ∀ s H C cl fp, XTs (Blk X scope s H C cl fp) Rs WN ifs mt) (hi1 : ∀ s H C cl fp, XI (Blk X scope s H C cl fp) Rs WN tg1 iter1 mi1) (hg1 : ∀ s H C cl fp, XG (Blk X scope s H C cl fp) Rs tg1 mg1 gs1)
    (ht1 : ∀ s H C cl fp, XTs (Blk X scope s H C cl fp) Rs WN ifs1 mt1) (he : ∀ s H C cl fp, XE (Blk X scope s H C cl fp) Rs WN elt me) (hv : ∀ i ∈ vs1, i ∈ own.map (·.2) := by decide)
    (hR : ∀ i ∈ own.map (·.2), i ∉ Rs := by decide) (hgs : ∀ i ∈ gs, i ∈ own.map (·.2) := by decide) (hgs1 : ∀ i ∈ gs1, i ∈ vs1 := by decide) (hs : ∀ x, foldedSetIterable iter X.env x = pure x := by intro _; rfl) (hs1 : ∀ env x, foldedSetIterable iter1 env x = pure x := by intro _ _; rfl) :
    XE X Rs W (.ListComp elt [⟨tg, iter, ifs, 0⟩, ⟨tg1, iter1, ifs1, 0⟩] scope pos) (mLc2 (own.map (·.2)) vs1 mi mg mt mi1 mg1 mt1 me) := by
  obtain ⟨t0, hi⟩ := hi
  exact ⟨_, pe_lc2 (g := semG X.K Rs mg gs) (tt := semT X.K Rs WN mt) (wi1 := semI X.K Rs WN mi1) (g1 := semG X.K Rs mg1 gs1) (tt1 := semT X.K Rs WN mt1) (te := semE X.K Rs WN me) hc hN hi.p ok hv (fun s H C cl fp => (hg s H C cl fp).uni.p) (fun s H C cl fp => (ht s H C cl fp).uni.p) (fun s H C cl fp => (hi1 s H C cl fp).uni.p) (fun s H C cl fp => (hg1 s H C cl fp).uni.p) (fun s H C cl fp => (ht1 s H C cl fp).uni.p) (fun s H C cl fp => (he s H C cl fp).uni.p) hs hs1,
    sem_lc2 hR hgs (fun i h => hR i (hv i h)) hgs1 hi.s (hg X.s_0 X.H_0 0 [] []).uni.s (ht X.s_0 X.H_0 0 [] []).uni.s (hi1 X.s_0 X.H_0 0 [] []).uni.s (hg1 X.s_0 X.H_0 0 [] []).uni.s (ht1 X.s_0 X.H_0 0 [] []).uni.s (he X.s_0 X.H_0 0 [] []).uni.s⟩
theorem xe_lc (hc : X.calm = true) (hN : X.N.Nodup) (hi : XI X Rs W tg iter mi) (ok : BlkOk X.N X.env.scope scope own) (hg : ∀ s H C cl fp, XG (Blk X scope s H C cl fp) Rs tg mg gs)
    (ht : ∀ s H C cl fp, XTs (Blk X scope s H C cl fp) Rs WN ifs mt) (he : ∀ s H C cl fp, XE (Blk X scope s H C cl fp) Rs WN elt me)
    (hR : ∀ i ∈ own.map (·.2), i ∉ Rs := by decide) (hgs : ∀ i ∈ gs, i ∈ own.map (·.2) := by decide) (hs : ∀ x, foldedSetIterable iter X.env x = pure x := by intro _; rfl) :
    XE X Rs W (.ListComp elt [⟨tg, iter, ifs, 0⟩] scope pos) (mLc (own.map (·.2)) mi mg mt me) := by
  obtain ⟨t0, hi⟩ := hi
  exact ⟨_, de_lc (t1 := semG X.K Rs mg gs) (t2 := semT X.K Rs WN mt) (t3 := semE X.K Rs WN me) hc hN hi ok (fun s H C cl fp => (hg s H C cl fp).uni) (fun s H C cl fp => (ht s H C cl fp).uni) (fun s H C cl fp => (he s H C cl fp).uni) hR hgs hs⟩
theorem xs_setLc (i : Nat) {y : Str} {py : Pos} {spos : Pos} (hc : X.calm = true) (hN : X.N.Nodup) (hi : XI X Rs W tg iter mi) (ok : BlkOk X.N X.env.scope scope own) (hg : ∀ s H C cl fp, XG (Blk X scope s H C cl fp) Rs tg mg gs)
    (ht : ∀ s H C cl fp, XTs (Blk X scope s H C cl fp) Rs WN ifs mt) (he : ∀ s H C cl fp, XE (Blk X scope s H C cl fp) Rs WN elt me)
    (hsw : swapsWith (.ListComp elt [⟨tg, iter, ifs, 0⟩] scope pos) (some (.Name y py)) spos.line X.env = pure true) (hy : X.N[i]? = some y := by rfl) (hyl : X.env.scope.names.lookup y = some .local := by rfl) (hRi : i ∉ Rs := by decide)
    (hR : ∀ i ∈ own.map (·.2), i ∉ Rs := by decide) (hgs : ∀ i ∈ gs, i ∈ own.map (·.2) := by decide) (hs : ∀ x, foldedSetIterable iter X.env x = pure x := by intro _; rfl) :
    XS X Rs W (.Assign [.Name y py] (.ListComp elt [⟨tg, iter, ifs, 0⟩] scope pos) spos) (mSet i (mLc (own.map (·.2)) mi mg mt me)) := by
  obtain ⟨t0, hi⟩ := hi
  exact ⟨_, ds_setLc (t1 := semG X.K Rs mg gs) (t2 := semT X.K Rs WN mt) (t3 := semE X.K Rs WN me) i hc hN hi ok (fun s H C cl fp => (hg s H C cl fp).uni) (fun s H C cl fp => (ht s H C cl fp).uni) (fun s H C cl fp => (he s H C cl fp).uni) hsw hy hyl hRi hR hgs hs⟩
end
section
variable {P : Program} {w : World} {K : PySem.W.Frag} {mg : Str → Option Value} {base : Heap}
/-- a recursion's ground -/
theorem has_bot {x : Str} {st : Stmt} {ps : List Str} {Rs : List Nat} (k : Nat) (A0 : At K mg x st)
    (hb : ∀ (kV doc pm : Value) (an : Option Addr) (cdv ct : Value) (us : List Value), us.length = ps.length → bindArgs (PySem.W.fnOf x x (defArgs st) (defBody st) (defScope st) .none kV doc pm an cdv ct) ⟨us, []⟩ = pure (ps.zip us)) :
    Has P w K mg base x st ps k Rs (fun _ _ _ => False) := by
  obtain ⟨a, d, g, F⟩ := A0
  exact ⟨a, d, g, F, F.binds hb, ⟨fun vs H Q E h => h.1, fun A outer s H args us vs Q E hr h0 hb hv h => by
    obtain ⟨_, _, _, _, _, _, _, h, _⟩ := h
    exact h.elim⟩⟩
end
end VL
/-! VL: the mirrors as programs: z.. computes what m.. asks; C says so. -/
namespace VL
open PySem PySem.Spec PyProof.Rows L2
abbrev Z (α : Type) := En → Option (α × En)
def C {α : Type} (m : En → (α → En → Prop) → EmT → Prop) (z : Z α) : Prop := ∀ env a e, z env = some (a, e) → ∀ Q Em, Q a e → m env Q Em
/-! ### looks -/
def lookz (env : En) (a : Arg) : Option D := match a with
  | .val d => some d.s
  | .ref i => match env.getD i .u with
    | .f d => some d.s
    | .o ds => some (.lst ds)
    | .od ks ds => some (.dct ks ds)
    | .u => none
theorem lookz_ok {env : En} {a : Arg} {d : D} (h : lookz env a = some d) {k : D → Prop} (hk : k d) : look env a k := by
  unfold lookz at h
  unfold look
  cases a with
  | val x => cases h; exact hk
  | ref i =>
    dsimp only at h ⊢
    split at h <;> cases h <;> rename_i e <;> first | exact hk | (rw [e]; exact hk)
def fzz : DV → Option D
  | .f d => some d
  | .o ds => some (.lst ds)
  | .od ks ds => some (.dct ks ds)
  | .u => none
theorem fzz_ok {r : DV} {d : D} (h : fzz r = some d) {k : D → Prop} (hk : k d) : fz r k := by
  cases r <;> cases h <;> exact hk
def boolz : DV → Option Bool
  | .f (.bl b) => some b
  | _ => none
theorem boolz_ok {r : DV} {b : Bool} (h : boolz r = some b) {k : Bool → Prop} (hk : k b) : bool_ r k := by
  unfold boolz at h
  split at h <;> cases h
  exact hk
def allVz : List Arg → Option (List D)
  | [] => some []
  | .val d :: as => (allVz as).bind fun ds => some (d :: ds)
  | .ref _ :: _ => none
theorem allVz_ok : ∀ {as : List Arg} {ds : List D}, allVz as = some ds → ∀ {k : List D → Prop}, k ds → allV as k
  | [], _, h, _, hk => by cases h; exact hk
  | .val d :: as, _, h, k, hk => by
    unfold allVz at h
    cases q : allVz as with
    | none => rw [q] at h; cases h
    | some es =>
      rw [q] at h
      cases h
      exact allVz_ok (k := fun ds => k (d :: ds)) q hk
  | .ref _ :: _, _, h, _, _ => by cases h
def lookAllz (env : En) : List Arg → Option (List D)
  | [] => some []
  | a :: as => (lookz env a).bind fun d => (lookAllz env as).bind fun ds => some (d :: ds)
theorem lookAllz_ok {env : En} : ∀ {as : List Arg} {ds : List D}, lookAllz env as = some ds → ∀ {k : List D → Prop}, k ds → lookAll env as k
  | [], _, h, _, hk => by cases h; exact hk
  | a :: as, _, h, k, hk => by
    unfold lookAllz at h
    cases q : lookz env a with
    | none => rw [q] at h; cases h
    | some d =>
      cases q2 : lookAllz env as with
      | none => rw [q, q2] at h; cases h
      | some es =>
        rw [q, q2] at h
        cases h
        exact lookz_ok q (lookAllz_ok (k := fun ds => k (d :: ds)) q2 hk)
def reqz {α : Type} (c : Prop) [Decidable c] (x : Option α) : Option α := if c then x else none
theorem reqz_of {α : Type} {c : Prop} [Decidable c] {x : Option α} {a : α} (h : reqz c x = some a) : c ∧ x = some a := by
  unfold reqz at h
  by_cases e : c
  · rw [if_pos e] at h; exact ⟨e, h⟩
  · rw [if_neg e] at h; cases h
theorem bind_of {α β : Type} {x : Option α} {f : α → Option β} {b : β} (h : x.bind f = some b) : ∃ a, x = some a ∧ f a = some b := by
  cases x with
  | none => cases h
  | some a => exact ⟨a, rfl, h⟩
/-! ### expressions -/
def zC (d : D) : Z DV := fun env => some (.f d, env)
theorem c_C {d : D} : C (mC d) (zC d) := fun env a e h Q Em q => by cases h; exact q
def zoVar (i : Nat) : Z Arg := fun env => match env.getD i .u with | .u => none | _ => some (.ref i, env)
theorem c_oVar {i : Nat} : C (oVar i) (zoVar i) := fun env a e h Q Em q => by
  unfold zoVar at h
  unfold oVar
  generalize env.getD i .u = x at h ⊢
  cases x <;> cases h <;> exact q
def zoVal (z : Z DV) : Z Arg := fun env => (z env).bind fun p => (fzz p.1).bind fun d => some (.val d, p.2)
theorem c_oVal {m : ME} {z : Z DV} (h : C m z) : C (oVal m) (zoVal z) := fun env a e hz Q Em q => by
  obtain ⟨p, h1, h2⟩ := bind_of hz
  obtain ⟨d, h3, h4⟩ := bind_of h2
  cases h4
  exact h env p.1 p.2 h1 _ Em (fzz_ok h3 q)
def zVar (i : Nat) : Z DV := fun env => match env.getD i .u with
  | .f d => some (.f d, env)
  | .o ds => some (.f (.lst ds), env.set i (.f (.lst ds)))
  | .od ks ds => some (.f (.dct ks ds), env.set i (.f (.dct ks ds)))
  | .u => none
theorem c_Var {i : Nat} : C (mVar i) (zVar i) := fun env a e h Q Em q => by
  unfold zVar at h
  unfold mVar
  generalize env.getD i .u = x at h ⊢
  cases x <;> cases h <;> exact q
def zMove (i : Nat) : Z DV := fun env => match env.getD i .u with
  | .f d => some (.f d, env)
  | .o ds => some (.o ds, env.set i .u)
  | .od ks ds => some (.od ks ds, env.set i .u)
  | .u => none
theorem c_Move {i : Nat} : C (mMove i) (zMove i) := fun env a e h Q Em q => by
  unfold zMove at h
  unfold mMove
  generalize env.getD i .u = x at h ⊢
  cases x <;> cases h <;> exact q
def G2 (g : Op2) (z : D → D → Option DV) : Prop := ∀ d e r, z d e = some r → ∀ k : DV → Prop, k r → g d e k
def G1 (g : Op1) (z : D → Option DV) : Prop := ∀ d r, z d = some r → ∀ k : DV → Prop, k r → g d k
def GN (g : OpN) (z : List D → Option DV) : Prop := ∀ ds r, z ds = some r → ∀ k : DV → Prop, k r → g ds k
def zOp (g : D → D → Option DV) (za zb : Z Arg) : Z DV := fun env => (za env).bind fun p => (zb p.2).bind fun q => (lookz q.2 p.1).bind fun d => (lookz q.2 q.1).bind fun e => (g d e).bind fun r => some (r, q.2)
theorem c_Op {g : Op2} {gz : D → D → Option DV} {ma mb : MO} {za zb : Z Arg} (hg : G2 g gz) (ha : C ma za) (hb : C mb zb) : C (mOp g ma mb) (zOp gz za zb) := fun env a e hz Q Em q => by
  obtain ⟨p1, h1, hz⟩ := bind_of hz
  obtain ⟨p2, h2, hz⟩ := bind_of hz
  obtain ⟨d, h3, hz⟩ := bind_of hz
  obtain ⟨e', h4, hz⟩ := bind_of hz
  obtain ⟨r, h5, hz⟩ := bind_of hz
  cases hz
  exact ha env p1.1 p1.2 h1 _ Em (hb p1.2 p2.1 p2.2 h2 _ Em (lookz_ok h3 (lookz_ok h4 (hg d e' _ h5 _ q))))
def zUn (g : D → Option DV) (za : Z Arg) : Z DV := fun env => (za env).bind fun p => (lookz p.2 p.1).bind fun d => (g d).bind fun r => some (r, p.2)
theorem c_Un {g : Op1} {gz : D → Option DV} {ma : MO} {za : Z Arg} (hg : G1 g gz) (ha : C ma za) : C (mUn g ma) (zUn gz za) := fun env a e hz Q Em q => by
  obtain ⟨p1, h1, hz⟩ := bind_of hz
  obtain ⟨d, h3, hz⟩ := bind_of hz
  obtain ⟨r, h5, hz⟩ := bind_of hz
  cases hz
  exact ha env p1.1 p1.2 h1 _ Em (lookz_ok h3 (hg d _ h5 _ q))
def zChain (g g' : D → D → Option DV) (za zb zc : Z Arg) : Z DV := fun env => (za env).bind fun p => (zb p.2).bind fun q => (lookz q.2 p.1).bind fun d => (lookz q.2 q.1).bind fun e => (g d e).bind fun r => (boolz r).bind fun k =>
  if k = true then (zc q.2).bind fun w => (lookz w.2 q.1).bind fun e' => (lookz w.2 w.1).bind fun f => (g' e' f).bind fun r => some (r, w.2) else some (.f (.bl false), q.2)
theorem c_Chain {g g' : Op2} {gz gz' : D → D → Option DV} {ma mb mc : MO} {za zb zc : Z Arg} (hg : G2 g gz) (hg' : G2 g' gz') (ha : C ma za) (hb : C mb zb) (hc : C mc zc) : C (mChain g g' ma mb mc) (zChain gz gz' za zb zc) := fun env a e hz Q Em q => by
  obtain ⟨p1, h1, hz⟩ := bind_of hz
  obtain ⟨p2, h2, hz⟩ := bind_of hz
  obtain ⟨d, h3, hz⟩ := bind_of hz
  obtain ⟨e', h4, hz⟩ := bind_of hz
  obtain ⟨r, h5, hz⟩ := bind_of hz
  obtain ⟨k, h6, hz⟩ := bind_of hz
  refine ha env p1.1 p1.2 h1 _ Em (hb p1.2 p2.1 p2.2 h2 _ Em (lookz_ok h3 (lookz_ok h4 (hg d e' _ h5 _ (boolz_ok h6 ?_)))))
  by_cases hk : k = true
  · rw [if_pos hk] at hz ⊢
    obtain ⟨w, h7, hz⟩ := bind_of hz
    obtain ⟨e2, h8, hz⟩ := bind_of hz
    obtain ⟨f, h9, hz⟩ := bind_of hz
    obtain ⟨r2, h10, hz⟩ := bind_of hz
    cases hz
    exact hc p2.2 w.1 w.2 h7 _ Em (lookz_ok h8 (lookz_ok h9 (hg' _ _ _ h10 _ q)))
  · rw [if_neg hk] at hz ⊢
    cases hz
    exact q
def zB' (z : Z DV) : Z Bool := fun env => (z env).bind fun p => (boolz p.1).bind fun b => some (b, p.2)
theorem c_B' {m : ME} {z : Z DV} (h : C m z) : C (tB' m) (zB' z) := fun env a e hz Q Em q => by
  obtain ⟨p1, h1, hz⟩ := bind_of hz
  obtain ⟨b, h2, hz⟩ := bind_of hz
  cases hz
  exact h env p1.1 p1.2 h1 _ Em (boolz_ok h2 q)
def truthz (d : D) : Option Bool := match d with
  | .non => some false
  | .bl b => some b
  | .int i => some (i != 0)
  | .str y => reqz (y.length ≤ sizeLine) (some ((y.length : Int) != 0))
  | .lst ds => some (!ds.isEmpty)
  | .tup ds => some (!ds.isEmpty)
  | _ => none
theorem truthz_ok {d : D} {b : Bool} (h : truthz d = some b) {k : Bool → Prop} (hk : k b) : truth d k := by
  cases d with
  | str y => obtain ⟨h1, h2⟩ := reqz_of h; cases h2; exact ⟨h1, hk⟩
  | non => cases h; exact hk
  | bl b => cases h; exact hk
  | int b => cases h; exact hk
  | lst b => cases h; exact hk
  | tup b => cases h; exact hk
  | _ => cases h
def zTru (za : Z Arg) : Z Bool := fun env => (za env).bind fun p => (lookz p.2 p.1).bind fun d => (truthz d).bind fun b => some (b, p.2)
theorem c_Tru {ma : MO} {za : Z Arg} (ha : C ma za) : C (tTru ma) (zTru za) := fun env a e hz Q Em q => by
  obtain ⟨p1, h1, hz⟩ := bind_of hz
  obtain ⟨d, h2, hz⟩ := bind_of hz
  obtain ⟨b, h3, hz⟩ := bind_of hz
  cases hz
  exact ha env p1.1 p1.2 h1 _ Em (lookz_ok h2 (truthz_ok h3 q))
def zAnd' (t u : Z Bool) : Z Bool := fun env => (t env).bind fun p => if p.1 = true then u p.2 else some (false, p.2)
def zOr' (t u : Z Bool) : Z Bool := fun env => (t env).bind fun p => if p.1 = true then some (true, p.2) else u p.2
def zNot' (t : Z Bool) : Z Bool := fun env => (t env).bind fun p => some (!p.1, p.2)
theorem c_And' {t u : MT} {y z : Z Bool} (h1 : C t y) (h2 : C u z) : C (tAnd' t u) (zAnd' y z) := fun env a e hz Q Em q => by
  obtain ⟨p1, g1, hz⟩ := bind_of hz
  refine h1 env p1.1 p1.2 g1 _ Em ?_
  by_cases k : p1.1 = true
  · rw [if_pos k] at hz ⊢; exact h2 _ _ _ hz Q Em q
  · rw [if_neg k] at hz ⊢; cases hz; exact q
theorem c_Or' {t u : MT} {y z : Z Bool} (h1 : C t y) (h2 : C u z) : C (tOr' t u) (zOr' y z) := fun env a e hz Q Em q => by
  obtain ⟨p1, g1, hz⟩ := bind_of hz
  refine h1 env p1.1 p1.2 g1 _ Em ?_
  by_cases k : p1.1 = true
  · rw [if_pos k] at hz ⊢; cases hz; exact q
  · rw [if_neg k] at hz ⊢; exact h2 _ _ _ hz Q Em q
theorem c_Not' {t : MT} {y : Z Bool} (h1 : C t y) : C (tNot' t) (zNot' y) := fun env a e hz Q Em q => by
  obtain ⟨p1, g1, hz⟩ := bind_of hz
  cases hz
  exact h1 env p1.1 p1.2 g1 _ Em q
def zAnd (a b : Z DV) : Z DV := fun env => (a env).bind fun p => (boolz p.1).bind fun c => if c = true then b p.2 else some (.f (.bl false), p.2)
def zOr (a b : Z DV) : Z DV := fun env => (a env).bind fun p => (boolz p.1).bind fun c => if c = true then some (.f (.bl true), p.2) else b p.2
def zNot (a : Z DV) : Z DV := fun env => (a env).bind fun p => (boolz p.1).bind fun c => some (.f (.bl (!c)), p.2)
def zIf (t : Z Bool) (a b : Z DV) : Z DV := fun env => (t env).bind fun p => if p.1 = true then a p.2 else b p.2
theorem c_And {t u : ME} {y z : Z DV} (h1 : C t y) (h2 : C u z) : C (mAnd t u) (zAnd y z) := fun env a e hz Q Em q => by
  obtain ⟨p1, g1, hz⟩ := bind_of hz
  obtain ⟨c, g2, hz⟩ := bind_of hz
  refine h1 env p1.1 p1.2 g1 _ Em (boolz_ok g2 ?_)
  by_cases k : c = true
  · rw [if_pos k] at hz ⊢; exact h2 _ _ _ hz Q Em q
  · rw [if_neg k] at hz ⊢; cases hz; exact q
theorem c_Or {t u : ME} {y z : Z DV} (h1 : C t y) (h2 : C u z) : C (mOr t u) (zOr y z) := fun env a e hz Q Em q => by
  obtain ⟨p1, g1, hz⟩ := bind_of hz
  obtain ⟨c, g2, hz⟩ := bind_of hz
  refine h1 env p1.1 p1.2 g1 _ Em (boolz_ok g2 ?_)
  by_cases k : c = true
  · rw [if_pos k] at hz ⊢; cases hz; exact q
  · rw [if_neg k] at hz ⊢; exact h2 _ _ _ hz Q Em q
theorem c_Not {t : ME} {y : Z DV} (h1 : C t y) : C (mNot t) (zNot y) := fun env a e hz Q Em q => by
  obtain ⟨p1, g1, hz⟩ := bind_of hz
  obtain ⟨c, g2, hz⟩ := bind_of hz
  cases hz
  exact h1 env p1.1 p1.2 g1 _ Em (boolz_ok g2 q)
theorem c_If {t : MT} {ma mb : ME} {y : Z Bool} {za zb : Z DV} (h1 : C t y) (h2 : C ma za) (h3 : C mb zb) : C (mIf t ma mb) (zIf y za zb) := fun env a e hz Q Em q => by
  obtain ⟨p1, g1, hz⟩ := bind_of hz
  refine h1 env p1.1 p1.2 g1 _ Em ?_
  by_cases k : p1.1 = true
  · rw [if_pos k] at hz ⊢; exact h2 _ _ _ hz Q Em q
  · rw [if_neg k] at hz ⊢; exact h3 _ _ _ hz Q Em q
/-! ### arguments, displays -/
def zaNil : Z (List Arg) := fun env => some ([], env)
def zaCons (a : Z Arg) (r : Z (List Arg)) : Z (List Arg) := fun env => (a env).bind fun p => (r p.2).bind fun q => some (p.1 :: q.1, q.2)
theorem c_aNil : C aNil zaNil := fun env a e hz Q Em q => by cases hz; exact q
theorem c_aCons {ma : MO} {mr : MA} {za : Z Arg} {zr : Z (List Arg)} (h1 : C ma za) (h2 : C mr zr) : C (aCons ma mr) (zaCons za zr) := fun env a e hz Q Em q => by
  obtain ⟨p1, g1, hz⟩ := bind_of hz
  obtain ⟨p2, g2, hz⟩ := bind_of hz
  cases hz
  exact h1 env p1.1 p1.2 g1 _ Em (h2 _ _ _ g2 _ Em q)
def isLTz (d : D) : Option (List D) := match d.s with
  | .lst ds => some ds
  | .tup ds => some ds
  | _ => none
theorem isLTz_ok {d : D} {ds : List D} (h : isLTz d = some ds) {k : List D → Prop} (hk : k ds) : isLT d k := by
  unfold isLTz at h
  unfold isLT
  split at h <;> cases h <;> rename_i w <;> first | exact hk | (rw [w]; exact hk)
def zaStar (z : Z DV) (r : Z (List Arg)) : Z (List Arg) := fun env => (z env).bind fun p => (fzz p.1).bind fun d => (isLTz d).bind fun ds => (r p.2).bind fun q => some (ds.map Arg.val ++ q.1, q.2)
theorem c_aStar {m : ME} {mr : MA} {z : Z DV} {zr : Z (List Arg)} (h1 : C m z) (h2 : C mr zr) : C (aStar m mr) (zaStar z zr) := fun env a e hz Q Em q => by
  obtain ⟨p1, g1, hz⟩ := bind_of hz
  obtain ⟨d, g2, hz⟩ := bind_of hz
  obtain ⟨ds, g3, hz⟩ := bind_of hz
  obtain ⟨p2, g4, hz⟩ := bind_of hz
  cases hz
  exact h1 env p1.1 p1.2 g1 _ Em (fzz_ok g2 (isLTz_ok g3 (h2 _ _ _ g4 _ Em q)))
def zTup (za : Z (List Arg)) : Z DV := fun env => (za env).bind fun p => (allVz p.1).bind fun ds => reqz (ds.length ≤ sizeLine) (some (.f (.tup ds), p.2))
def zLst (za : Z (List Arg)) : Z DV := fun env => (za env).bind fun p => (allVz p.1).bind fun ds => reqz (ds.length ≤ sizeLine) (some (.o ds, p.2))
theorem c_Tup {ma : MA} {za : Z (List Arg)} (h : C ma za) : C (mTup ma) (zTup za) := fun env a e hz Q Em q => by
  obtain ⟨p1, g1, hz⟩ := bind_of hz
  obtain ⟨ds, g2, hz⟩ := bind_of hz
  obtain ⟨g3, hz⟩ := reqz_of hz
  cases hz
  exact h env p1.1 p1.2 g1 _ Em (allVz_ok g2 ⟨g3, q⟩)
theorem c_Lst {ma : MA} {za : Z (List Arg)} (h : C ma za) : C (mLst ma) (zLst za) := fun env a e hz Q Em q => by
  obtain ⟨p1, g1, hz⟩ := bind_of hz
  obtain ⟨ds, g2, hz⟩ := bind_of hz
  obtain ⟨g3, hz⟩ := reqz_of hz
  cases hz
  exact h env p1.1 p1.2 g1 _ Em (allVz_ok g2 ⟨g3, q⟩)
def zRevS (za : Z Arg) : Z DV := fun env => (za env).bind fun p => (lookz p.2 p.1).bind fun d => match d with | .lst ds => some (.o ds.reverse, p.2) | _ => none
theorem c_RevS {ma : MO} {za : Z Arg} (h : C ma za) : C (mRevS ma) (zRevS za) := fun env a e hz Q Em q => by
  obtain ⟨p1, g1, hz⟩ := bind_of hz
  obtain ⟨d, g2, hz⟩ := bind_of hz
  refine h env p1.1 p1.2 g1 _ Em (lookz_ok g2 ?_)
  cases d with
  | lst ds => cases hz; exact q
  | _ => cases hz
def argIz (env : En) (a : Arg) : Option Int := (lookz env a).bind fun d => match d with | .int i => some i | _ => none
theorem argIz_ok {env : En} {a : Arg} {i : Int} (h : argIz env a = some i) {k : Int → Prop} (hk : k i) : argI env a k := by
  obtain ⟨d, g1, h⟩ := bind_of h
  refine lookz_ok g1 ?_
  cases d with
  | int j => cases h; exact hk
  | _ => cases h
def zpNone : Z (Option Int) := fun env => some (none, env)
def zpSome (za : Z Arg) : Z (Option Int) := fun env => (za env).bind fun p => (argIz p.2 p.1).bind fun i => some (some i, p.2)
theorem c_pNone : C pNone zpNone := fun env a e hz Q Em q => by cases hz; exact q
theorem c_pSome {ma : MO} {za : Z Arg} (h : C ma za) : C (pSome ma) (zpSome za) := fun env a e hz Q Em q => by
  obtain ⟨p1, g1, hz⟩ := bind_of hz
  obtain ⟨i, g2, hz⟩ := bind_of hz
  cases hz
  exact h env p1.1 p1.2 g1 _ Em (argIz_ok g2 q)
def zSl (za : Z Arg) (zl zh : Z (Option Int)) : Z DV := fun env => (za env).bind fun p => (zl p.2).bind fun l => (zh l.2).bind fun h => (lookz h.2 p.1).bind fun d => match d with
  | .lst ds => some (.o (cutD ds l.1 h.1), h.2)
  | .tup ds => some (.f (.tup (cutD ds l.1 h.1)), h.2)
  | .scr is => some (.o (cutD (is.map D.int) l.1 h.1), h.2)
  | _ => none
theorem c_Sl {ma : MO} {ml mh : MP} {za : Z Arg} {zl zh : Z (Option Int)} (h1 : C ma za) (h2 : C ml zl) (h3 : C mh zh) : C (mSl ma ml mh) (zSl za zl zh) := fun env a e hz Q Em q => by
  obtain ⟨p1, g1, hz⟩ := bind_of hz
  obtain ⟨p2, g2, hz⟩ := bind_of hz
  obtain ⟨p3, g3, hz⟩ := bind_of hz
  obtain ⟨d, g4, hz⟩ := bind_of hz
  refine h1 env p1.1 p1.2 g1 _ Em (h2 _ p2.1 p2.2 g2 _ Em (h3 _ p3.1 p3.2 g3 _ Em (lookz_ok g4 ?_)))
  cases d with
  | lst ds => cases hz; exact q
  | tup ds => cases hz; exact q
  | scr ds => cases hz; exact q
  | _ => cases hz
def zB (g : List D → Option DV) (za : Z (List Arg)) : Z DV := fun env => (za env).bind fun p => (lookAllz p.2 p.1).bind fun ds => (g ds).bind fun r => some (r, p.2)
theorem c_Bi {g : OpN} {gz : List D → Option DV} {ma : MA} {za : Z (List Arg)} (hg : GN g gz) (h : C ma za) : C (mB g ma) (zB gz za) := fun env a e hz Q Em q => by
  obtain ⟨p1, g1, hz⟩ := bind_of hz
  obtain ⟨ds, g2, hz⟩ := bind_of hz
  obtain ⟨r, g3, hz⟩ := bind_of hz
  cases hz
  exact h env p1.1 p1.2 g1 _ Em (lookAllz_ok g2 (hg _ _ g3 _ q))
def defDz (f : Int → List Int → Int) (xs : List D) (d : D) : Option DV := match intsD xs with
  | some (i :: is) => some (.f (.int (f i is)))
  | some [] => some (.f d)
  | none => none
theorem defDz_ok {f : Int → List Int → Int} {xs : List D} {d : D} {r : DV} (h : defDz f xs d = some r) {k : DV → Prop} (hk : k r) : defD f xs d k := by
  unfold defDz at h
  unfold defD
  split at h
  · rename_i w; cases h; first | exact hk | (rw [w]; exact hk)
  · rename_i w; cases h; first | exact hk | (rw [w]; exact hk)
  · cases h
def zBD (f : Int → List Int → Int) (za zk : Z (List Arg)) : Z DV := fun env => (za env).bind fun p => (zk p.2).bind fun q => (lookAllz q.2 p.1).bind fun ds => match q.1, ds with
  | [.val d], [.lst xs] => (defDz f xs d).bind fun r => some (r, q.2)
  | _, _ => none
theorem c_BD {f : Int → List Int → Int} {ma mk : MA} {za zk : Z (List Arg)} (h1 : C ma za) (h2 : C mk zk) : C (mBD f ma mk) (zBD f za zk) := fun env a e hz Q Em q => by
  obtain ⟨p1, g1, hz⟩ := bind_of hz
  obtain ⟨p2, g2, hz⟩ := bind_of hz
  obtain ⟨ds, g3, hz⟩ := bind_of hz
  refine h1 env p1.1 p1.2 g1 _ Em (h2 _ p2.1 p2.2 g2 _ Em (lookAllz_ok g3 ?_))
  split at hz
  · rename_i d xs e1
    obtain ⟨r, g4, hz⟩ := bind_of hz
    cases hz
    rw [e1]
    exact defDz_ok (k := fun z => Q z p2.2) g4 q
  · cases hz
/-! ### calls -/
abbrev ZF := List DV → Option (DV × List DV)
def CF (m : MF) (z : ZF) : Prop := ∀ ds r os, z ds = some (r, os) → ∀ Q Em, Q r os → m ds Q Em
def callAz (zf : ZF) (Rc : List Nat) (n : Nat) (as : List Arg) (env : En) : Option (DV × En) :=
  reqz (as.length = n ∧ posA 0 as = Rc ∧ (refsA as).Nodup ∧ ownAll env (refsA as)) ((zf (as.map (dvA env))).bind fun p => some (p.1, setL (refsA as) p.2 env))
theorem callAz_ok {mf : MF} {zf : ZF} {Rc : List Nat} {n : Nat} {as : List Arg} {env : En} (h : CF mf zf) {r : DV} {e : En} (hz : callAz zf Rc n as env = some (r, e)) {Q : DV → En → Prop} {Em : EmT} (q : Q r e) : callA mf Rc n as env Q Em := by
  obtain ⟨⟨c1, c2, c3, c4⟩, hz⟩ := reqz_of hz
  obtain ⟨p, g1, hz⟩ := bind_of hz
  cases hz
  exact ⟨c1, c2, c3, c4, h _ p.1 p.2 g1 _ _ q⟩
def zCall (zf : ZF) (Rc : List Nat) (n : Nat) (za : Z (List Arg)) : Z DV := fun env => (za env).bind fun p => callAz zf Rc n p.1 p.2
theorem c_Call {mf : MF} {zf : ZF} {Rc : List Nat} {n : Nat} {ma : MA} {za : Z (List Arg)} (h : CF mf zf) (h1 : C ma za) : C (mCall mf Rc n ma) (zCall zf Rc n za) := fun env a e hz Q Em q => by
  obtain ⟨p1, g1, hz⟩ := bind_of hz
  exact h1 env p1.1 p1.2 g1 _ Em (callAz_ok h hz q)
def zCallK (zf : ZF) (Rc : List Nat) (n nu nk : Nat) (pm : List Nat) (za zk : Z (List Arg)) : Z DV := fun env => (za env).bind fun p => (zk p.2).bind fun q => reqz (p.1.length = nu ∧ q.1.length = nk) (callAz zf Rc n (permL pm (p.1 ++ q.1)) q.2)
theorem c_CallK {mf : MF} {zf : ZF} {Rc : List Nat} {n nu nk : Nat} {pm : List Nat} {ma mk : MA} {za zk : Z (List Arg)} (h : CF mf zf) (h1 : C ma za) (h2 : C mk zk) : C (mCallK mf Rc n nu nk pm ma mk) (zCallK zf Rc n nu nk pm za zk) := fun env a e hz Q Em q => by
  obtain ⟨p1, g1, hz⟩ := bind_of hz
  obtain ⟨p2, g2, hz⟩ := bind_of hz
  obtain ⟨⟨c1, c2⟩, hz⟩ := reqz_of hz
  exact h1 env p1.1 p1.2 g1 _ Em (h2 _ p2.1 p2.2 g2 _ Em ⟨c1, c2, callAz_ok h hz q⟩)
def callBz (zf : ZF) (n : Nat) (as : List Arg) (env : En) : Option (DV × En) :=
  reqz (as.length = n) ((zf (as.map (dvB env))).bind fun p => reqz (flatR p.1 = true) (some (p.1, env)))
theorem callBz_ok {mf : MF} {zf : ZF} {n : Nat} {as : List Arg} {env : En} (h : CF mf zf) {r : DV} {e : En} (hz : callBz zf n as env = some (r, e)) {Q : DV → En → Prop} {Em : EmT} (q : Q r e) : callB mf n as env Q Em := by
  obtain ⟨c1, hz⟩ := reqz_of hz
  obtain ⟨p, g1, hz⟩ := bind_of hz
  obtain ⟨c2, hz⟩ := reqz_of hz
  cases hz
  exact ⟨c1, h _ p.1 p.2 g1 _ _ ⟨c2, q⟩⟩
def zCallB (zf : ZF) (n : Nat) (za : Z (List Arg)) : Z DV := fun env => (za env).bind fun p => callBz zf n p.1 p.2
theorem c_CallB {mf : MF} {zf : ZF} {n : Nat} {ma : MA} {za : Z (List Arg)} (h : CF mf zf) (h1 : C ma za) : C (mCallB mf n ma) (zCallB zf n za) := fun env a e hz Q Em q => by
  obtain ⟨p1, g1, hz⟩ := bind_of hz
  exact h1 env p1.1 p1.2 g1 _ Em (callBz_ok h hz q)
def zCallKB (zf : ZF) (n nu nk : Nat) (pm : List Nat) (za zk : Z (List Arg)) : Z DV := fun env => (za env).bind fun p => (zk p.2).bind fun q => reqz (p.1.length = nu ∧ q.1.length = nk) (callBz zf n (permL pm (p.1 ++ q.1)) q.2)
theorem c_CallKB {mf : MF} {zf : ZF} {n nu nk : Nat} {pm : List Nat} {ma mk : MA} {za zk : Z (List Arg)} (h : CF mf zf) (h1 : C ma za) (h2 : C mk zk) : C (mCallKB mf n nu nk pm ma mk) (zCallKB zf n nu nk pm za zk) := fun env a e hz Q Em q => by
  obtain ⟨p1, g1, hz⟩ := bind_of hz
  obtain ⟨p2, g2, hz⟩ := bind_of hz
  obtain ⟨c, hz⟩ := reqz_of hz
  exact h1 env p1.1 p1.2 g1 _ Em (h2 _ p2.1 p2.2 g2 _ Em ⟨c, callBz_ok h hz q⟩)
/-! ### iterators, targets -/
def isLstz (d : D) : Option (List D) := match d.s with | .lst ds => some ds | _ => none
theorem isLstz_ok {d : D} {ds : List D} (h : isLstz d = some ds) {k : List D → Prop} (hk : k ds) : isLst d k := by
  unfold isLstz at h
  unfold isLst
  split at h <;> cases h
  rename_i w; first | exact hk | (rw [w]; exact hk)
def isTupz (d : D) : Option (List D) := match d.s with | .tup ds => some ds | _ => none
theorem isTupz_ok {d : D} {ds : List D} (h : isTupz d = some ds) {k : List D → Prop} (hk : k ds) : isTup d k := by
  unfold isTupz at h
  unfold isTup
  split at h <;> cases h
  rename_i w; first | exact hk | (rw [w]; exact hk)
def ziLst (z : Z DV) : Z (List D) := fun env => (z env).bind fun p => (fzz p.1).bind fun d => (isLstz d).bind fun ds => some (ds, p.2)
theorem c_iLst {m : ME} {z : Z DV} (h : C m z) : C (iLst m) (ziLst z) := fun env a e hz Q Em q => by
  obtain ⟨p1, g1, hz⟩ := bind_of hz
  obtain ⟨d, g2, hz⟩ := bind_of hz
  obtain ⟨ds, g3, hz⟩ := bind_of hz
  cases hz
  exact h env p1.1 p1.2 g1 _ Em (fzz_ok g2 (isLstz_ok g3 q))
def ziTupD (z : Z DV) : Z (List D) := fun env => (z env).bind fun p => (fzz p.1).bind fun d => (isTupz d).bind fun ds => some (ds, p.2)
theorem c_iTupD {m : ME} {z : Z DV} (h : C m z) : C (iTupD m) (ziTupD z) := fun env a e hz Q Em q => by
  obtain ⟨p1, g1, hz⟩ := bind_of hz
  obtain ⟨d, g2, hz⟩ := bind_of hz
  obtain ⟨ds, g3, hz⟩ := bind_of hz
  cases hz
  exact h env p1.1 p1.2 g1 _ Em (fzz_ok g2 (isTupz_ok g3 q))
def isSqz (d : D) : Option (List D) := match d.s with
  | .lst ds => some ds
  | .tup ds => some ds
  | .scr is => some (is.map D.int)
  | _ => none
theorem isSqz_ok {d : D} {ds : List D} (h : isSqz d = some ds) {k : List D → Prop} (hk : k ds) : isSq d k := by
  unfold isSqz at h
  unfold isSq
  split at h <;> cases h <;> rename_i w <;> first | exact hk | (rw [w]; exact hk)
def ziSq (z : Z DV) : Z (List D) := fun env => (z env).bind fun p => (fzz p.1).bind fun d => (isSqz d).bind fun ds => some (ds, p.2)
theorem c_iSq {m : ME} {z : Z DV} (h : C m z) : C (iSq m) (ziSq z) := fun env a e hz Q Em q => by
  obtain ⟨p1, g1, hz⟩ := bind_of hz
  obtain ⟨d, g2, hz⟩ := bind_of hz
  obtain ⟨ds, g3, hz⟩ := bind_of hz
  cases hz
  exact h env p1.1 p1.2 g1 _ Em (fzz_ok g2 (isSqz_ok g3 q))
def one1 (as : List Arg) : Option Arg := match as with | [x] => some x | _ => none
def two2 (as : List Arg) : Option (Arg × Arg) := match as with | [x, y] => some (x, y) | _ => none
theorem one1_ok {as : List Arg} {x : Arg} (h : one1 as = some x) {k : Arg → Prop} (hk : k x) : on1 as k := by
  unfold one1 at h
  split at h <;> cases h
  exact hk
theorem two2_ok {as : List Arg} {x y : Arg} (h : two2 as = some (x, y)) {k : Arg → Arg → Prop} (hk : k x y) : on2 as k := by
  unfold two2 at h
  split at h <;> cases h
  exact hk
def argLz (a : Arg) : Option (List D) := match a with | .val d => isLstz d | _ => none
theorem argLz_ok {a : Arg} {ds : List D} (h : argLz a = some ds) {k : List D → Prop} (hk : k ds) : argL a k := by
  cases a with
  | val d => exact isLstz_ok (d := d) h hk
  | ref i => cases h
def ziRange1 (za : Z (List Arg)) : Z (List D) := fun env => (za env).bind fun p => (one1 p.1).bind fun x => (argIz p.2 x).bind fun j => reqz (-(2 ^ 62) ≤ j ∧ j < 2 ^ 62) (some (rangeD 0 j.toNat, p.2))
theorem c_iRange1 {ma : MA} {za : Z (List Arg)} (h : C ma za) : C (iRange1 ma) (ziRange1 za) := fun env a e hz Q Em q => by
  obtain ⟨p1, g1, hz⟩ := bind_of hz
  obtain ⟨x, g2, hz⟩ := bind_of hz
  obtain ⟨j, g3, hz⟩ := bind_of hz
  obtain ⟨g4, hz⟩ := reqz_of hz
  cases hz
  exact h env p1.1 p1.2 g1 _ Em (one1_ok g2 (argIz_ok g3 ⟨g4, q⟩))
def ziRange2 (za : Z (List Arg)) : Z (List D) := fun env => (za env).bind fun p => (two2 p.1).bind fun x => (argIz p.2 x.1).bind fun i => (argIz p.2 x.2).bind fun j => reqz (-(2 ^ 62) ≤ i ∧ i < 2 ^ 62 ∧ -(2 ^ 62) ≤ j ∧ j < 2 ^ 62) (some (rangeD i (j - i).toNat, p.2))
theorem c_iRange2 {ma : MA} {za : Z (List Arg)} (h : C ma za) : C (iRange2 ma) (ziRange2 za) := fun env a e hz Q Em q => by
  obtain ⟨p1, g1, hz⟩ := bind_of hz
  obtain ⟨x, g2, hz⟩ := bind_of hz
  obtain ⟨i, g3, hz⟩ := bind_of hz
  obtain ⟨j, g5, hz⟩ := bind_of hz
  obtain ⟨g4, hz⟩ := reqz_of hz
  cases hz
  exact h env p1.1 p1.2 g1 _ Em (two2_ok (x := x.1) (y := x.2) g2 (argIz_ok g3 (argIz_ok g5 ⟨g4, q⟩)))
def ziRevL (za : Z (List Arg)) : Z (List D) := fun env => (za env).bind fun p => (one1 p.1).bind fun x => (argLz x).bind fun ds => some (ds.reverse, p.2)
theorem c_iRevL {ma : MA} {za : Z (List Arg)} (h : C ma za) : C (iRevL ma) (ziRevL za) := fun env a e hz Q Em q => by
  obtain ⟨p1, g1, hz⟩ := bind_of hz
  obtain ⟨x, g2, hz⟩ := bind_of hz
  obtain ⟨j, g3, hz⟩ := bind_of hz
  cases hz
  exact h env p1.1 p1.2 g1 _ Em (one1_ok g2 (argLz_ok g3 q))
def ziEnumL (za : Z (List Arg)) : Z (List D) := fun env => (za env).bind fun p => (one1 p.1).bind fun x => (argLz x).bind fun ds => some (enumD 0 ds, p.2)
theorem c_iEnumL {ma : MA} {za : Z (List Arg)} (h : C ma za) : C (iEnumL ma) (ziEnumL za) := fun env a e hz Q Em q => by
  obtain ⟨p1, g1, hz⟩ := bind_of hz
  obtain ⟨x, g2, hz⟩ := bind_of hz
  obtain ⟨j, g3, hz⟩ := bind_of hz
  cases hz
  exact h env p1.1 p1.2 g1 _ Em (one1_ok g2 (argLz_ok g3 q))
def ziZipL (za : Z (List Arg)) : Z (List D) := fun env => (za env).bind fun p => (two2 p.1).bind fun x => (argLz x.1).bind fun ds => (argLz x.2).bind fun es => some (zipD ds es, p.2)
theorem c_iZipL {ma : MA} {za : Z (List Arg)} (h : C ma za) : C (iZipL ma) (ziZipL za) := fun env a e hz Q Em q => by
  obtain ⟨p1, g1, hz⟩ := bind_of hz
  obtain ⟨x, g2, hz⟩ := bind_of hz
  obtain ⟨j, g3, hz⟩ := bind_of hz
  obtain ⟨k, g4, hz⟩ := bind_of hz
  cases hz
  exact h env p1.1 p1.2 g1 _ Em (two2_ok (x := x.1) (y := x.2) g2 (argLz_ok g3 (argLz_ok g4 q)))
def CG (m : MG) (z : D → En → Option En) : Prop := ∀ d env e, z d env = some e → ∀ Q : En → Prop, Q e → m d env Q
def CGs (m : MGs) (z : List D → En → Option En) : Prop := ∀ d env e, z d env = some e → ∀ Q : En → Prop, Q e → m d env Q
def zgName (i : Nat) : D → En → Option En := fun d env => some (env.set i (.f d))
theorem c_gName {i : Nat} : CG (mgName i) (zgName i) := fun d env e h Q q => by cases h; exact q
def zgNil : List D → En → Option En := fun ds env => match ds with | [] => some env | _ => none
theorem c_gNil : CGs mgNil zgNil := fun d env e h Q q => by
  cases d with
  | nil => cases h; exact q
  | cons _ _ => cases h
def zgCons (g : D → En → Option En) (r : List D → En → Option En) : List D → En → Option En := fun ds env => match ds with | d :: ds => (g d env).bind fun e => r ds e | [] => none
theorem c_gCons {mg : MG} {mr : MGs} {zg : D → En → Option En} {zr : List D → En → Option En} (h1 : CG mg zg) (h2 : CGs mr zr) : CGs (mgCons mg mr) (zgCons zg zr) := fun d env e h Q q => by
  cases d with
  | nil => cases h
  | cons x ds =>
    obtain ⟨e1, g1, h⟩ := bind_of h
    exact h1 x env e1 g1 _ (h2 ds e1 e h _ q)
def zgTup (n : Nat) (g : List D → En → Option En) : D → En → Option En := fun d env => match d.s with | .tup ds => reqz (ds.length = n) (g ds env) | _ => none
theorem c_gTup {n : Nat} {mg : MGs} {zg : List D → En → Option En} (h1 : CGs mg zg) : CG (mgTup n mg) (zgTup n zg) := fun d env e h Q q => by
  unfold zgTup at h
  unfold mgTup
  split at h
  · rename_i ds w
    obtain ⟨g1, h⟩ := reqz_of h
    first
      | exact ⟨g1, h1 ds env e h Q q⟩
      | (rw [w]; exact ⟨g1, h1 ds env e h Q q⟩)
  · cases h
/-! ### comprehensions -/
def zYes : Z Bool := fun env => some (true, env)
theorem c_Yes : C mYes zYes := fun env a e hz Q Em q => by cases hz; exact q
def lcz (vs : List Nat) (zg : D → En → Option En) (zt : Z Bool) (ze : Z DV) : List D → List D → En → Option (DV × En)
  | [], acc, env => some (.o acc, env)
  | d :: ds, acc, env => (zg d (wipeE env vs)).bind fun e1 => (zt e1).bind fun p => if p.1 = true then (ze p.2).bind fun r => (fzz r.1).bind fun x => reqz (acc.length < sizeLine) (lcz vs zg zt ze ds (acc ++ [x]) (back env vs r.2)) else lcz vs zg zt ze ds acc (back env vs p.2)
theorem lcz_ok {vs : List Nat} {mg : MG} {mt : MT} {me : ME} {zg : D → En → Option En} {zt : Z Bool} {ze : Z DV} (h1 : CG mg zg) (h2 : C mt zt) (h3 : C me ze) {Q : DV → En → Prop} {r : DV} {e : En} (q : Q r e) : ∀ {ds acc : List D} {env : En}, lcz vs zg zt ze ds acc env = some (r, e) → lcGo vs mg mt me Q ds acc env
  | [], acc, env, h => by cases h; exact q
  | d :: ds, acc, env, h => by
    obtain ⟨e1, g1, h⟩ := bind_of h
    obtain ⟨p, g2, h⟩ := bind_of h
    refine h1 d _ e1 g1 _ (h2 e1 p.1 p.2 g2 _ EmN ?_)
    by_cases k : p.1 = true
    · rw [if_pos k] at h ⊢
      obtain ⟨r1, g3, h⟩ := bind_of h
      obtain ⟨x, g4, h⟩ := bind_of h
      obtain ⟨g5, h⟩ := reqz_of h
      exact h3 _ _ _ g3 _ EmN (fzz_ok g4 ⟨g5, lcz_ok h1 h2 h3 q h⟩)
    · rw [if_neg k] at h ⊢
      exact lcz_ok h1 h2 h3 q h
def zLc (vs : List Nat) (zi : Z (List D)) (zg : D → En → Option En) (zt : Z Bool) (ze : Z DV) : Z DV := fun env => (zi env).bind fun p => lcz vs zg zt ze p.1 [] p.2
theorem c_Lc {vs : List Nat} {mi : MI} {mg : MG} {mt : MT} {me : ME} {zi : Z (List D)} {zg : D → En → Option En} {zt : Z Bool} {ze : Z DV} (h0 : C mi zi) (h1 : CG mg zg) (h2 : C mt zt) (h3 : C me ze) : C (mLc vs mi mg mt me) (zLc vs zi zg zt ze) := fun env a e hz Q Em q => by
  obtain ⟨p, g1, hz⟩ := bind_of hz
  exact h0 env p.1 p.2 g1 _ Em (lcz_ok h1 h2 h3 q hz)
def lc2z (vs1 : List Nat) (zg1 : D → En → Option En) (zt1 : Z Bool) (ze : Z DV) : List D → List D → En → Option (List D × En)
  | [], acc, env => some (acc, env)
  | d :: ds, acc, env => (zg1 d (wipeE env vs1)).bind fun e1 => (zt1 e1).bind fun p => if p.1 = true then (ze p.2).bind fun r => (fzz r.1).bind fun x => reqz (acc.length < sizeLine) (lc2z vs1 zg1 zt1 ze ds (acc ++ [x]) (back env vs1 r.2)) else lc2z vs1 zg1 zt1 ze ds acc (back env vs1 p.2)
theorem lc2z_ok {vs1 : List Nat} {mg1 : MG} {mt1 : MT} {me : ME} {zg1 : D → En → Option En} {zt1 : Z Bool} {ze : Z DV} (h1 : CG mg1 zg1) (h2 : C mt1 zt1) (h3 : C me ze) {K : List D → En → Prop} {r : List D} {e : En} (q : K r e) : ∀ {ds acc : List D} {env : En}, lc2z vs1 zg1 zt1 ze ds acc env = some (r, e) → lc2In vs1 mg1 mt1 me K ds acc env
  | [], acc, env, h => by cases h; exact q
  | d :: ds, acc, env, h => by
    obtain ⟨e1, g1, h⟩ := bind_of h
    obtain ⟨p, g2, h⟩ := bind_of h
    refine h1 d _ e1 g1 _ (h2 e1 p.1 p.2 g2 _ EmN ?_)
    by_cases k : p.1 = true
    · rw [if_pos k] at h ⊢
      obtain ⟨r1, g3, h⟩ := bind_of h
      obtain ⟨x, g4, h⟩ := bind_of h
      obtain ⟨g5, h⟩ := reqz_of h
      exact h3 _ _ _ g3 _ EmN (fzz_ok g4 ⟨g5, lc2z_ok h1 h2 h3 q h⟩)
    · rw [if_neg k] at h ⊢
      exact lc2z_ok h1 h2 h3 q h
def lc2Z (vs vs1 : List Nat) (zg : D → En → Option En) (zt : Z Bool) (zi1 : Z (List D)) (zg1 : D → En → Option En) (zt1 : Z Bool) (ze : Z DV) : List D → List D → En → Option (DV × En)
  | [], acc, env => some (.o acc, env)
  | d :: ds, acc, env => (zg d (wipeE env vs)).bind fun e1 => (zt e1).bind fun p => if p.1 = true then (zi1 p.2).bind fun it => (lc2z vs1 zg1 zt1 ze it.1 acc it.2).bind fun r => lc2Z vs vs1 zg zt zi1 zg1 zt1 ze ds r.1 (back env vs r.2) else lc2Z vs vs1 zg zt zi1 zg1 zt1 ze ds acc (back env vs p.2)
theorem lc2Z_ok {vs vs1 : List Nat} {mg mg1 : MG} {mt mt1 : MT} {mi1 : MI} {me : ME} {zg zg1 : D → En → Option En} {zt zt1 : Z Bool} {zi1 : Z (List D)} {ze : Z DV} (h1 : CG mg zg) (h2 : C mt zt) (h5 : C mi1 zi1) (h6 : CG mg1 zg1) (h7 : C mt1 zt1) (h3 : C me ze) {Q : DV → En → Prop} {r : DV} {e : En} (q : Q r e) : ∀ {ds acc : List D} {env : En}, lc2Z vs vs1 zg zt zi1 zg1 zt1 ze ds acc env = some (r, e) → lc2Go vs vs1 mg mt mi1 mg1 mt1 me Q ds acc env
  | [], acc, env, h => by cases h; exact q
  | d :: ds, acc, env, h => by
    obtain ⟨e1, g1, h⟩ := bind_of h
    obtain ⟨p, g2, h⟩ := bind_of h
    refine h1 d _ e1 g1 _ (h2 e1 p.1 p.2 g2 _ EmN ?_)
    by_cases k : p.1 = true
    · rw [if_pos k] at h ⊢
      obtain ⟨it, g3, h⟩ := bind_of h
      obtain ⟨r1, g4, h⟩ := bind_of h
      exact h5 _ it.1 it.2 g3 _ EmN (lc2z_ok h6 h7 h3 (K := fun acc' e4 => lc2Go vs vs1 mg mt mi1 mg1 mt1 me Q ds acc' (back env vs e4)) (r := r1.1) (e := r1.2) (lc2Z_ok h1 h2 h5 h6 h7 h3 q h) g4)
    · rw [if_neg k] at h ⊢
      exact lc2Z_ok h1 h2 h5 h6 h7 h3 q h
def zLc2 (vs vs1 : List Nat) (zi : Z (List D)) (zg : D → En → Option En) (zt : Z Bool) (zi1 : Z (List D)) (zg1 : D → En → Option En) (zt1 : Z Bool) (ze : Z DV) : Z DV := fun env => (zi env).bind fun p => lc2Z vs vs1 zg zt zi1 zg1 zt1 ze p.1 [] p.2
theorem c_Lc2 {vs vs1 : List Nat} {mi mi1 : MI} {mg mg1 : MG} {mt mt1 : MT} {me : ME} {zi zi1 : Z (List D)} {zg zg1 : D → En → Option En} {zt zt1 : Z Bool} {ze : Z DV} (h0 : C mi zi) (h1 : CG mg zg) (h2 : C mt zt) (h5 : C mi1 zi1) (h6 : CG mg1 zg1) (h7 : C mt1 zt1) (h3 : C me ze) : C (mLc2 vs vs1 mi mg mt mi1 mg1 mt1 me) (zLc2 vs vs1 zi zg zt zi1 zg1 zt1 ze) := fun env a e hz Q Em q => by
  obtain ⟨p, g1, hz⟩ := bind_of hz
  exact h0 env p.1 p.2 g1 _ Em (lc2Z_ok h1 h2 h5 h6 h7 h3 q hz)
/-! ### statements -/
inductive Out where
  | nx (e : En) | rt (r : DV) (e : En) | bk (e : En) | ct (e : En)
def Out.go (M : MEnds) : Out → Prop
  | .nx e => M.nx e
  | .rt r e => M.rt r e
  | .bk e => M.bk e
  | .ct e => M.ct e
abbrev ZS := En → Option Out
def CS (m : MS) (z : ZS) : Prop := ∀ env o, z env = some o → ∀ M Em, o.go M → m M Em env
def zNext : ZS := fun env => some (.nx env)
def zBreak : ZS := fun env => some (.bk env)
def zCont : ZS := fun env => some (.ct env)
def zRetN : ZS := fun env => some (.rt (.f .non) env)
def zNever : ZS := fun _ => none
theorem c_Next : CS mNext zNext := fun env o h M Em q => by cases h; exact q
theorem c_Break : CS mBreak zBreak := fun env o h M Em q => by cases h; exact q
theorem c_Cont : CS mCont zCont := fun env o h M Em q => by cases h; exact q
theorem c_RetN : CS mRetN zRetN := fun env o h M Em q => by cases h; exact q
theorem c_Never : CS mNever zNever := fun env o h M Em q => by cases h
def zSeq (a b : ZS) : ZS := fun env => (a env).bind fun o => match o with | .nx e => b e | o => some o
theorem c_Seq {m1 m2 : MS} {z1 z2 : ZS} (h1 : CS m1 z1) (h2 : CS m2 z2) : CS (mSeq m1 m2) (zSeq z1 z2) := fun env o h M Em q => by
  obtain ⟨o1, g1, h⟩ := bind_of h
  refine h1 env o1 g1 _ Em ?_
  cases o1 with
  | nx e => exact h2 e o h M Em q
  | rt r e => cases h; exact q
  | bk e => cases h; exact q
  | ct e => cases h; exact q
def zRet (z : Z DV) : ZS := fun env => (z env).bind fun p => some (.rt p.1 p.2)
def zDrop (z : Z DV) : ZS := fun env => (z env).bind fun p => some (.nx p.2)
theorem c_Ret {m : ME} {z : Z DV} (h : C m z) : CS (mRet m) (zRet z) := fun env o hz M Em q => by
  obtain ⟨p, g1, hz⟩ := bind_of hz
  cases hz
  exact h env p.1 p.2 g1 _ Em q
theorem c_Drop {m : ME} {z : Z DV} (h : C m z) : CS (mDrop m) (zDrop z) := fun env o hz M Em q => by
  obtain ⟨p, g1, hz⟩ := bind_of hz
  cases hz
  exact h env p.1 p.2 g1 _ Em q
def zIfS (t : Z Bool) (a b : ZS) : ZS := fun env => (t env).bind fun p => if p.1 = true then a p.2 else b p.2
theorem c_IfS {t : MT} {m1 m2 : MS} {y : Z Bool} {z1 z2 : ZS} (h : C t y) (h1 : CS m1 z1) (h2 : CS m2 z2) : CS (mIfS t m1 m2) (zIfS y z1 z2) := fun env o hz M Em q => by
  obtain ⟨p, g1, hz⟩ := bind_of hz
  refine h env p.1 p.2 g1 _ Em ?_
  by_cases k : p.1 = true
  · rw [if_pos k] at hz ⊢; exact h1 _ _ hz M Em q
  · rw [if_neg k] at hz ⊢; exact h2 _ _ hz M Em q
def zSet (i : Nat) (z : Z DV) : ZS := fun env => (z env).bind fun p => some (.nx (p.2.set i p.1))
theorem c_Set {i : Nat} {m : ME} {z : Z DV} (h : C m z) : CS (mSet i m) (zSet i z) := fun env o hz M Em q => by
  obtain ⟨p, g1, hz⟩ := bind_of hz
  cases hz
  exact h env p.1 p.2 g1 _ Em q
def zAsg (z : Z DV) (g : D → En → Option En) : ZS := fun env => (z env).bind fun p => (fzz p.1).bind fun d => (g d p.2).bind fun e => some (.nx e)
theorem c_Asg {m : ME} {z : Z DV} {mg : MG} {zg : D → En → Option En} (h : C m z) (h1 : CG mg zg) : CS (mAsg m mg) (zAsg z zg) := fun env o hz M Em q => by
  obtain ⟨p, g1, hz⟩ := bind_of hz
  obtain ⟨d, g2, hz⟩ := bind_of hz
  obtain ⟨e, g3, hz⟩ := bind_of hz
  cases hz
  exact h env p.1 p.2 g1 _ Em (fzz_ok g2 (h1 _ _ _ g3 _ q))
def isOz (dv : DV) : Option (List D) := match dv with | .o ds => some ds | _ => none
theorem isOz_ok {dv : DV} {ds : List D} (h : isOz dv = some ds) {k : List D → Prop} (hk : k ds) : isO dv k := by
  cases dv with
  | o x => cases h; exact hk
  | _ => cases h
def isValz (a : Arg) : Option D := match a with | .val d => some d | _ => none
theorem isValz_ok {a : Arg} {d : D} (h : isValz a = some d) {k : D → Prop} (hk : k d) : isVal a k := by
  cases a with
  | val x => cases h; exact hk
  | ref _ => cases h
def zApp (i : Nat) (za : Z Arg) : ZS := fun env => (isOz (env.getD i .u)).bind fun _ => (za env).bind fun p => (isValz p.1).bind fun d => (isOz (p.2.getD i .u)).bind fun ds => reqz (ds.length < sizeLine) (some (.nx (p.2.set i (.o (ds ++ [d])))))
theorem c_App {i : Nat} {ma : MO} {za : Z Arg} (h : C ma za) : CS (mApp i ma) (zApp i za) := fun env o hz M Em q => by
  obtain ⟨d0, g0, hz⟩ := bind_of hz
  obtain ⟨p, g1, hz⟩ := bind_of hz
  obtain ⟨d, g2, hz⟩ := bind_of hz
  obtain ⟨ds, g3, hz⟩ := bind_of hz
  obtain ⟨g4, hz⟩ := reqz_of hz
  cases hz
  exact isOz_ok g0 (h env p.1 p.2 g1 _ Em (isValz_ok g2 (isOz_ok g3 ⟨g4, q⟩)))
def zExt (i : Nat) (za : Z Arg) : ZS := fun env => (isOz (env.getD i .u)).bind fun _ => (za env).bind fun p => (isValz p.1).bind fun d => (isLstz d).bind fun es => (isOz (p.2.getD i .u)).bind fun ds => reqz (ds.length + es.length ≤ sizeLine) (some (.nx (p.2.set i (.o (ds ++ es)))))
theorem c_Ext {i : Nat} {ma : MO} {za : Z Arg} (h : C ma za) : CS (mExt i ma) (zExt i za) := fun env o hz M Em q => by
  obtain ⟨d0, g0, hz⟩ := bind_of hz
  obtain ⟨p, g1, hz⟩ := bind_of hz
  obtain ⟨d, g2, hz⟩ := bind_of hz
  obtain ⟨es, g5, hz⟩ := bind_of hz
  obtain ⟨ds, g3, hz⟩ := bind_of hz
  obtain ⟨g4, hz⟩ := reqz_of hz
  cases hz
  exact isOz_ok g0 (h env p.1 p.2 g1 _ Em (isValz_ok g2 (isLstz_ok g5 (isOz_ok g3 ⟨g4, q⟩))))
def zSetIx (i : Nat) (ze zk : Z Arg) : ZS := fun env => (ze env).bind fun p => (isOz (p.2.getD i .u)).bind fun _ => (zk p.2).bind fun y => (isValz p.1).bind fun d => (argIz y.2 y.1).bind fun k => (isOz (y.2.getD i .u)).bind fun ds => (ixN ds.length k).bind fun j => some (.nx (y.2.set i (.o (ds.set j d))))
theorem c_SetIx {i : Nat} {me mk : MO} {ze zk : Z Arg} (h1 : C me ze) (h2 : C mk zk) : CS (mSetIx i me mk) (zSetIx i ze zk) := fun env o hz M Em q => by
  obtain ⟨p, g1, hz⟩ := bind_of hz
  obtain ⟨d0, g0, hz⟩ := bind_of hz
  obtain ⟨y, g2, hz⟩ := bind_of hz
  obtain ⟨d, g3, hz⟩ := bind_of hz
  obtain ⟨k, g4, hz⟩ := bind_of hz
  obtain ⟨ds, g5, hz⟩ := bind_of hz
  obtain ⟨j, g6, hz⟩ := bind_of hz
  cases hz
  refine h1 env p.1 p.2 g1 _ Em (isOz_ok g0 (h2 _ y.1 y.2 g2 _ Em (isValz_ok g3 ?_)))
  obtain ⟨d2, g7, g4⟩ := bind_of g4
  refine lookz_ok g7 ?_
  cases d2 with
  | int k2 => cases g4; refine isOz_ok g5 ?_; rw [g6]; exact q
  | _ => cases g4
def zdNil : Z (List DV) := fun env => some ([], env)
def zdCons (a : Z DV) (r : Z (List DV)) : Z (List DV) := fun env => (a env).bind fun p => (r p.2).bind fun q => some (p.1 :: q.1, q.2)
theorem c_dNil : C dNil zdNil := fun env a e hz Q Em q => by cases hz; exact q
theorem c_dCons {ma : ME} {mr : MD} {za : Z DV} {zr : Z (List DV)} (h1 : C ma za) (h2 : C mr zr) : C (dCons ma mr) (zdCons za zr) := fun env a e hz Q Em q => by
  obtain ⟨p1, g1, hz⟩ := bind_of hz
  obtain ⟨p2, g2, hz⟩ := bind_of hz
  cases hz
  exact h1 env p1.1 p1.2 g1 _ Em (h2 _ _ _ g2 _ Em q)
def storeAllz : List Nat → List DV → En → Option En
  | [], [], env => some env
  | i :: is, r :: rs, env => storeAllz is rs (env.set i r)
  | _, _, _ => none
theorem storeAllz_ok : ∀ {is : List Nat} {rs : List DV} {env e : En}, storeAllz is rs env = some e → ∀ {k : En → Prop}, k e → storeAll is rs env k
  | [], [], _, _, h, _, hk => by cases h; exact hk
  | i :: is, r :: rs, env, e, h, k, hk => storeAllz_ok (is := is) h hk
  | [], _ :: _, _, _, h, _, _ => by cases h
  | _ :: _, [], _, _, h, _, _ => by cases h
def zPar (is : List Nat) (zd : Z (List DV)) : ZS := fun env => (zd env).bind fun p => (storeAllz is p.1 p.2).bind fun e => some (.nx e)
theorem c_Par {is : List Nat} {md : MD} {zd : Z (List DV)} (h : C md zd) : CS (mPar is md) (zPar is zd) := fun env o hz M Em q => by
  obtain ⟨p, g1, hz⟩ := bind_of hz
  obtain ⟨e, g2, hz⟩ := bind_of hz
  cases hz
  exact h env p.1 p.2 g1 _ Em (storeAllz_ok g2 q)
/-! ### loops -/
def loopz (zg : D → En → Option En) (zs : ZS) : List D → ZS
  | [], env => some (.nx env)
  | d :: ds, env => (zg d env).bind fun e1 => (zs e1).bind fun o => match o with
    | .nx e => loopz zg zs ds e
    | .ct e => loopz zg zs ds e
    | .bk e => some (.nx e)
    | .rt r e => some (.rt r e)
theorem loopz_ok {mg : MG} {ms : MS} {zg : D → En → Option En} {zs : ZS} (h1 : CG mg zg) (h2 : CS ms zs) {M : MEnds} {Em : EmT} {o : Out} (q : o.go M) : ∀ {ds : List D} {env : En}, loopz zg zs ds env = some o → loop mg ms M Em ds env
  | [], env, h => by cases h; exact q
  | d :: ds, env, h => by
    obtain ⟨e1, g1, h⟩ := bind_of h
    obtain ⟨o1, g2, h⟩ := bind_of h
    refine h1 d env e1 g1 _ (h2 e1 o1 g2 _ Em ?_)
    cases o1 with
    | nx e => exact loopz_ok h1 h2 q (ds := ds) h
    | ct e => exact loopz_ok h1 h2 q (ds := ds) h
    | bk e => cases h; exact q
    | rt r e => cases h; exact q
def zFor (zi : Z (List D)) (zg : D → En → Option En) (zs : ZS) : ZS := fun env => (zi env).bind fun p => loopz zg zs p.1 p.2
theorem c_For {mi : MI} {mg : MG} {ms : MS} {zi : Z (List D)} {zg : D → En → Option En} {zs : ZS} (h0 : C mi zi) (h1 : CG mg zg) (h2 : CS ms zs) : CS (mFor mi mg ms) (zFor zi zg zs) := fun env o hz M Em q => by
  obtain ⟨p, g1, hz⟩ := bind_of hz
  exact h0 env p.1 p.2 g1 _ Em (loopz_ok h1 h2 q hz)
def whilez (zt : Z Bool) (zs : ZS) : Nat → ZS
  | 0, _ => none
  | n + 1, env => (zt env).bind fun p => if p.1 = true then (zs p.2).bind fun o => match o with
    | .nx e => whilez zt zs n e
    | .ct e => whilez zt zs n e
    | .bk e => some (.nx e)
    | .rt r e => some (.rt r e) else some (.nx p.2)
def zWhile (zt : Z Bool) (zs : ZS) : ZS := whilez zt zs 1000000
theorem c_While {mt : MT} {ms : MS} {zt : Z Bool} {zs : ZS} (h1 : C mt zt) (h2 : CS ms zs) : CS (mWhile mt ms) (zWhile zt zs) := fun env o hz M Em q => by
  refine ⟨fun n e => whilez zt zs n e = some o, ⟨_, hz⟩, fun n e hw => ?_⟩
  cases n with
  | zero => cases hw
  | succ n =>
    obtain ⟨p, g1, hw⟩ := bind_of hw
    refine h1 e p.1 p.2 g1 _ Em ?_
    by_cases k : p.1 = true
    · rw [if_pos k] at hw ⊢
      obtain ⟨o1, g2, hw⟩ := bind_of hw
      refine h2 _ o1 g2 _ Em ?_
      cases o1 with
      | nx e => exact ⟨n, Nat.lt_succ_self n, hw⟩
      | ct e => exact ⟨n, Nat.lt_succ_self n, hw⟩
      | bk e => cases hw; exact q
      | rt r e => cases hw; exact q
    · rw [if_neg k] at hw ⊢
      cases hw
      exact q
def zBody (N n : Nat) (Rs : List Nat) (zs : ZS) : ZF := fun dvs => (zs (dvs ++ List.replicate (N - n) .u)).bind fun o => match o with
  | .nx e => some (.f .non, outs Rs e)
  | .rt r e => some (r, outs Rs e)
  | _ => none
theorem c_Body {N n : Nat} {Rs : List Nat} {ms : MS} {zs : ZS} (h : CS ms zs) : CF (mBody N n Rs ms) (zBody N n Rs zs) := fun ds r os hz Q Em q => by
  obtain ⟨o, g1, hz⟩ := bind_of hz
  refine h _ o g1 _ _ ?_
  cases o with
  | nx e => cases hz; exact q
  | rt r e => cases hz; exact q
  | bk e => cases hz
  | ct e => cases hz
end VL
/-! VL: operators and built-ins as programs. -/
namespace VL
open PySem PySem.Spec PyProof.Rows L2
def zII (c : Int → Int → Prop) [∀ i j, Decidable (c i j)] (g : Int → Int → D) (d e : D) : Option DV := match d, e with
  | .int i, .int j => reqz (c i j) (some (.f (g i j)))
  | _, _ => none
theorem c_II {c : Int → Int → Prop} [∀ i j, Decidable (c i j)] {g : Int → Int → D} : G2 (gII c g) (zII c g) := fun d e r h k hk => by
  unfold zII at h
  split at h
  · obtain ⟨h1, h2⟩ := reqz_of h
    cases h2
    exact req_i h1 hk
  · cases h
def zAdd (d e : D) : Option DV := match d, e with
  | .int i, .int j => some (.f (.int (i + j)))
  | .str i, .str j => reqz (i.length + j.length ≤ sizeLine) (some (.f (.str (i ++ j))))
  | .lst a, .lst b => reqz (a.length + b.length ≤ sizeLine) (some (.o (a ++ b)))
  | .tup a, .tup b => reqz (a.length + b.length ≤ sizeLine) (some (.f (.tup (a ++ b))))
  | _, _ => none
theorem c_Add : G2 gAdd zAdd := fun d e r h k hk => by
  unfold zAdd at h
  split at h
  · cases h; exact hk
  · obtain ⟨h1, h2⟩ := reqz_of h; cases h2; exact req_i h1 hk
  · obtain ⟨h1, h2⟩ := reqz_of h; cases h2; exact req_i h1 hk
  · obtain ⟨h1, h2⟩ := reqz_of h; cases h2; exact req_i h1 hk
  · cases h
def zRepL (d e : D) : Option DV := match d, e with
  | .lst a, .int j => reqz (-(2 ^ 63) ≤ j ∧ j < 2 ^ 63 ∧ a.length * j.toNat ≤ sizeLine) (some (.o (List.replicate j.toNat a).flatten))
  | _, _ => none
theorem c_RepL : G2 gRepL zRepL := fun d e r h k hk => by
  unfold zRepL at h
  split at h
  · obtain ⟨h1, h2⟩ := reqz_of h; cases h2; exact req_i h1 hk
  · cases h
def zRepT (d e : D) : Option DV := match d, e with
  | .tup a, .int j => reqz (a.isEmpty = false ∧ -1000 ≤ j ∧ j ≤ 1000 ∧ a.length ≤ 1000) (some (.f (.tup (List.replicate j.toNat a).flatten)))
  | _, _ => none
theorem c_RepT : G2 gRepT zRepT := fun d e r h k hk => by
  unfold zRepT at h
  split at h
  · obtain ⟨h1, h2⟩ := reqz_of h; cases h2; exact req_i h1 hk
  · cases h
def zEqD (neg : Bool) (d e : D) : Option DV := match d.py, e.py with
  | some p, some q => reqz (SeqAt.shaped p = true ∧ SeqAt.shaped q = true) (some (.f (.bl (if neg then !PyData.eqv p q else PyData.eqv p q))))
  | _, _ => none
def zEq (neg : Bool) (d e : D) : Option DV := match eqS d e with
  | some b => some (.f (.bl (if neg then !b else b)))
  | none => zEqD neg d e
theorem c_EqD {neg : Bool} : G2 (gEqD neg) (zEqD neg) := fun d e r h k hk => by
  unfold zEqD at h
  unfold gEqD
  generalize d.py = a at h ⊢
  generalize e.py = b at h ⊢
  cases a with
  | none => cases h
  | some p =>
    cases b with
    | none => cases h
    | some q =>
      obtain ⟨h1, h2⟩ := reqz_of h; cases h2; exact req_i h1 hk
theorem c_Eq {neg : Bool} : G2 (gEq neg) (zEq neg) := fun d e r h k hk => by
  unfold zEq at h
  unfold gEq
  generalize eqS d e = x at h ⊢
  cases x with
  | some b => cases h; exact hk
  | none => exact c_EqD d e r h k hk
def zIsN (neg : Bool) (d e : D) : Option DV := match e, isNonD d with
  | .non, some b => some (.f (.bl (if neg then !b else b)))
  | _, _ => none
theorem c_IsN {neg : Bool} : G2 (gIsN neg) (zIsN neg) := fun d e r h k hk => by
  unfold zIsN at h
  unfold gIsN
  split at h
  · rename_i w; cases h; first | exact hk | (rw [w]; exact hk)
  · cases h
def zIsB (neg : Bool) (d e : D) : Option DV := match d, e with
  | .bl a, .bl b => some (.f (.bl (if neg then !decide (a = b) else decide (a = b))))
  | _, _ => none
theorem c_IsB {neg : Bool} : G2 (gIsB neg) (zIsB neg) := fun d e r h k hk => by
  unfold zIsB at h
  split at h
  · cases h; exact hk
  · cases h
def zNeg (d : D) : Option DV := match d with | .int i => some (.f (.int (-i))) | _ => none
theorem c_Neg : G1 gNeg zNeg := fun d r h k hk => by
  cases d with
  | int i => cases h; exact hk
  | _ => cases h
def zIx (d e : D) : Option DV := match d, e with
  | .lst ds, .int i => (atI ds i).bind fun x => some (.f x)
  | .tup ds, .int i => (atI ds i).bind fun x => some (.f x)
  | .scr is, .int i => (atI is i).bind fun x => some (.f (.int x))
  | _, _ => none
theorem c_Ix : G2 gIx zIx := fun d e r h k hk => by
  unfold zIx at h
  unfold gIx
  split at h
  · obtain ⟨x, g1, h⟩ := bind_of h; cases h; first | (dsimp only; rw [g1]; exact hk) | (rw [g1]; exact hk)
  · obtain ⟨x, g1, h⟩ := bind_of h; cases h; first | (dsimp only; rw [g1]; exact hk) | (rw [g1]; exact hk)
  · obtain ⟨x, g1, h⟩ := bind_of h; cases h; first | (dsimp only; rw [g1]; exact hk) | (rw [g1]; exact hk)
  · cases h
def zLen (ds : List D) : Option DV := match ds with
  | [.lst xs] => some (.f (.int xs.length))
  | [.tup xs] => some (.f (.int xs.length))
  | [.str x] => reqz (x.length ≤ sizeLine) (some (.f (.int x.length)))
  | [.scr is] => some (.f (.int is.length))
  | _ => none
theorem c_Len : GN gLen zLen := fun ds r h k hk => by
  unfold zLen at h
  split at h
  · cases h; exact hk
  · cases h; exact hk
  · obtain ⟨h1, h2⟩ := reqz_of h; cases h2; exact req_i h1 hk
  · cases h; exact hk
  · cases h
def zIsi (ds : List D) : Option DV := match ds with
  | [d, .val (.ty b)] => d.ty.bind fun a => (isB a b).bind fun r => some (.f (.bl r))
  | [d, .tup cs] => d.ty.bind fun a => (isAny a cs).bind fun r => some (.f (.bl r))
  | _ => none
theorem c_Isi : GN gIsi zIsi := fun ds r h k hk => by
  unfold zIsi at h
  split at h
  · obtain ⟨a, g1, h⟩ := bind_of h
    obtain ⟨b, g2, h⟩ := bind_of h
    cases h
    unfold gIsi; dsimp only; rw [g1]; dsimp only; rw [g2]; exact hk
  · obtain ⟨a, g1, h⟩ := bind_of h
    obtain ⟨b, g2, h⟩ := bind_of h
    cases h
    unfold gIsi; dsimp only; rw [g1]; dsimp only; rw [g2]; exact hk
  · cases h
def zMax (ds : List D) : Option DV := match ds with
  | [.int i, .int j] => some (.f (.int (if j > i then j else i)))
  | [.lst xs] => (match intsD xs with | some (i :: is) => some (.f (.int (maxI i is))) | _ => none)
  | [.tup xs] => (match intsD xs with | some (i :: is) => some (.f (.int (maxI i is))) | _ => none)
  | _ => none
def zMin (ds : List D) : Option DV := match ds with
  | [.int i, .int j] => some (.f (.int (if j < i then j else i)))
  | [.lst xs] => (match intsD xs with | some (i :: is) => some (.f (.int (minI i is))) | _ => none)
  | [.tup xs] => (match intsD xs with | some (i :: is) => some (.f (.int (minI i is))) | _ => none)
  | _ => none
theorem c_Max : GN gMax zMax := fun ds r h k hk => by
  unfold zMax at h
  split at h
  · cases h; exact hk
  · split at h
    · rename_i w; cases h; unfold gMax; dsimp only; rw [w]; exact hk
    · cases h
  · split at h
    · rename_i w; cases h; unfold gMax; dsimp only; rw [w]; exact hk
    · cases h
  · cases h
theorem c_Min : GN gMin zMin := fun ds r h k hk => by
  unfold zMin at h
  split at h
  · cases h; exact hk
  · split at h
    · rename_i w; cases h; unfold gMin; dsimp only; rw [w]; exact hk
    · cases h
  · split at h
    · rename_i w; cases h; unfold gMin; dsimp only; rw [w]; exact hk
    · cases h
  · cases h
def zSum (ds : List D) : Option DV := match ds with
  | [.lst xs] => (intsD xs).bind fun is => some (.f (.int is.sum))
  | _ => none
theorem c_Sum : GN gSum zSum := fun ds r h k hk => by
  unfold zSum at h
  split at h
  · obtain ⟨a, g1, h⟩ := bind_of h; cases h; unfold gSum; dsimp only; rw [g1]; exact hk
  · cases h
def zAllB (ds : List D) : Option DV := match ds with
  | [.lst xs] => (blsD xs).bind fun is => some (.f (.bl (is.all id)))
  | _ => none
theorem c_AllB : GN gAllB zAllB := fun ds r h k hk => by
  unfold zAllB at h
  split at h
  · obtain ⟨a, g1, h⟩ := bind_of h; cases h; unfold gAllB; dsimp only; rw [g1]; exact hk
  · cases h
def zAny (ds : List D) : Option DV := match ds with
  | [.lst xs] => (blsD xs).bind fun is => some (.f (.bl (is.any id)))
  | _ => none
theorem c_Any : GN gAny zAny := fun ds r h k hk => by
  unfold zAny at h
  split at h
  · obtain ⟨a, g1, h⟩ := bind_of h; cases h; unfold gAny; dsimp only; rw [g1]; exact hk
  · cases h
def zAbs (ds : List D) : Option DV := match ds with
  | [.int i] => some (.f (.int (if i < 0 then -i else i)))
  | _ => none
theorem c_Abs : GN gAbs zAbs := fun ds r h k hk => by
  unfold zAbs at h
  split at h
  · cases h; exact hk
  · cases h
def zInt (ds : List D) : Option DV := match ds with
  | [.int i] => some (.f (.int i))
  | [.bl b] => some (.f (.int (if b then 1 else 0)))
  | _ => none
theorem c_Int : GN gInt zInt := fun ds r h k hk => by
  unfold zInt at h
  split at h
  · cases h; exact hk
  · cases h; exact hk
  · cases h
def zDivmod (ds : List D) : Option DV := match ds with
  | [.int i, .int j] => reqz (CDiv i j) (some (.f (.tup [.int (i / j), .int (i % j)])))
  | _ => none
theorem c_Divmod : GN gDivmod zDivmod := fun ds r h k hk => by
  unfold zDivmod at h
  split at h
  · obtain ⟨h1, h2⟩ := reqz_of h; cases h2; exact req_i h1 hk
  · cases h
def zList (ds : List D) : Option DV := match ds with
  | [.lst xs] => some (.o xs)
  | [.tup xs] => some (.o xs)
  | _ => none
theorem c_List : GN gList zList := fun ds r h k hk => by
  unfold zList at h
  split at h
  · cases h; exact hk
  · cases h; exact hk
  · cases h
def zTuple (ds : List D) : Option DV := match ds with
  | [.lst xs] => some (.f (.tup xs))
  | [.tup xs] => some (.f (.tup xs))
  | _ => none
theorem c_Tuple : GN gTuple zTuple := fun ds r h k hk => by
  unfold zTuple at h
  split at h
  · cases h; exact hk
  · cases h; exact hk
  · cases h
abbrev zSub' : D → D → Option DV := zII (fun _ _ => True) fun i j => .int (i - j)
abbrev zMulI : D → D → Option DV := zII CMul fun i j => .int (i * j)
abbrev zFdiv : D → D → Option DV := zII CDiv fun i j => .int (i / j)
abbrev zMod : D → D → Option DV := zII (fun _ j => 0 < j) fun i j => .int (i % j)
abbrev zPow : D → D → Option DV := zII CPow fun i j => .int (i ^ j.toNat)
abbrev zCmp (p : Int → Int → Bool) : D → D → Option DV := zII (fun _ _ => True) fun i j => .bl (p i j)
def zIn (neg : Bool) (d e : D) : Option DV := match plainV d, e with
  | some v, .lst ds => (plainVs ds).bind fun vs => some (.f (.bl (if neg then !inV v vs else inV v vs)))
  | some v, .tup ds => (plainVs ds).bind fun vs => some (.f (.bl (if neg then !inV v vs else inV v vs)))
  | _, _ => none
theorem c_In {neg : Bool} : G2 (gIn neg) (zIn neg) := fun d e r h k hk => by
  unfold zIn at h
  unfold gIn
  split at h
  · rename_i w
    obtain ⟨x, g1, h⟩ := bind_of h; cases h; first | (rw [w]; dsimp only; rw [g1]; exact hk) | (dsimp only; rw [g1]; exact hk) | (rw [g1]; exact hk) | exact hk
  · rename_i w
    obtain ⟨x, g1, h⟩ := bind_of h; cases h; first | (rw [w]; dsimp only; rw [g1]; exact hk) | (dsimp only; rw [g1]; exact hk) | (rw [g1]; exact hk) | exact hk
  · cases h
def zSorted (ds : List D) : Option DV := match ds with
  | [.lst xs] => (intsD xs).bind fun is => some (.o ((sortI is).map D.int))
  | _ => none
theorem c_Sorted : GN gSorted zSorted := fun ds r h k hk => by
  unfold zSorted at h
  split at h
  · obtain ⟨a, g1, h⟩ := bind_of h; cases h; unfold gSorted; dsimp only; rw [g1]; exact hk
  · cases h
end VL
/-! The walk: printed by gen.py. -/
namespace Wk
open PySem PySem.Spec PyProof.Rows L2 VL
def topS (i : Nat) : Stmt := PySem.Challenge.pw_upforgood_k87_numbers_of_stars.main.body.getD i (.Pass ⟨0, 0, 0, 0⟩)
abbrev s_is_whole : Stmt := topS 8
abbrev s_is_between : Stmt := topS 9
abbrev s_is_list : Stmt := topS 10
abbrev s_are_between : Stmt := topS 11
abbrev s_choose_of : Stmt := topS 13
abbrev s_arrangements_of : Stmt := topS 14
abbrev s_even_parts_of : Stmt := topS 15
abbrev s_are_counts : Stmt := topS 19
abbrev s_check_gather : Stmt := topS 20
abbrev s_check_spread : Stmt := topS 21
abbrev s_number_of : Stmt := topS 22
abbrev s_gathered : Stmt := topS 23
abbrev s_spread : Stmt := topS 24
abbrev s_check_row : Stmt := topS 29
abbrev s_check_kinds : Stmt := topS 30
abbrev s_greatest_numbers : Stmt := topS 31
abbrev s_greatest_left : Stmt := topS 32
abbrev s_least_other : Stmt := topS 33
abbrev s_stair_ahead : Stmt := topS 34
abbrev s_stairs_by : Stmt := topS 35
abbrev s_lets : Stmt := topS 36
abbrev s_can_tell : Stmt := topS 37
abbrev s_law_cell : Stmt := topS 39
abbrev s_law_box : Stmt := topS 40
abbrev s_law_take : Stmt := topS 41
abbrev s_law_same : Stmt := topS 42
abbrev s_law_choose : Stmt := topS 43
abbrev s_law_parted : Stmt := topS 44
abbrev s_law_count : Stmt := topS 45
abbrev s_law_counts : Stmt := topS 46
abbrev s_law_gather_told : Stmt := topS 47
abbrev s_law_spread_told : Stmt := topS 48
abbrev s_law_line_right : Stmt := topS 49
abbrev s_law_gather_right : Stmt := topS 50
abbrev s_law_spread_right : Stmt := topS 51
abbrev s_law : Stmt := topS 52
/-- what stands under the names of the top -/
structure Txt (K : PySem.W.Frag) (mg : Str → Option Value) : Prop where
  a_is_whole : At K mg "is_whole" s_is_whole
  a_is_between : At K mg "is_between" s_is_between
  a_is_list : At K mg "is_list" s_is_list
  a_are_between : At K mg "are_between" s_are_between
  a_choose_of : At K mg "choose_of" s_choose_of
  a_arrangements_of : At K mg "arrangements_of" s_arrangements_of
  a_even_parts_of : At K mg "even_parts_of" s_even_parts_of
  a_are_counts : At K mg "are_counts" s_are_counts
  a_check_gather : At K mg "check_gather" s_check_gather
  a_check_spread : At K mg "check_spread" s_check_spread
  a_number_of : At K mg "number_of" s_number_of
  a_gathered : At K mg "gathered" s_gathered
  a_spread : At K mg "spread" s_spread
  a_check_row : At K mg "check_row" s_check_row
  a_check_kinds : At K mg "check_kinds" s_check_kinds
  a_greatest_numbers : At K mg "greatest_numbers" s_greatest_numbers
  a_greatest_left : At K mg "greatest_left" s_greatest_left
  a_least_other : At K mg "least_other" s_least_other
  a_stair_ahead : At K mg "stair_ahead" s_stair_ahead
  a_stairs_by : At K mg "stairs_by" s_stairs_by
  a_lets : At K mg "lets" s_lets
  a_can_tell : At K mg "can_tell" s_can_tell
  a_law_cell : At K mg "_law_cell" s_law_cell
  a_law_box : At K mg "_law_box" s_law_box
  a_law_take : At K mg "_law_take" s_law_take
  a_law_same : At K mg "_law_same" s_law_same
  a_law_choose : At K mg "_law_choose" s_law_choose
  a_law_parted : At K mg "_law_parted" s_law_parted
  a_law_count : At K mg "_law_count" s_law_count
  a_law_counts : At K mg "_law_counts" s_law_counts
  a_law_gather_told : At K mg "_law_gather_told" s_law_gather_told
  a_law_spread_told : At K mg "_law_spread_told" s_law_spread_told
  a_law_line_right : At K mg "_law_line_right" s_law_line_right
  a_law_gather_right : At K mg "_law_gather_right" s_law_gather_right
  a_law_spread_right : At K mg "_law_spread_right" s_law_spread_right
  a_law : At K mg "law" s_law
  c_MOST_KINDS_rows : ∃ t, mg "MOST_KINDS_rows" = some (.int 16 t)
  c_MOST_KINDS_stars : ∃ t, mg "MOST_KINDS_stars" = some (.int 8 t)
  c_MOST_NUMBER : ∃ t, mg "MOST_NUMBER" = some (.int 100000000000000000000000000000000000000000000000000 t)
  c_MOST_NUMBERS : ∃ t, mg "MOST_NUMBERS" = some (.int 16 t)
  c_MOST_OTHERS : ∃ t, mg "MOST_OTHERS" = some (.int 4 t)
  z_abs : mg "abs" = none
  z_all : mg "all" = none
  z_bool : mg "bool" = none
  z_divmod : mg "divmod" = none
  z_enumerate : mg "enumerate" = none
  z_int : mg "int" = none
  z_isinstance : mg "isinstance" = none
  z_len : mg "len" = none
  z_list : mg "list" = none
  z_max : mg "max" = none
  z_min : mg "min" = none
  z_range : mg "range" = none
  z_reversed : mg "reversed" = none
  z_str : mg "str" = none
  z_sum : mg "sum" = none
  z_tuple : mg "tuple" = none
  z_zip : mg "zip" = none
/-! ### mirrors -/
abbrev N_is_whole : List Str := ["value"]
def m_is_whole : MF := mBody 1 1 [] ((mRet (mAnd (mB gIsi (aCons (oVar 0) (aCons (oVal (mC (.val (.ty "int")))) aNil))) (mNot (mB gIsi (aCons (oVar 0) (aCons (oVal (mC (.val (.ty "bool")))) aNil)))))))
abbrev N_is_between : List Str := ["value", "least", "most"]
def m_is_between : MF := mBody 3 3 [] ((mRet (mAnd (mCall m_is_whole [] 1 (aCons (oVal (mVar 0)) aNil)) (mChain (gCmp fun i j => decide (i ≤ j)) (gCmp fun i j => decide (i ≤ j)) (oVar 1) (oVar 0) (oVar 2)))))
abbrev N_is_list : List Str := ["value"]
def m_is_list : MF := mBody 1 1 [] ((mRet (mB gIsi (aCons (oVar 0) (aCons (oVal (mTup (aCons (oVal (mC (.val (.ty "list")))) (aCons (oVal (mC (.val (.ty "tuple")))) aNil)))) aNil)))))
abbrev N_are_between : List Str := ["value", "least", "most", "one"]
def m_are_between : MF := mBody 4 3 [] ((mRet (mAnd (mCall m_is_list [] 1 (aCons (oVal (mVar 0)) aNil)) (mB gAllB (aCons (oVal (mLc [3] (iSq (mVar 0)) (mgName 3) mYes (mCall m_is_between [] 3 (aCons (oVal (mVar 3)) (aCons (oVal (mVar 1)) (aCons (oVal (mVar 2)) aNil)))))) aNil)))))
abbrev N_choose_of : List Str := ["number", "many", "found", "index"]
def m_choose_of : MF := mBody 4 2 [] ((mSeq (mSet 2 (mC (.int 1)))
    (mSeq (mFor (iRange1 (aCons (oVar 1) aNil)) (mgName 3) (mSet 2 (mOp gFdiv (oVal (mOp gMulI (oVar 2) (oVal (mOp gSub' (oVar 0) (oVar 3))))) (oVal (mOp gAdd (oVar 3) (oVal (mC (.int 1))))))))
    (mRet (mMove 2)))))
abbrev N_arrangements_of : List Str := ["parts", "found", "total", "part"]
def m_arrangements_of : MF := mBody 4 1 [] ((mSeq (mPar [1, 2] (dCons (mC (.int 1)) (dCons (mC (.int 0)) dNil)))
    (mSeq (mFor (iSq (mVar 0)) (mgName 3) (mSeq (mSet 2 (mOp gAdd (oVar 2) (oVar 3)))
    (mSet 1 (mOp gMulI (oVar 1) (oVal (mCall m_choose_of [] 2 (aCons (oVal (mVar 2)) (aCons (oVal (mVar 3)) aNil))))))))
    (mRet (mMove 1)))))
abbrev N_even_parts_of : List Str := ["total", "many", "least", "more"]
def m_even_parts_of : MF := mBody 4 2 [] ((mSeq (mAsg (mB gDivmod (aCons (oVar 0) (aCons (oVar 1) aNil))) (mgTup 2 (mgCons (mgName 2) (mgCons (mgName 3) mgNil))))
    (mRet (mOp gAdd (oVal (mOp gRepT (oVal (mTup (aCons (oVal (mOp gAdd (oVar 2) (oVal (mC (.int 1))))) aNil))) (oVar 3))) (oVal (mOp gRepT (oVal (mTup (aCons (oVal (mVar 2)) aNil))) (oVal (mOp gSub' (oVar 1) (oVar 3)))))))))
abbrev N_are_counts : List Str := ["value", "least"]
def m_are_counts : MF := mBody 2 2 [] ((mRet (mAnd (mCall m_are_between [] 3 (aCons (oVal (mVar 0)) (aCons (oVal (mVar 1)) (aCons (oVal (mC (.int 8))) aNil)))) (mChain (gCmp fun i j => decide (i ≤ j)) (gCmp fun i j => decide (i ≤ j)) (oVal (mC (.int 1))) (oVal (mB gLen (aCons (oVar 0) aNil))) (oVal (mC (.int 4)))))))
abbrev N_check_gather : List Str := ["kinds", "answers"]
def m_check_gather : MF := mBody 2 2 [] ((mSeq (mIfS (tNot' (tTru (oVal (mCall m_are_counts [] 2 (aCons (oVal (mVar 0)) (aCons (oVal (mC (.int 1))) aNil)))))) mNever mNext)
    (mIfS (tNot' (tTru (oVal (mCall m_is_between [] 3 (aCons (oVal (mVar 1)) (aCons (oVal (mC (.int 0))) (aCons (oVal (mC (.int 8))) aNil))))))) mNever mNext)))
abbrev N_check_spread : List Str := ["kinds", "answers"]
def m_check_spread : MF := mBody 2 2 [] ((mSeq (mIfS (tNot' (tTru (oVal (mCall m_is_between [] 3 (aCons (oVal (mVar 0)) (aCons (oVal (mC (.int 1))) (aCons (oVal (mC (.int 8))) aNil))))))) mNever mNext)
    (mIfS (tNot' (tTru (oVal (mCall m_are_counts [] 2 (aCons (oVal (mVar 1)) (aCons (oVal (mC (.int 0))) aNil)))))) mNever mNext)))
abbrev N_number_of : List Str := ["kinds", "answers"]
def m_number_of : MF := mBody 2 2 [] ((mRet (mCall m_arrangements_of [] 1 (aCons (oVal (mCall m_even_parts_of [] 2 (aCons (oVal (mVar 0)) (aCons (oVal (mOp gAdd (oVar 1) (oVal (mC (.int 2))))) aNil)))) aNil))))
abbrev N_gathered : List Str := ["kinds", "answers", "one"]
def m_gathered : MF := mBody 3 2 [] ((mSeq (mDrop (mCall m_check_gather [] 2 (aCons (oVal (mVar 0)) (aCons (oVal (mVar 1)) aNil))))
    (mRet (mB gTuple (aCons (oVal (mLc [2] (iSq (mVar 0)) (mgName 2) mYes (mCall m_number_of [] 2 (aCons (oVal (mVar 2)) (aCons (oVal (mVar 1)) aNil))))) aNil)))))
abbrev N_spread : List Str := ["kinds", "answers"]
def m_spread : MF := mBody 2 2 [] ((mSeq (mDrop (mCall m_check_spread [] 2 (aCons (oVal (mVar 0)) (aCons (oVal (mVar 1)) aNil))))
    (mRet (mCall m_number_of [] 2 (aCons (oVal (mVar 0)) (aCons (oVal (mB gMin (aCons (oVar 1) aNil))) aNil))))))
abbrev N_check_row : List Str := ["row"]
def m_check_row : MF := mBody 1 1 [] ((mIfS (tOr' (tNot' (tTru (oVal (mCall m_are_between [] 3 (aCons (oVal (mVar 0)) (aCons (oVal (mC (.int 1))) (aCons (oVal (mC (.int 100000000000000000000000000000000000000000000000000))) aNil))))))) (tB' (mOp (gCmp fun i j => decide (j < i)) (oVal (mB gLen (aCons (oVar 0) aNil))) (oVal (mC (.int 16)))))) mNever mNext))
abbrev N_check_kinds : List Str := ["own", "other"]
def m_check_kinds : MF := mBody 2 2 [] ((mSeq (mIfS (tNot' (tTru (oVal (mCall m_is_between [] 3 (aCons (oVal (mVar 0)) (aCons (oVal (mC (.int 0))) (aCons (oVal (mC (.int 16))) aNil))))))) mNever mNext)
    (mIfS (tNot' (tTru (oVal (mCall m_is_between [] 3 (aCons (oVal (mVar 1)) (aCons (oVal (mC (.int 0))) (aCons (oVal (mC (.int 16))) aNil))))))) mNever mNext)))
abbrev N_greatest_numbers : List Str := ["most", "found", "n", "rows", "r", "sizes", "behind", "left", "size", "told"]
def m_greatest_numbers : MF := mBody 10 1 [] ((mSeq (mSet 1 (mLst aNil))
    (mSeq (mFor (iRange1 (aCons (oVal (mOp gAdd (oVar 0) (oVal (mC (.int 1))))) aNil)) (mgName 2) (mSeq (mSet 3 (mLst aNil))
    (mSeq (mFor (iRange1 (aCons (oVar 2) aNil)) (mgName 4) (mSeq (mSet 5 (mLc [7] (iRange1 (aCons (oVal (mOp gSub' (oVar 2) (oVar 4))) aNil)) (mgName 7) mYes (mOp gFdiv (oVal (mOp gSub' (oVar 2) (oVar 7))) (oVal (mOp gAdd (oVar 4) (oVal (mC (.int 1))))))))
    (mSeq (mSet 6 (mLc [7, 8] (iEnumL (aCons (oVal (mVar 5)) aNil)) (mgTup 2 (mgCons (mgName 7) (mgCons (mgName 8) mgNil))) mYes (mIf (tB' (mOp (gCmp fun i j => decide (j < i)) (oVar 4) (oVal (mC (.int 0))))) (mOp gIx (oVal (mOp gIx (oVal (mOp gIx (oVar 1) (oVal (mOp gSub' (oVar 2) (oVar 8))))) (oVal (mOp gSub' (oVar 4) (oVal (mC (.int 1))))))) (oVar 7)) (mC (.int 1)))))
    (mApp 3 (oVal (mLc [8, 9] (iZipL (aCons (oVal (mVar 5)) (aCons (oVal (mVar 6)) aNil))) (mgTup 2 (mgCons (mgName 8) (mgCons (mgName 9) mgNil))) mYes (mOp gMulI (oVal (mCall m_choose_of [] 2 (aCons (oVal (mVar 2)) (aCons (oVal (mVar 8)) aNil)))) (oVar 9))))))))
    (mApp 1 (oVal (mVar 3))))))
    (mRet (mMove 1)))))
abbrev N_greatest_left : List Str := ["number", "numbers", "left", "told"]
def m_greatest_left : MF := mBody 4 2 [] ((mRet (mBD maxI (aCons (oVal (mLc [2, 3] (iEnumL (aCons (oVal (mVar 1)) aNil)) (mgTup 2 (mgCons (mgName 2) (mgCons (mgName 3) mgNil))) (tB' (mOp (gCmp fun i j => decide (j ≤ i)) (oVar 3) (oVar 0))) (mVar 2))) aNil) (aCons (oVal (mUn gNeg (oVal (mC (.int 1))))) aNil))))
abbrev N_least_other : List Str := ["stair", "left", "at", "item"]
def m_least_other : MF := mBody 4 2 [] ((mSeq (mFor (iEnumL (aCons (oVal (mVar 0)) aNil)) (mgTup 2 (mgCons (mgName 2) (mgCons (mgName 3) mgNil))) (mIfS (tAnd' (tB' (mOp (gIsN true) (oVar 3) (oVal (mC .non)))) (tB' (mOp (gCmp fun i j => decide (i ≤ j)) (oVar 3) (oVar 1)))) (mRet (mMove 2)) mNext))
    (mRet (mC .non))))
abbrev N_stair_ahead : List Str := ["number", "behind", "best", "found", "rows", "ways", "r", "numbers", "rest"]
def m_stair_ahead : MF := mBody 9 3 [] ((mSeq (mSet 3 (mLst aNil))
    (mSeq (mFor (iSq (mVar 2)) (mgName 4) (mSeq (mSet 5 (mLst aNil))
    (mSeq (mFor (iEnumL (aCons (oVal (mVar 4)) aNil)) (mgTup 2 (mgCons (mgName 6) (mgCons (mgName 7) mgNil))) (mSeq (mSet 8 (mCall m_least_other [] 2 (aCons (oVal (mVar 1)) (aCons (oVal (mCall m_greatest_left [] 2 (aCons (oVal (mVar 0)) (aCons (oVal (mVar 7)) aNil)))) aNil))))
    (mIfS (tAnd' (tB' (mOp (gIsN true) (oVar 8) (oVal (mC .non)))) (tB' (mOp (gCmp fun i j => decide (i < j)) (oVal (mOp gAdd (oVar 6) (oVar 8))) (oVal (mB gLen (aCons (oVar 2) aNil)))))) (mApp 5 (oVal (mOp gAdd (oVar 6) (oVar 8)))) mNext)))
    (mApp 3 (oVal (mBD minI (aCons (oVar 5) aNil) (aCons (oVal (mC .non)) aNil)))))))
    (mRet (mMove 3)))))
abbrev N_stairs_by : List Str := ["row", "best", "found", "number"]
def m_stairs_by : MF := mBody 4 2 [] ((mSeq (mSet 2 (mLst (aCons (oVal (mOp gRepL (oVal (mLst (aCons (oVal (mC (.int 0))) aNil))) (oVal (mB gLen (aCons (oVar 1) aNil))))) aNil)))
    (mSeq (mFor (iRevL (aCons (oVal (mVar 0)) aNil)) (mgName 3) (mApp 2 (oVal (mCall m_stair_ahead [] 3 (aCons (oVal (mVar 3)) (aCons (oVal (mOp gIx (oVar 2) (oVal (mUn gNeg (oVal (mC (.int 1))))))) (aCons (oVal (mVar 1)) aNil)))))))
    (mRet (mRevS (oVar 2))))))
abbrev N_lets : List Str := ["stair", "n", "a"]
def m_lets : MF := mBody 3 3 [] ((mRet (mAnd (mOp (gIsN true) (oVal (mOp gIx (oVar 0) (oVar 1))) (oVal (mC .non))) (mOp (gCmp fun i j => decide (i ≤ j)) (oVal (mOp gIx (oVar 0) (oVar 1))) (oVar 2)))))
abbrev N_can_tell : List Str := ["row", "own", "other"]
def m_can_tell : MF := mBody 3 3 [] ((mSeq (mDrop (mCall m_check_row [] 1 (aCons (oVal (mVar 0)) aNil)))
    (mSeq (mDrop (mCall m_check_kinds [] 2 (aCons (oVal (mVar 1)) (aCons (oVal (mVar 2)) aNil))))
    (mRet (mCall m_lets [] 3 (aCons (oVal (mOp gIx (oVal (mCall m_stairs_by [] 2 (aCons (oVal (mVar 0)) (aCons (oVal (mCall m_greatest_numbers [] 1 (aCons (oVal (mB gMax (aCons (oVar 1) (aCons (oVar 2) aNil)))) aNil))) aNil)))) (oVal (mC (.int 0))))) (aCons (oVal (mVar 1)) (aCons (oVal (mVar 2)) aNil))))))))
abbrev N_law_cell : List Str := ["script", "k"]
def m_law_cell : MF := mBody 2 2 [] ((mRet (mIf (tB' (mOp (gCmp fun i j => decide (i < j)) (oVar 1) (oVal (mB gLen (aCons (oVar 0) aNil))))) (mOp gIx (oVar 0) (oVar 1)) (mOp gAdd (oVal (mOp gMulI (oVal (mC (.int 6007))) (oVar 1))) (oVal (mOp gMod (oVal (mB gInt (aCons (oVal (mB gSum (aCons (oVal (mSl (oVar 0) pNone (pSome (oVal (mC (.int 1)))))) aNil))) aNil))) (oVal (mC (.int 1000033)))))))))
abbrev N_law_box : List Str := ["great"]
def m_law_box : MF := mBody 1 1 [] ((mRet (mLst (aCons (oVal (mB gAbs (aCons (oVar 0) aNil))) (aCons (oVal (mOp (gCmp fun i j => decide (j ≤ i)) (oVal (mB gAbs (aCons (oVar 0) aNil))) (oVal (mOp gPow (oVal (mC (.int 10))) (oVal (mC (.int 18))))))) (aCons (oVal (mOp gMod (oVal (mB gInt (aCons (oVal (mB gAbs (aCons (oVar 0) aNil))) aNil))) (oVal (mC (.int 2147483629))))) (aCons (oVal (mC (.int 0))) aNil)))))))
abbrev N_law_take : List Str := ["box", "many", "digit", "mixed"]
def m_law_take : MF := mBody 4 2 [0] ((mSeq (mIfS (tAnd' (tTru (oVal (mOp gIx (oVar 0) (oVal (mC (.int 1)))))) (tB' (mOp (gCmp fun i j => decide (j < i)) (oVal (mOp gIx (oVar 0) (oVal (mC (.int 0))))) (oVal (mC (.int 0)))))) (mSeq (mSet 2 (mOp gMod (oVal (mB gInt (aCons (oVal (mOp gIx (oVar 0) (oVal (mC (.int 0))))) aNil))) (oVar 1)))
    (mSeq (mSetIx 0 (oVal (mOp gFdiv (oVal (mOp gIx (oVar 0) (oVal (mC (.int 0))))) (oVar 1))) (oVal (mC (.int 0))))
    (mRet (mMove 2)))) mNext)
    (mSeq (mSetIx 0 (oVal (mOp gAdd (oVal (mOp gIx (oVar 0) (oVal (mC (.int 3))))) (oVal (mC (.int 1))))) (oVal (mC (.int 3))))
    (mSeq (mSet 3 (mOp gMod (oVal (mB gInt (aCons (oVal (mOp gPow (oVal (mOp gAdd (oVal (mOp gAdd (oVal (mOp gIx (oVar 0) (oVal (mC (.int 2))))) (oVal (mOp gMulI (oVal (mC (.int 15486277))) (oVal (mOp gIx (oVar 0) (oVal (mC (.int 3))))))))) (oVal (mC (.int 179424673))))) (oVal (mC (.int 5))))) aNil))) (oVal (mC (.int 2147483647)))))
    (mRet (mOp gMod (oVal (mB gInt (aCons (oVal (mOp gFdiv (oVal (mOp gMod (oVal (mB gInt (aCons (oVal (mOp gPow (oVal (mOp gAdd (oVal (mOp gMulI (oVar 3) (oVal (mC (.int 48271))))) (oVal (mOp gMulI (oVal (mC (.int 104729))) (oVal (mOp gIx (oVar 0) (oVal (mC (.int 3))))))))) (oVal (mC (.int 3))))) aNil))) (oVal (mC (.int 2147483587))))) (oVal (mC (.int 64))))) aNil))) (oVar 1)))))))
abbrev N_law_same : List Str := ["told", "due", "k"]
def m_law_same_body (rec : MF) : MF := mBody 3 2 [] ((mSeq (mIfS (tOr' (tB' (mOp (gIsN false) (oVar 1) (oVal (mC .non)))) (tTru (oVal (mB gIsi (aCons (oVar 1) (aCons (oVal (mC (.val (.ty "bool")))) aNil)))))) (mRet (mIf (tB' (mOp (gIsN false) (oVar 1) (oVal (mC .non)))) (mOp (gIsN false) (oVar 0) (oVal (mC .non))) (mAnd (mB gIsi (aCons (oVar 0) (aCons (oVal (mC (.val (.ty "bool")))) aNil))) (mOp (gEq false) (oVal (mOp (gIsB false) (oVar 0) (oVal (mC (.bl true))))) (oVal (mOp (gIsB false) (oVar 1) (oVal (mC (.bl true))))))))) mNext)
    (mSeq (mIfS (tTru (oVal (mB gIsi (aCons (oVar 1) (aCons (oVal (mC (.val (.ty "int")))) aNil))))) (mRet (mAnd (mB gIsi (aCons (oVar 0) (aCons (oVal (mC (.val (.ty "int")))) aNil))) (mAnd (mNot (mB gIsi (aCons (oVar 0) (aCons (oVal (mC (.val (.ty "bool")))) aNil)))) (mOp (gEq false) (oVal (mOp gSub' (oVal (mB gInt (aCons (oVar 0) aNil))) (oVar 1))) (oVal (mC (.int 0))))))) mNext)
    (mSeq (mIfS (tTru (oVal (mB gIsi (aCons (oVar 1) (aCons (oVal (mC (.val (.ty "str")))) aNil))))) (mRet (mAnd (mB gIsi (aCons (oVar 0) (aCons (oVal (mC (.val (.ty "str")))) aNil))) (mAnd (mOp (gEq false) (oVal (mB gLen (aCons (oVar 0) aNil))) (oVal (mB gLen (aCons (oVar 1) aNil)))) (mOp (gEq false) (oVal (mLc [2] (iRange1 (aCons (oVal (mB gLen (aCons (oVar 1) aNil))) aNil)) (mgName 2) (tB' (mOp (gEq true) (oVal (mSl (oVar 0) (pSome (oVar 2)) (pSome (oVal (mOp gAdd (oVar 2) (oVal (mC (.int 1)))))))) (oVal (mOp gIx (oVar 1) (oVar 2))))) (mVar 2))) (oVal (mLst aNil)))))) mNext)
    (mSeq (mIfS (tOr' (tB' (mOp (gEq true) (oVal (mB gIsi (aCons (oVar 0) (aCons (oVal (mC (.val (.ty "list")))) aNil)))) (oVal (mB gIsi (aCons (oVar 1) (aCons (oVal (mC (.val (.ty "list")))) aNil)))))) (tB' (mOp (gEq true) (oVal (mB gIsi (aCons (oVar 0) (aCons (oVal (mC (.val (.ty "tuple")))) aNil)))) (oVal (mB gIsi (aCons (oVar 1) (aCons (oVal (mC (.val (.ty "tuple")))) aNil))))))) (mRet (mC (.bl false))) mNext)
    (mRet (mAnd (mOp (gEq false) (oVal (mB gLen (aCons (oVar 0) aNil))) (oVal (mB gLen (aCons (oVar 1) aNil)))) (mOp (gEq false) (oVal (mLc [2] (iRange1 (aCons (oVal (mB gLen (aCons (oVar 1) aNil))) aNil)) (mgName 2) (tNot' (tTru (oVal (mCall rec [] 2 (aCons (oVal (mOp gIx (oVar 0) (oVar 2))) (aCons (oVal (mOp gIx (oVar 1) (oVar 2))) aNil)))))) (mVar 2))) (oVal (mLst aNil))))))))))
def m_law_same : Nat → MF
  | 0 => fun _ _ _ => False
  | n + 1 => m_law_same_body (m_law_same n)
abbrev N_law_choose : List Str := ["many", "few", "found", "k"]
def m_law_choose : MF := mBody 4 2 [] ((mSeq (mSet 2 (mC (.int 1)))
    (mSeq (mFor (iRange1 (aCons (oVar 1) aNil)) (mgName 3) (mSet 2 (mOp gFdiv (oVal (mOp gMulI (oVar 2) (oVal (mOp gSub' (oVar 0) (oVar 3))))) (oVal (mOp gAdd (oVar 3) (oVal (mC (.int 1))))))))
    (mRet (mMove 2)))))
abbrev N_law_parted : List Str := ["most", "parts", "found", "k", "ahead", "n", "p"]
def m_law_parted : MF := mBody 7 2 [] ((mSeq (mSet 2 (mLst (aCons (oVal (mOp gAdd (oVal (mLst (aCons (oVal (mC (.int 1))) aNil))) (oVal (mOp gRepL (oVal (mLst (aCons (oVal (mC (.int 0))) aNil))) (oVar 0))))) aNil)))
    (mSeq (mFor (iRange1 (aCons (oVar 1) aNil)) (mgName 3) (mSeq (mSet 4 (mOp gIx (oVar 2) (oVar 3)))
    (mApp 2 (oVal (mLc [5] (iRange1 (aCons (oVal (mOp gAdd (oVar 0) (oVal (mC (.int 1))))) aNil)) (mgName 5) mYes (mB gMax (aCons (oVal (mLc [6] (iRange1 (aCons (oVal (mOp gAdd (oVar 5) (oVal (mC (.int 1))))) aNil)) (mgName 6) mYes (mOp gMulI (oVal (mCall m_law_choose [] 2 (aCons (oVal (mVar 5)) (aCons (oVal (mVar 6)) aNil)))) (oVal (mOp gIx (oVar 4) (oVal (mOp gSub' (oVar 5) (oVar 6)))))))) aNil)))))))
    (mRet (mMove 2)))))
abbrev N_law_count : List Str := ["box", "least", "way", "any_one"]
def m_law_count : MF := mBody 4 2 [0] ((mSeq (mPar [2, 3] (dCons (mCall m_law_take [0] 2 (aCons (oVar 0) (aCons (oVal (mC (.int 4))) aNil))) (dCons (mCall m_law_take [0] 2 (aCons (oVar 0) (aCons (oVal (mOp gSub' (oVal (mC (.int 9))) (oVar 1))) aNil))) dNil)))
    (mRet (mIf (tB' (mOp (gEq false) (oVar 2) (oVal (mC (.int 0))))) (mVar 1) (mIf (tB' (mOp (gEq false) (oVar 2) (oVal (mC (.int 1))))) (mC (.int 8)) (mOp gAdd (oVar 1) (oVar 3)))))))
abbrev N_law_counts : List Str := ["box", "least", "many", "alike", "first", "place", "found", "low", "k"]
def m_law_counts : MF := mBody 9 2 [0] ((mSeq (mPar [2, 3] (dCons (mOp gAdd (oVal (mC (.int 1))) (oVal (mCall m_law_take [0] 2 (aCons (oVar 0) (aCons (oVal (mC (.int 4))) aNil))))) (dCons (mOp (gEq false) (oVal (mCall m_law_take [0] 2 (aCons (oVar 0) (aCons (oVal (mC (.int 4))) aNil)))) (oVal (mC (.int 0)))) dNil)))
    (mSeq (mPar [4, 5] (dCons (mCall m_law_count [0] 2 (aCons (oVar 0) (aCons (oVal (mVar 1)) aNil))) (dCons (mCall m_law_take [0] 2 (aCons (oVar 0) (aCons (oVal (mC (.int 4))) aNil))) dNil)))
    (mSeq (mIfS (tTru (oVar 3)) (mRet (mOp gRepL (oVal (mLst (aCons (oVal (mVar 4)) aNil))) (oVar 2))) mNext)
    (mSeq (mSet 6 (mLc [8] (iRange1 (aCons (oVar 2) aNil)) (mgName 8) mYes (mCall m_law_count [0] 2 (aCons (oVar 0) (aCons (oVal (mVar 1)) aNil)))))
    (mSeq (mIfS (tAnd' (tB' (mOp (gCmp fun i j => decide (j < i)) (oVar 2) (oVal (mC (.int 1))))) (tB' (mOp (gCmp fun i j => decide (i < j)) (oVar 5) (oVar 2)))) (mSeq (mSet 7 (mB gMin (aCons (oVar 6) aNil)))
    (mSetIx 6 (oVal (mB gMax (aCons (oVar 1) (aCons (oVal (mOp gSub' (oVar 7) (oVal (mC (.int 1))))) aNil)))) (oVar 5))) mNext)
    (mRet (mMove 6))))))))
abbrev N_law_gather_told : List Str := ["way", "kinds", "answers", "passed"]
def m_law_gather_told : MF := mBody 4 3 [] ((mSeq (mSet 3 (mIf (tB' (mOp (gEq false) (oVar 0) (oVal (mC (.int 1))))) (mB gTuple (aCons (oVar 1) aNil)) (mVar 1)))
    (mRet (mIf (tB' (mOp (gCmp fun i j => decide (j < i)) (oVar 0) (oVal (mC (.int 1))))) (mCallK m_gathered [] 2 0 2 [1, 0] aNil (aCons (oVal (mVar 2)) (aCons (oVal (mVar 3)) aNil))) (mCall m_gathered [] 2 (aCons (oVal (mVar 3)) (aCons (oVal (mVar 2)) aNil)))))))
abbrev N_law_spread_told : List Str := ["way", "kinds", "answers", "passed"]
def m_law_spread_told : MF := mBody 4 3 [] ((mSeq (mSet 3 (mIf (tB' (mOp (gEq false) (oVar 0) (oVal (mC (.int 1))))) (mB gTuple (aCons (oVar 2) aNil)) (mVar 2)))
    (mRet (mIf (tB' (mOp (gCmp fun i j => decide (j < i)) (oVar 0) (oVal (mC (.int 1))))) (mCallK m_spread [] 2 0 2 [1, 0] aNil (aCons (oVal (mVar 3)) (aCons (oVal (mVar 1)) aNil))) (mCall m_spread [] 2 (aCons (oVal (mVar 1)) (aCons (oVal (mVar 3)) aNil)))))))
abbrev N_law_line_right : List Str := ["kinds", "answers", "number", "able", "over"]
def m_law_line_right : MF := mBody 5 3 [] ((mSeq (mPar [3, 4] (dCons (mCall m_can_tell [] 3 (aCons (oVal (mLst (aCons (oVal (mVar 2)) aNil))) (aCons (oVal (mVar 0)) (aCons (oVal (mVar 1)) aNil)))) (dCons (mCallK m_can_tell [] 3 0 3 [2, 1, 0] aNil (aCons (oVal (mVar 1)) (aCons (oVal (mVar 0)) (aCons (oVal (mLst (aCons (oVal (mOp gAdd (oVar 2) (oVal (mC (.int 1))))) aNil))) aNil)))) dNil)))
    (mRet (mAnd (mCall (m_law_same 2) [] 2 (aCons (oVal (mVar 3)) (aCons (oVal (mC (.bl true))) aNil))) (mCall (m_law_same 2) [] 2 (aCons (oVal (mVar 4)) (aCons (oVal (mC (.bl false))) aNil)))))))
abbrev N_law_gather_right : List Str := ["box", "best", "kinds", "answers", "ways", "at", "more", "due", "kept", "told", "one"]
def m_law_gather_right : MF := mBody 11 2 [0] ((mSeq (mPar [2, 3, 4] (dCons (mCall m_law_counts [0] 2 (aCons (oVar 0) (aCons (oVal (mC (.int 1))) aNil))) (dCons (mCall m_law_count [0] 2 (aCons (oVar 0) (aCons (oVal (mC (.int 0))) aNil))) (dCons (mLst (aCons (oVal (mCall m_law_take [0] 2 (aCons (oVar 0) (aCons (oVal (mC (.int 4))) aNil)))) (aCons (oVal (mCall m_law_take [0] 2 (aCons (oVar 0) (aCons (oVal (mC (.int 4))) aNil)))) aNil))) dNil))))
    (mSeq (mPar [5, 6] (dCons (mCall m_law_take [0] 2 (aCons (oVar 0) (aCons (oVal (mB gLen (aCons (oVar 2) aNil))) aNil))) (dCons (mCall m_law_count [0] 2 (aCons (oVar 0) (aCons (oVal (mC (.int 0))) aNil))) dNil)))
    (mSeq (mSet 7 (mB gTuple (aCons (oVal (mLc [10] (iSq (mVar 2)) (mgName 10) mYes (mOp gIx (oVal (mOp gIx (oVar 1) (oVal (mOp gAdd (oVar 3) (oVal (mC (.int 2))))))) (oVar 10)))) aNil)))
    (mSeq (mSet 8 (mB gList (aCons (oVar 2) aNil)))
    (mSeq (mSet 9 (mCallB m_law_gather_told 3 (aCons (oVal (mOp gIx (oVar 4) (oVal (mC (.int 0))))) (aCons (oVar 8) (aCons (oVar 3) aNil)))))
    (mSeq (mIfS (tOr' (tNot' (tTru (oVal (mCall (m_law_same 2) [] 2 (aCons (oVal (mVar 9)) (aCons (oVal (mVar 7)) aNil)))))) (tB' (mOp (gEq true) (oVar 8) (oVar 2)))) (mRet (mC (.bl false))) mNext)
    (mSeq (mSetIx 8 (oVal (mOp gSub' (oVal (mC (.int 9))) (oVal (mOp gIx (oVar 8) (oVal (mC (.int 0))))))) (oVal (mC (.int 0))))
    (mSeq (mIfS (tNot' (tTru (oVal (mCall (m_law_same 2) [] 2 (aCons (oVal (mCallB m_law_gather_told 3 (aCons (oVal (mOp gIx (oVar 4) (oVal (mC (.int 1))))) (aCons (oVar 8) (aCons (oVar 6) aNil))))) (aCons (oVal (mB gTuple (aCons (oVal (mLc [10] (iSq (mVar 8)) (mgName 10) mYes (mOp gIx (oVal (mOp gIx (oVar 1) (oVal (mOp gAdd (oVar 6) (oVal (mC (.int 2))))))) (oVar 10)))) aNil))) aNil)))))) (mRet (mC (.bl false))) mNext)
    (mSeq (mIfS (tNot' (tTru (oVal (mCall (m_law_same 2) [] 2 (aCons (oVal (mCallB m_law_gather_told 3 (aCons (oVal (mOp gIx (oVar 4) (oVal (mC (.int 1))))) (aCons (oVal (mB gList (aCons (oVar 2) aNil))) (aCons (oVar 3) aNil))))) (aCons (oVal (mVar 7)) aNil)))))) (mRet (mC (.bl false))) mNext)
    (mRet (mCall m_law_line_right [] 3 (aCons (oVal (mOp gIx (oVar 2) (oVar 5))) (aCons (oVal (mVar 3)) (aCons (oVal (mOp gIx (oVar 7) (oVar 5))) aNil)))))))))))))))
abbrev N_law_spread_right : List Str := ["box", "best", "kinds", "answers", "ways", "more", "due", "kept", "told"]
def m_law_spread_right : MF := mBody 9 2 [0] ((mSeq (mPar [2, 3, 4] (dCons (mCall m_law_count [0] 2 (aCons (oVar 0) (aCons (oVal (mC (.int 1))) aNil))) (dCons (mCall m_law_counts [0] 2 (aCons (oVar 0) (aCons (oVal (mC (.int 0))) aNil))) (dCons (mLst (aCons (oVal (mCall m_law_take [0] 2 (aCons (oVar 0) (aCons (oVal (mC (.int 4))) aNil)))) (aCons (oVal (mCall m_law_take [0] 2 (aCons (oVar 0) (aCons (oVal (mC (.int 4))) aNil)))) aNil))) dNil))))
    (mSeq (mSet 5 (mCall m_law_count [0] 2 (aCons (oVar 0) (aCons (oVal (mC (.int 1))) aNil))))
    (mSeq (mSet 6 (mOp gIx (oVal (mOp gIx (oVar 1) (oVal (mOp gAdd (oVal (mB gMin (aCons (oVar 3) aNil))) (oVal (mC (.int 2))))))) (oVar 2)))
    (mSeq (mSet 7 (mB gList (aCons (oVar 3) aNil)))
    (mSeq (mSet 8 (mCallB m_law_spread_told 3 (aCons (oVal (mOp gIx (oVar 4) (oVal (mC (.int 0))))) (aCons (oVar 2) (aCons (oVar 7) aNil)))))
    (mSeq (mIfS (tOr' (tNot' (tTru (oVal (mCall (m_law_same 2) [] 2 (aCons (oVal (mVar 8)) (aCons (oVal (mVar 6)) aNil)))))) (tB' (mOp (gEq true) (oVar 7) (oVar 3)))) (mRet (mC (.bl false))) mNext)
    (mSeq (mSetIx 7 (oVal (mOp gSub' (oVal (mC (.int 8))) (oVal (mOp gIx (oVar 7) (oVal (mC (.int 0))))))) (oVal (mC (.int 0))))
    (mSeq (mIfS (tNot' (tTru (oVal (mCall (m_law_same 2) [] 2 (aCons (oVal (mCallB m_law_spread_told 3 (aCons (oVal (mOp gIx (oVar 4) (oVal (mC (.int 1))))) (aCons (oVar 5) (aCons (oVar 7) aNil))))) (aCons (oVal (mOp gIx (oVal (mOp gIx (oVar 1) (oVal (mOp gAdd (oVal (mB gMin (aCons (oVar 7) aNil))) (oVal (mC (.int 2))))))) (oVar 5))) aNil)))))) (mRet (mC (.bl false))) mNext)
    (mSeq (mIfS (tNot' (tTru (oVal (mCall (m_law_same 2) [] 2 (aCons (oVal (mCallB m_law_spread_told 3 (aCons (oVal (mOp gIx (oVar 4) (oVal (mC (.int 1))))) (aCons (oVar 2) (aCons (oVal (mB gList (aCons (oVar 3) aNil))) aNil))))) (aCons (oVal (mVar 6)) aNil)))))) (mRet (mC (.bl false))) mNext)
    (mRet (mCall m_law_line_right [] 3 (aCons (oVal (mVar 2)) (aCons (oVal (mB gMin (aCons (oVar 3) aNil))) (aCons (oVal (mVar 6)) aNil)))))))))))))))
abbrev N_law : List Str := ["script", "best", "k", "box"]
def m_law : MF := mBody 4 1 [] ((mSeq (mSet 1 (mCall m_law_parted [] 2 (aCons (oVal (mC (.int 8))) (aCons (oVal (mC (.int 10))) aNil))))
    (mSeq (mFor (iRange1 (aCons (oVal (mB gMax (aCons (oVal (mC (.int 1))) (aCons (oVal (mB gMin (aCons (oVal (mC (.int 3))) (aCons (oVal (mB gLen (aCons (oVar 0) aNil))) aNil)))) aNil)))) aNil)) (mgName 2) (mSeq (mSet 3 (mCall m_law_box [] 1 (aCons (oVal (mCall m_law_cell [] 2 (aCons (oVal (mVar 0)) (aCons (oVal (mVar 2)) aNil)))) aNil)))
    (mIfS (tOr' (tNot' (tTru (oVal (mCall m_law_gather_right [0] 2 (aCons (oVar 3) (aCons (oVal (mVar 1)) aNil)))))) (tNot' (tTru (oVal (mCall m_law_spread_right [0] 2 (aCons (oVar 3) (aCons (oVal (mVar 1)) aNil))))))) (mRet (mC (.bl false))) mNext)))
    (mRet (mC (.bl true))))))
/-! ### programs -/
def z_is_whole : ZF := zBody 1 1 [] (zRet (zAnd (zB zIsi (zaCons (zoVar 0) (zaCons (zoVal (zC (.val (.ty "int")))) zaNil))) (zNot (zB zIsi (zaCons (zoVar 0) (zaCons (zoVal (zC (.val (.ty "bool")))) zaNil))))))
theorem cf_is_whole : CF m_is_whole z_is_whole := c_Body (c_Ret (c_And (c_Bi c_Isi (c_aCons c_oVar (c_aCons (c_oVal c_C) c_aNil))) (c_Not (c_Bi c_Isi (c_aCons c_oVar (c_aCons (c_oVal c_C) c_aNil))))))
def z_is_between : ZF := zBody 3 3 [] (zRet (zAnd (zCall (z_is_whole) [] 1 (zaCons (zoVal (zVar 0)) zaNil)) (zChain (zCmp fun i j => decide (i ≤ j)) (zCmp fun i j => decide (i ≤ j)) (zoVar 1) (zoVar 0) (zoVar 2))))
theorem cf_is_between : CF m_is_between z_is_between := c_Body (c_Ret (c_And (c_Call (cf_is_whole) (c_aCons (c_oVal c_Var) c_aNil)) (c_Chain c_II c_II c_oVar c_oVar c_oVar)))
def z_is_list : ZF := zBody 1 1 [] (zRet (zB zIsi (zaCons (zoVar 0) (zaCons (zoVal (zTup (zaCons (zoVal (zC (.val (.ty "list")))) (zaCons (zoVal (zC (.val (.ty "tuple")))) zaNil)))) zaNil))))
theorem cf_is_list : CF m_is_list z_is_list := c_Body (c_Ret (c_Bi c_Isi (c_aCons c_oVar (c_aCons (c_oVal (c_Tup (c_aCons (c_oVal c_C) (c_aCons (c_oVal c_C) c_aNil)))) c_aNil))))
def z_are_between : ZF := zBody 4 3 [] (zRet (zAnd (zCall (z_is_list) [] 1 (zaCons (zoVal (zVar 0)) zaNil)) (zB zAllB (zaCons (zoVal (zLc [3] (ziSq (zVar 0)) (zgName 3) zYes (zCall (z_is_between) [] 3 (zaCons (zoVal (zVar 3)) (zaCons (zoVal (zVar 1)) (zaCons (zoVal (zVar 2)) zaNil)))))) zaNil))))
theorem cf_are_between : CF m_are_between z_are_between := c_Body (c_Ret (c_And (c_Call (cf_is_list) (c_aCons (c_oVal c_Var) c_aNil)) (c_Bi c_AllB (c_aCons (c_oVal (c_Lc (c_iSq c_Var) c_gName c_Yes (c_Call (cf_is_between) (c_aCons (c_oVal c_Var) (c_aCons (c_oVal c_Var) (c_aCons (c_oVal c_Var) c_aNil)))))) c_aNil))))
def z_choose_of : ZF := zBody 4 2 [] (zSeq (zSet 2 (zC (.int 1))) (zSeq (zFor (ziRange1 (zaCons (zoVar 1) zaNil)) (zgName 3) (zSet 2 (zOp zFdiv (zoVal (zOp zMulI (zoVar 2) (zoVal (zOp zSub' (zoVar 0) (zoVar 3))))) (zoVal (zOp zAdd (zoVar 3) (zoVal (zC (.int 1)))))))) (zRet (zMove 2))))
theorem cf_choose_of : CF m_choose_of z_choose_of := c_Body (c_Seq (c_Set c_C) (c_Seq (c_For (c_iRange1 (c_aCons c_oVar c_aNil)) c_gName (c_Set (c_Op c_II (c_oVal (c_Op c_II c_oVar (c_oVal (c_Op c_II c_oVar c_oVar)))) (c_oVal (c_Op c_Add c_oVar (c_oVal c_C)))))) (c_Ret c_Move)))
def z_arrangements_of : ZF := zBody 4 1 [] (zSeq (zPar [1, 2] (zdCons (zC (.int 1)) (zdCons (zC (.int 0)) zdNil))) (zSeq (zFor (ziSq (zVar 0)) (zgName 3) (zSeq (zSet 2 (zOp zAdd (zoVar 2) (zoVar 3))) (zSet 1 (zOp zMulI (zoVar 1) (zoVal (zCall (z_choose_of) [] 2 (zaCons (zoVal (zVar 2)) (zaCons (zoVal (zVar 3)) zaNil)))))))) (zRet (zMove 1))))
theorem cf_arrangements_of : CF m_arrangements_of z_arrangements_of := c_Body (c_Seq (c_Par (c_dCons c_C (c_dCons c_C c_dNil))) (c_Seq (c_For (c_iSq c_Var) c_gName (c_Seq (c_Set (c_Op c_Add c_oVar c_oVar)) (c_Set (c_Op c_II c_oVar (c_oVal (c_Call (cf_choose_of) (c_aCons (c_oVal c_Var) (c_aCons (c_oVal c_Var) c_aNil)))))))) (c_Ret c_Move)))
def z_even_parts_of : ZF := zBody 4 2 [] (zSeq (zAsg (zB zDivmod (zaCons (zoVar 0) (zaCons (zoVar 1) zaNil))) (zgTup 2 (zgCons (zgName 2) (zgCons (zgName 3) zgNil)))) (zRet (zOp zAdd (zoVal (zOp zRepT (zoVal (zTup (zaCons (zoVal (zOp zAdd (zoVar 2) (zoVal (zC (.int 1))))) zaNil))) (zoVar 3))) (zoVal (zOp zRepT (zoVal (zTup (zaCons (zoVal (zVar 2)) zaNil))) (zoVal (zOp zSub' (zoVar 1) (zoVar 3))))))))
theorem cf_even_parts_of : CF m_even_parts_of z_even_parts_of := c_Body (c_Seq (c_Asg (c_Bi c_Divmod (c_aCons c_oVar (c_aCons c_oVar c_aNil))) (c_gTup (c_gCons c_gName (c_gCons c_gName c_gNil)))) (c_Ret (c_Op c_Add (c_oVal (c_Op c_RepT (c_oVal (c_Tup (c_aCons (c_oVal (c_Op c_Add c_oVar (c_oVal c_C))) c_aNil))) c_oVar)) (c_oVal (c_Op c_RepT (c_oVal (c_Tup (c_aCons (c_oVal c_Var) c_aNil))) (c_oVal (c_Op c_II c_oVar c_oVar)))))))
def z_are_counts : ZF := zBody 2 2 [] (zRet (zAnd (zCall (z_are_between) [] 3 (zaCons (zoVal (zVar 0)) (zaCons (zoVal (zVar 1)) (zaCons (zoVal (zC (.int 8))) zaNil)))) (zChain (zCmp fun i j => decide (i ≤ j)) (zCmp fun i j => decide (i ≤ j)) (zoVal (zC (.int 1))) (zoVal (zB zLen (zaCons (zoVar 0) zaNil))) (zoVal (zC (.int 4))))))
theorem cf_are_counts : CF m_are_counts z_are_counts := c_Body (c_Ret (c_And (c_Call (cf_are_between) (c_aCons (c_oVal c_Var) (c_aCons (c_oVal c_Var) (c_aCons (c_oVal c_C) c_aNil)))) (c_Chain c_II c_II (c_oVal c_C) (c_oVal (c_Bi c_Len (c_aCons c_oVar c_aNil))) (c_oVal c_C))))
def z_check_gather : ZF := zBody 2 2 [] (zSeq (zIfS (zNot' (zTru (zoVal (zCall (z_are_counts) [] 2 (zaCons (zoVal (zVar 0)) (zaCons (zoVal (zC (.int 1))) zaNil)))))) zNever zNext) (zIfS (zNot' (zTru (zoVal (zCall (z_is_between) [] 3 (zaCons (zoVal (zVar 1)) (zaCons (zoVal (zC (.int 0))) (zaCons (zoVal (zC (.int 8))) zaNil))))))) zNever zNext))
theorem cf_check_gather : CF m_check_gather z_check_gather := c_Body (c_Seq (c_IfS (c_Not' (c_Tru (c_oVal (c_Call (cf_are_counts) (c_aCons (c_oVal c_Var) (c_aCons (c_oVal c_C) c_aNil)))))) c_Never c_Next) (c_IfS (c_Not' (c_Tru (c_oVal (c_Call (cf_is_between) (c_aCons (c_oVal c_Var) (c_aCons (c_oVal c_C) (c_aCons (c_oVal c_C) c_aNil))))))) c_Never c_Next))
def z_check_spread : ZF := zBody 2 2 [] (zSeq (zIfS (zNot' (zTru (zoVal (zCall (z_is_between) [] 3 (zaCons (zoVal (zVar 0)) (zaCons (zoVal (zC (.int 1))) (zaCons (zoVal (zC (.int 8))) zaNil))))))) zNever zNext) (zIfS (zNot' (zTru (zoVal (zCall (z_are_counts) [] 2 (zaCons (zoVal (zVar 1)) (zaCons (zoVal (zC (.int 0))) zaNil)))))) zNever zNext))
theorem cf_check_spread : CF m_check_spread z_check_spread := c_Body (c_Seq (c_IfS (c_Not' (c_Tru (c_oVal (c_Call (cf_is_between) (c_aCons (c_oVal c_Var) (c_aCons (c_oVal c_C) (c_aCons (c_oVal c_C) c_aNil))))))) c_Never c_Next) (c_IfS (c_Not' (c_Tru (c_oVal (c_Call (cf_are_counts) (c_aCons (c_oVal c_Var) (c_aCons (c_oVal c_C) c_aNil)))))) c_Never c_Next))
def z_number_of : ZF := zBody 2 2 [] (zRet (zCall (z_arrangements_of) [] 1 (zaCons (zoVal (zCall (z_even_parts_of) [] 2 (zaCons (zoVal (zVar 0)) (zaCons (zoVal (zOp zAdd (zoVar 1) (zoVal (zC (.int 2))))) zaNil)))) zaNil)))
theorem cf_number_of : CF m_number_of z_number_of := c_Body (c_Ret (c_Call (cf_arrangements_of) (c_aCons (c_oVal (c_Call (cf_even_parts_of) (c_aCons (c_oVal c_Var) (c_aCons (c_oVal (c_Op c_Add c_oVar (c_oVal c_C))) c_aNil)))) c_aNil)))
def z_gathered : ZF := zBody 3 2 [] (zSeq (zDrop (zCall (z_check_gather) [] 2 (zaCons (zoVal (zVar 0)) (zaCons (zoVal (zVar 1)) zaNil)))) (zRet (zB zTuple (zaCons (zoVal (zLc [2] (ziSq (zVar 0)) (zgName 2) zYes (zCall (z_number_of) [] 2 (zaCons (zoVal (zVar 2)) (zaCons (zoVal (zVar 1)) zaNil))))) zaNil))))
theorem cf_gathered : CF m_gathered z_gathered := c_Body (c_Seq (c_Drop (c_Call (cf_check_gather) (c_aCons (c_oVal c_Var) (c_aCons (c_oVal c_Var) c_aNil)))) (c_Ret (c_Bi c_Tuple (c_aCons (c_oVal (c_Lc (c_iSq c_Var) c_gName c_Yes (c_Call (cf_number_of) (c_aCons (c_oVal c_Var) (c_aCons (c_oVal c_Var) c_aNil))))) c_aNil))))
def z_spread : ZF := zBody 2 2 [] (zSeq (zDrop (zCall (z_check_spread) [] 2 (zaCons (zoVal (zVar 0)) (zaCons (zoVal (zVar 1)) zaNil)))) (zRet (zCall (z_number_of) [] 2 (zaCons (zoVal (zVar 0)) (zaCons (zoVal (zB zMin (zaCons (zoVar 1) zaNil))) zaNil)))))
theorem cf_spread : CF m_spread z_spread := c_Body (c_Seq (c_Drop (c_Call (cf_check_spread) (c_aCons (c_oVal c_Var) (c_aCons (c_oVal c_Var) c_aNil)))) (c_Ret (c_Call (cf_number_of) (c_aCons (c_oVal c_Var) (c_aCons (c_oVal (c_Bi c_Min (c_aCons c_oVar c_aNil))) c_aNil)))))
def z_check_row : ZF := zBody 1 1 [] (zIfS (zOr' (zNot' (zTru (zoVal (zCall (z_are_between) [] 3 (zaCons (zoVal (zVar 0)) (zaCons (zoVal (zC (.int 1))) (zaCons (zoVal (zC (.int 100000000000000000000000000000000000000000000000000))) zaNil))))))) (zB' (zOp (zCmp fun i j => decide (j < i)) (zoVal (zB zLen (zaCons (zoVar 0) zaNil))) (zoVal (zC (.int 16)))))) zNever zNext)
theorem cf_check_row : CF m_check_row z_check_row := c_Body (c_IfS (c_Or' (c_Not' (c_Tru (c_oVal (c_Call (cf_are_between) (c_aCons (c_oVal c_Var) (c_aCons (c_oVal c_C) (c_aCons (c_oVal c_C) c_aNil))))))) (c_B' (c_Op c_II (c_oVal (c_Bi c_Len (c_aCons c_oVar c_aNil))) (c_oVal c_C)))) c_Never c_Next)
def z_check_kinds : ZF := zBody 2 2 [] (zSeq (zIfS (zNot' (zTru (zoVal (zCall (z_is_between) [] 3 (zaCons (zoVal (zVar 0)) (zaCons (zoVal (zC (.int 0))) (zaCons (zoVal (zC (.int 16))) zaNil))))))) zNever zNext) (zIfS (zNot' (zTru (zoVal (zCall (z_is_between) [] 3 (zaCons (zoVal (zVar 1)) (zaCons (zoVal (zC (.int 0))) (zaCons (zoVal (zC (.int 16))) zaNil))))))) zNever zNext))
theorem cf_check_kinds : CF m_check_kinds z_check_kinds := c_Body (c_Seq (c_IfS (c_Not' (c_Tru (c_oVal (c_Call (cf_is_between) (c_aCons (c_oVal c_Var) (c_aCons (c_oVal c_C) (c_aCons (c_oVal c_C) c_aNil))))))) c_Never c_Next) (c_IfS (c_Not' (c_Tru (c_oVal (c_Call (cf_is_between) (c_aCons (c_oVal c_Var) (c_aCons (c_oVal c_C) (c_aCons (c_oVal c_C) c_aNil))))))) c_Never c_Next))
def z_greatest_numbers : ZF := zBody 10 1 [] (zSeq (zSet 1 (zLst zaNil)) (zSeq (zFor (ziRange1 (zaCons (zoVal (zOp zAdd (zoVar 0) (zoVal (zC (.int 1))))) zaNil)) (zgName 2) (zSeq (zSet 3 (zLst zaNil)) (zSeq (zFor (ziRange1 (zaCons (zoVar 2) zaNil)) (zgName 4) (zSeq (zSet 5 (zLc [7] (ziRange1 (zaCons (zoVal (zOp zSub' (zoVar 2) (zoVar 4))) zaNil)) (zgName 7) zYes (zOp zFdiv (zoVal (zOp zSub' (zoVar 2) (zoVar 7))) (zoVal (zOp zAdd (zoVar 4) (zoVal (zC (.int 1)))))))) (zSeq (zSet 6 (zLc [7, 8] (ziEnumL (zaCons (zoVal (zVar 5)) zaNil)) (zgTup 2 (zgCons (zgName 7) (zgCons (zgName 8) zgNil))) zYes (zIf (zB' (zOp (zCmp fun i j => decide (j < i)) (zoVar 4) (zoVal (zC (.int 0))))) (zOp zIx (zoVal (zOp zIx (zoVal (zOp zIx (zoVar 1) (zoVal (zOp zSub' (zoVar 2) (zoVar 8))))) (zoVal (zOp zSub' (zoVar 4) (zoVal (zC (.int 1))))))) (zoVar 7)) (zC (.int 1))))) (zApp 3 (zoVal (zLc [8, 9] (ziZipL (zaCons (zoVal (zVar 5)) (zaCons (zoVal (zVar 6)) zaNil))) (zgTup 2 (zgCons (zgName 8) (zgCons (zgName 9) zgNil))) zYes (zOp zMulI (zoVal (zCall (z_choose_of) [] 2 (zaCons (zoVal (zVar 2)) (zaCons (zoVal (zVar 8)) zaNil)))) (zoVar 9)))))))) (zApp 1 (zoVal (zVar 3)))))) (zRet (zMove 1))))
theorem cf_greatest_numbers : CF m_greatest_numbers z_greatest_numbers := c_Body (c_Seq (c_Set (c_Lst c_aNil)) (c_Seq (c_For (c_iRange1 (c_aCons (c_oVal (c_Op c_Add c_oVar (c_oVal c_C))) c_aNil)) c_gName (c_Seq (c_Set (c_Lst c_aNil)) (c_Seq (c_For (c_iRange1 (c_aCons c_oVar c_aNil)) c_gName (c_Seq (c_Set (c_Lc (c_iRange1 (c_aCons (c_oVal (c_Op c_II c_oVar c_oVar)) c_aNil)) c_gName c_Yes (c_Op c_II (c_oVal (c_Op c_II c_oVar c_oVar)) (c_oVal (c_Op c_Add c_oVar (c_oVal c_C)))))) (c_Seq (c_Set (c_Lc (c_iEnumL (c_aCons (c_oVal c_Var) c_aNil)) (c_gTup (c_gCons c_gName (c_gCons c_gName c_gNil))) c_Yes (c_If (c_B' (c_Op c_II c_oVar (c_oVal c_C))) (c_Op c_Ix (c_oVal (c_Op c_Ix (c_oVal (c_Op c_Ix c_oVar (c_oVal (c_Op c_II c_oVar c_oVar)))) (c_oVal (c_Op c_II c_oVar (c_oVal c_C))))) c_oVar) c_C))) (c_App (c_oVal (c_Lc (c_iZipL (c_aCons (c_oVal c_Var) (c_aCons (c_oVal c_Var) c_aNil))) (c_gTup (c_gCons c_gName (c_gCons c_gName c_gNil))) c_Yes (c_Op c_II (c_oVal (c_Call (cf_choose_of) (c_aCons (c_oVal c_Var) (c_aCons (c_oVal c_Var) c_aNil)))) c_oVar))))))) (c_App (c_oVal c_Var))))) (c_Ret c_Move)))
def z_greatest_left : ZF := zBody 4 2 [] (zRet (zBD maxI (zaCons (zoVal (zLc [2, 3] (ziEnumL (zaCons (zoVal (zVar 1)) zaNil)) (zgTup 2 (zgCons (zgName 2) (zgCons (zgName 3) zgNil))) (zB' (zOp (zCmp fun i j => decide (j ≤ i)) (zoVar 3) (zoVar 0))) (zVar 2))) zaNil) (zaCons (zoVal (zUn zNeg (zoVal (zC (.int 1))))) zaNil)))
theorem cf_greatest_left : CF m_greatest_left z_greatest_left := c_Body (c_Ret (c_BD (c_aCons (c_oVal (c_Lc (c_iEnumL (c_aCons (c_oVal c_Var) c_aNil)) (c_gTup (c_gCons c_gName (c_gCons c_gName c_gNil))) (c_B' (c_Op c_II c_oVar c_oVar)) c_Var)) c_aNil) (c_aCons (c_oVal (c_Un c_Neg (c_oVal c_C))) c_aNil)))
def z_least_other : ZF := zBody 4 2 [] (zSeq (zFor (ziEnumL (zaCons (zoVal (zVar 0)) zaNil)) (zgTup 2 (zgCons (zgName 2) (zgCons (zgName 3) zgNil))) (zIfS (zAnd' (zB' (zOp (zIsN true) (zoVar 3) (zoVal (zC .non)))) (zB' (zOp (zCmp fun i j => decide (i ≤ j)) (zoVar 3) (zoVar 1)))) (zRet (zMove 2)) zNext)) (zRet (zC .non)))
theorem cf_least_other : CF m_least_other z_least_other := c_Body (c_Seq (c_For (c_iEnumL (c_aCons (c_oVal c_Var) c_aNil)) (c_gTup (c_gCons c_gName (c_gCons c_gName c_gNil))) (c_IfS (c_And' (c_B' (c_Op c_IsN c_oVar (c_oVal c_C))) (c_B' (c_Op c_II c_oVar c_oVar))) (c_Ret c_Move) c_Next)) (c_Ret c_C))
def z_stair_ahead : ZF := zBody 9 3 [] (zSeq (zSet 3 (zLst zaNil)) (zSeq (zFor (ziSq (zVar 2)) (zgName 4) (zSeq (zSet 5 (zLst zaNil)) (zSeq (zFor (ziEnumL (zaCons (zoVal (zVar 4)) zaNil)) (zgTup 2 (zgCons (zgName 6) (zgCons (zgName 7) zgNil))) (zSeq (zSet 8 (zCall (z_least_other) [] 2 (zaCons (zoVal (zVar 1)) (zaCons (zoVal (zCall (z_greatest_left) [] 2 (zaCons (zoVal (zVar 0)) (zaCons (zoVal (zVar 7)) zaNil)))) zaNil)))) (zIfS (zAnd' (zB' (zOp (zIsN true) (zoVar 8) (zoVal (zC .non)))) (zB' (zOp (zCmp fun i j => decide (i < j)) (zoVal (zOp zAdd (zoVar 6) (zoVar 8))) (zoVal (zB zLen (zaCons (zoVar 2) zaNil)))))) (zApp 5 (zoVal (zOp zAdd (zoVar 6) (zoVar 8)))) zNext))) (zApp 3 (zoVal (zBD minI (zaCons (zoVar 5) zaNil) (zaCons (zoVal (zC .non)) zaNil))))))) (zRet (zMove 3))))
theorem cf_stair_ahead : CF m_stair_ahead z_stair_ahead := c_Body (c_Seq (c_Set (c_Lst c_aNil)) (c_Seq (c_For (c_iSq c_Var) c_gName (c_Seq (c_Set (c_Lst c_aNil)) (c_Seq (c_For (c_iEnumL (c_aCons (c_oVal c_Var) c_aNil)) (c_gTup (c_gCons c_gName (c_gCons c_gName c_gNil))) (c_Seq (c_Set (c_Call (cf_least_other) (c_aCons (c_oVal c_Var) (c_aCons (c_oVal (c_Call (cf_greatest_left) (c_aCons (c_oVal c_Var) (c_aCons (c_oVal c_Var) c_aNil)))) c_aNil)))) (c_IfS (c_And' (c_B' (c_Op c_IsN c_oVar (c_oVal c_C))) (c_B' (c_Op c_II (c_oVal (c_Op c_Add c_oVar c_oVar)) (c_oVal (c_Bi c_Len (c_aCons c_oVar c_aNil)))))) (c_App (c_oVal (c_Op c_Add c_oVar c_oVar))) c_Next))) (c_App (c_oVal (c_BD (c_aCons c_oVar c_aNil) (c_aCons (c_oVal c_C) c_aNil))))))) (c_Ret c_Move)))
def z_stairs_by : ZF := zBody 4 2 [] (zSeq (zSet 2 (zLst (zaCons (zoVal (zOp zRepL (zoVal (zLst (zaCons (zoVal (zC (.int 0))) zaNil))) (zoVal (zB zLen (zaCons (zoVar 1) zaNil))))) zaNil))) (zSeq (zFor (ziRevL (zaCons (zoVal (zVar 0)) zaNil)) (zgName 3) (zApp 2 (zoVal (zCall (z_stair_ahead) [] 3 (zaCons (zoVal (zVar 3)) (zaCons (zoVal (zOp zIx (zoVar 2) (zoVal (zUn zNeg (zoVal (zC (.int 1))))))) (zaCons (zoVal (zVar 1)) zaNil))))))) (zRet (zRevS (zoVar 2)))))
theorem cf_stairs_by : CF m_stairs_by z_stairs_by := c_Body (c_Seq (c_Set (c_Lst (c_aCons (c_oVal (c_Op c_RepL (c_oVal (c_Lst (c_aCons (c_oVal c_C) c_aNil))) (c_oVal (c_Bi c_Len (c_aCons c_oVar c_aNil))))) c_aNil))) (c_Seq (c_For (c_iRevL (c_aCons (c_oVal c_Var) c_aNil)) c_gName (c_App (c_oVal (c_Call (cf_stair_ahead) (c_aCons (c_oVal c_Var) (c_aCons (c_oVal (c_Op c_Ix c_oVar (c_oVal (c_Un c_Neg (c_oVal c_C))))) (c_aCons (c_oVal c_Var) c_aNil))))))) (c_Ret (c_RevS c_oVar))))
def z_lets : ZF := zBody 3 3 [] (zRet (zAnd (zOp (zIsN true) (zoVal (zOp zIx (zoVar 0) (zoVar 1))) (zoVal (zC .non))) (zOp (zCmp fun i j => decide (i ≤ j)) (zoVal (zOp zIx (zoVar 0) (zoVar 1))) (zoVar 2))))
theorem cf_lets : CF m_lets z_lets := c_Body (c_Ret (c_And (c_Op c_IsN (c_oVal (c_Op c_Ix c_oVar c_oVar)) (c_oVal c_C)) (c_Op c_II (c_oVal (c_Op c_Ix c_oVar c_oVar)) c_oVar)))
def z_can_tell : ZF := zBody 3 3 [] (zSeq (zDrop (zCall (z_check_row) [] 1 (zaCons (zoVal (zVar 0)) zaNil))) (zSeq (zDrop (zCall (z_check_kinds) [] 2 (zaCons (zoVal (zVar 1)) (zaCons (zoVal (zVar 2)) zaNil)))) (zRet (zCall (z_lets) [] 3 (zaCons (zoVal (zOp zIx (zoVal (zCall (z_stairs_by) [] 2 (zaCons (zoVal (zVar 0)) (zaCons (zoVal (zCall (z_greatest_numbers) [] 1 (zaCons (zoVal (zB zMax (zaCons (zoVar 1) (zaCons (zoVar 2) zaNil)))) zaNil))) zaNil)))) (zoVal (zC (.int 0))))) (zaCons (zoVal (zVar 1)) (zaCons (zoVal (zVar 2)) zaNil)))))))
theorem cf_can_tell : CF m_can_tell z_can_tell := c_Body (c_Seq (c_Drop (c_Call (cf_check_row) (c_aCons (c_oVal c_Var) c_aNil))) (c_Seq (c_Drop (c_Call (cf_check_kinds) (c_aCons (c_oVal c_Var) (c_aCons (c_oVal c_Var) c_aNil)))) (c_Ret (c_Call (cf_lets) (c_aCons (c_oVal (c_Op c_Ix (c_oVal (c_Call (cf_stairs_by) (c_aCons (c_oVal c_Var) (c_aCons (c_oVal (c_Call (cf_greatest_numbers) (c_aCons (c_oVal (c_Bi c_Max (c_aCons c_oVar (c_aCons c_oVar c_aNil)))) c_aNil))) c_aNil)))) (c_oVal c_C))) (c_aCons (c_oVal c_Var) (c_aCons (c_oVal c_Var) c_aNil)))))))
def z_law_cell : ZF := zBody 2 2 [] (zRet (zIf (zB' (zOp (zCmp fun i j => decide (i < j)) (zoVar 1) (zoVal (zB zLen (zaCons (zoVar 0) zaNil))))) (zOp zIx (zoVar 0) (zoVar 1)) (zOp zAdd (zoVal (zOp zMulI (zoVal (zC (.int 6007))) (zoVar 1))) (zoVal (zOp zMod (zoVal (zB zInt (zaCons (zoVal (zB zSum (zaCons (zoVal (zSl (zoVar 0) zpNone (zpSome (zoVal (zC (.int 1)))))) zaNil))) zaNil))) (zoVal (zC (.int 1000033))))))))
theorem cf_law_cell : CF m_law_cell z_law_cell := c_Body (c_Ret (c_If (c_B' (c_Op c_II c_oVar (c_oVal (c_Bi c_Len (c_aCons c_oVar c_aNil))))) (c_Op c_Ix c_oVar c_oVar) (c_Op c_Add (c_oVal (c_Op c_II (c_oVal c_C) c_oVar)) (c_oVal (c_Op c_II (c_oVal (c_Bi c_Int (c_aCons (c_oVal (c_Bi c_Sum (c_aCons (c_oVal (c_Sl c_oVar c_pNone (c_pSome (c_oVal c_C)))) c_aNil))) c_aNil))) (c_oVal c_C))))))
def z_law_box : ZF := zBody 1 1 [] (zRet (zLst (zaCons (zoVal (zB zAbs (zaCons (zoVar 0) zaNil))) (zaCons (zoVal (zOp (zCmp fun i j => decide (j ≤ i)) (zoVal (zB zAbs (zaCons (zoVar 0) zaNil))) (zoVal (zOp zPow (zoVal (zC (.int 10))) (zoVal (zC (.int 18))))))) (zaCons (zoVal (zOp zMod (zoVal (zB zInt (zaCons (zoVal (zB zAbs (zaCons (zoVar 0) zaNil))) zaNil))) (zoVal (zC (.int 2147483629))))) (zaCons (zoVal (zC (.int 0))) zaNil))))))
theorem cf_law_box : CF m_law_box z_law_box := c_Body (c_Ret (c_Lst (c_aCons (c_oVal (c_Bi c_Abs (c_aCons c_oVar c_aNil))) (c_aCons (c_oVal (c_Op c_II (c_oVal (c_Bi c_Abs (c_aCons c_oVar c_aNil))) (c_oVal (c_Op c_II (c_oVal c_C) (c_oVal c_C))))) (c_aCons (c_oVal (c_Op c_II (c_oVal (c_Bi c_Int (c_aCons (c_oVal (c_Bi c_Abs (c_aCons c_oVar c_aNil))) c_aNil))) (c_oVal c_C))) (c_aCons (c_oVal c_C) c_aNil))))))
def z_law_take : ZF := zBody 4 2 [0] (zSeq (zIfS (zAnd' (zTru (zoVal (zOp zIx (zoVar 0) (zoVal (zC (.int 1)))))) (zB' (zOp (zCmp fun i j => decide (j < i)) (zoVal (zOp zIx (zoVar 0) (zoVal (zC (.int 0))))) (zoVal (zC (.int 0)))))) (zSeq (zSet 2 (zOp zMod (zoVal (zB zInt (zaCons (zoVal (zOp zIx (zoVar 0) (zoVal (zC (.int 0))))) zaNil))) (zoVar 1))) (zSeq (zSetIx 0 (zoVal (zOp zFdiv (zoVal (zOp zIx (zoVar 0) (zoVal (zC (.int 0))))) (zoVar 1))) (zoVal (zC (.int 0)))) (zRet (zMove 2)))) zNext) (zSeq (zSetIx 0 (zoVal (zOp zAdd (zoVal (zOp zIx (zoVar 0) (zoVal (zC (.int 3))))) (zoVal (zC (.int 1))))) (zoVal (zC (.int 3)))) (zSeq (zSet 3 (zOp zMod (zoVal (zB zInt (zaCons (zoVal (zOp zPow (zoVal (zOp zAdd (zoVal (zOp zAdd (zoVal (zOp zIx (zoVar 0) (zoVal (zC (.int 2))))) (zoVal (zOp zMulI (zoVal (zC (.int 15486277))) (zoVal (zOp zIx (zoVar 0) (zoVal (zC (.int 3))))))))) (zoVal (zC (.int 179424673))))) (zoVal (zC (.int 5))))) zaNil))) (zoVal (zC (.int 2147483647))))) (zRet (zOp zMod (zoVal (zB zInt (zaCons (zoVal (zOp zFdiv (zoVal (zOp zMod (zoVal (zB zInt (zaCons (zoVal (zOp zPow (zoVal (zOp zAdd (zoVal (zOp zMulI (zoVar 3) (zoVal (zC (.int 48271))))) (zoVal (zOp zMulI (zoVal (zC (.int 104729))) (zoVal (zOp zIx (zoVar 0) (zoVal (zC (.int 3))))))))) (zoVal (zC (.int 3))))) zaNil))) (zoVal (zC (.int 2147483587))))) (zoVal (zC (.int 64))))) zaNil))) (zoVar 1))))))
theorem cf_law_take : CF m_law_take z_law_take := c_Body (c_Seq (c_IfS (c_And' (c_Tru (c_oVal (c_Op c_Ix c_oVar (c_oVal c_C)))) (c_B' (c_Op c_II (c_oVal (c_Op c_Ix c_oVar (c_oVal c_C))) (c_oVal c_C)))) (c_Seq (c_Set (c_Op c_II (c_oVal (c_Bi c_Int (c_aCons (c_oVal (c_Op c_Ix c_oVar (c_oVal c_C))) c_aNil))) c_oVar)) (c_Seq (c_SetIx (c_oVal (c_Op c_II (c_oVal (c_Op c_Ix c_oVar (c_oVal c_C))) c_oVar)) (c_oVal c_C)) (c_Ret c_Move))) c_Next) (c_Seq (c_SetIx (c_oVal (c_Op c_Add (c_oVal (c_Op c_Ix c_oVar (c_oVal c_C))) (c_oVal c_C))) (c_oVal c_C)) (c_Seq (c_Set (c_Op c_II (c_oVal (c_Bi c_Int (c_aCons (c_oVal (c_Op c_II (c_oVal (c_Op c_Add (c_oVal (c_Op c_Add (c_oVal (c_Op c_Ix c_oVar (c_oVal c_C))) (c_oVal (c_Op c_II (c_oVal c_C) (c_oVal (c_Op c_Ix c_oVar (c_oVal c_C))))))) (c_oVal c_C))) (c_oVal c_C))) c_aNil))) (c_oVal c_C))) (c_Ret (c_Op c_II (c_oVal (c_Bi c_Int (c_aCons (c_oVal (c_Op c_II (c_oVal (c_Op c_II (c_oVal (c_Bi c_Int (c_aCons (c_oVal (c_Op c_II (c_oVal (c_Op c_Add (c_oVal (c_Op c_II c_oVar (c_oVal c_C))) (c_oVal (c_Op c_II (c_oVal c_C) (c_oVal (c_Op c_Ix c_oVar (c_oVal c_C))))))) (c_oVal c_C))) c_aNil))) (c_oVal c_C))) (c_oVal c_C))) c_aNil))) c_oVar)))))
def z_law_same_body (rec : ZF) : ZF := zBody 3 2 [] (zSeq (zIfS (zOr' (zB' (zOp (zIsN false) (zoVar 1) (zoVal (zC .non)))) (zTru (zoVal (zB zIsi (zaCons (zoVar 1) (zaCons (zoVal (zC (.val (.ty "bool")))) zaNil)))))) (zRet (zIf (zB' (zOp (zIsN false) (zoVar 1) (zoVal (zC .non)))) (zOp (zIsN false) (zoVar 0) (zoVal (zC .non))) (zAnd (zB zIsi (zaCons (zoVar 0) (zaCons (zoVal (zC (.val (.ty "bool")))) zaNil))) (zOp (zEq false) (zoVal (zOp (zIsB false) (zoVar 0) (zoVal (zC (.bl true))))) (zoVal (zOp (zIsB false) (zoVar 1) (zoVal (zC (.bl true))))))))) zNext) (zSeq (zIfS (zTru (zoVal (zB zIsi (zaCons (zoVar 1) (zaCons (zoVal (zC (.val (.ty "int")))) zaNil))))) (zRet (zAnd (zB zIsi (zaCons (zoVar 0) (zaCons (zoVal (zC (.val (.ty "int")))) zaNil))) (zAnd (zNot (zB zIsi (zaCons (zoVar 0) (zaCons (zoVal (zC (.val (.ty "bool")))) zaNil)))) (zOp (zEq false) (zoVal (zOp zSub' (zoVal (zB zInt (zaCons (zoVar 0) zaNil))) (zoVar 1))) (zoVal (zC (.int 0))))))) zNext) (zSeq (zIfS (zTru (zoVal (zB zIsi (zaCons (zoVar 1) (zaCons (zoVal (zC (.val (.ty "str")))) zaNil))))) (zRet (zAnd (zB zIsi (zaCons (zoVar 0) (zaCons (zoVal (zC (.val (.ty "str")))) zaNil))) (zAnd (zOp (zEq false) (zoVal (zB zLen (zaCons (zoVar 0) zaNil))) (zoVal (zB zLen (zaCons (zoVar 1) zaNil)))) (zOp (zEq false) (zoVal (zLc [2] (ziRange1 (zaCons (zoVal (zB zLen (zaCons (zoVar 1) zaNil))) zaNil)) (zgName 2) (zB' (zOp (zEq true) (zoVal (zSl (zoVar 0) (zpSome (zoVar 2)) (zpSome (zoVal (zOp zAdd (zoVar 2) (zoVal (zC (.int 1)))))))) (zoVal (zOp zIx (zoVar 1) (zoVar 2))))) (zVar 2))) (zoVal (zLst zaNil)))))) zNext) (zSeq (zIfS (zOr' (zB' (zOp (zEq true) (zoVal (zB zIsi (zaCons (zoVar 0) (zaCons (zoVal (zC (.val (.ty "list")))) zaNil)))) (zoVal (zB zIsi (zaCons (zoVar 1) (zaCons (zoVal (zC (.val (.ty "list")))) zaNil)))))) (zB' (zOp (zEq true) (zoVal (zB zIsi (zaCons (zoVar 0) (zaCons (zoVal (zC (.val (.ty "tuple")))) zaNil)))) (zoVal (zB zIsi (zaCons (zoVar 1) (zaCons (zoVal (zC (.val (.ty "tuple")))) zaNil))))))) (zRet (zC (.bl false))) zNext) (zRet (zAnd (zOp (zEq false) (zoVal (zB zLen (zaCons (zoVar 0) zaNil))) (zoVal (zB zLen (zaCons (zoVar 1) zaNil)))) (zOp (zEq false) (zoVal (zLc [2] (ziRange1 (zaCons (zoVal (zB zLen (zaCons (zoVar 1) zaNil))) zaNil)) (zgName 2) (zNot' (zTru (zoVal (zCall rec [] 2 (zaCons (zoVal (zOp zIx (zoVar 0) (zoVar 2))) (zaCons (zoVal (zOp zIx (zoVar 1) (zoVar 2))) zaNil)))))) (zVar 2))) (zoVal (zLst zaNil)))))))))
def z_law_same : Nat → ZF
  | 0 => fun _ => none
  | n + 1 => z_law_same_body (z_law_same n)
theorem cf_law_same_body {m : MF} {rec : ZF} (hrec : CF m rec) : CF (m_law_same_body m) (z_law_same_body rec) := c_Body (c_Seq (c_IfS (c_Or' (c_B' (c_Op c_IsN c_oVar (c_oVal c_C))) (c_Tru (c_oVal (c_Bi c_Isi (c_aCons c_oVar (c_aCons (c_oVal c_C) c_aNil)))))) (c_Ret (c_If (c_B' (c_Op c_IsN c_oVar (c_oVal c_C))) (c_Op c_IsN c_oVar (c_oVal c_C)) (c_And (c_Bi c_Isi (c_aCons c_oVar (c_aCons (c_oVal c_C) c_aNil))) (c_Op c_Eq (c_oVal (c_Op c_IsB c_oVar (c_oVal c_C))) (c_oVal (c_Op c_IsB c_oVar (c_oVal c_C))))))) c_Next) (c_Seq (c_IfS (c_Tru (c_oVal (c_Bi c_Isi (c_aCons c_oVar (c_aCons (c_oVal c_C) c_aNil))))) (c_Ret (c_And (c_Bi c_Isi (c_aCons c_oVar (c_aCons (c_oVal c_C) c_aNil))) (c_And (c_Not (c_Bi c_Isi (c_aCons c_oVar (c_aCons (c_oVal c_C) c_aNil)))) (c_Op c_Eq (c_oVal (c_Op c_II (c_oVal (c_Bi c_Int (c_aCons c_oVar c_aNil))) c_oVar)) (c_oVal c_C))))) c_Next) (c_Seq (c_IfS (c_Tru (c_oVal (c_Bi c_Isi (c_aCons c_oVar (c_aCons (c_oVal c_C) c_aNil))))) (c_Ret (c_And (c_Bi c_Isi (c_aCons c_oVar (c_aCons (c_oVal c_C) c_aNil))) (c_And (c_Op c_Eq (c_oVal (c_Bi c_Len (c_aCons c_oVar c_aNil))) (c_oVal (c_Bi c_Len (c_aCons c_oVar c_aNil)))) (c_Op c_Eq (c_oVal (c_Lc (c_iRange1 (c_aCons (c_oVal (c_Bi c_Len (c_aCons c_oVar c_aNil))) c_aNil)) c_gName (c_B' (c_Op c_Eq (c_oVal (c_Sl c_oVar (c_pSome c_oVar) (c_pSome (c_oVal (c_Op c_Add c_oVar (c_oVal c_C)))))) (c_oVal (c_Op c_Ix c_oVar c_oVar)))) c_Var)) (c_oVal (c_Lst c_aNil)))))) c_Next) (c_Seq (c_IfS (c_Or' (c_B' (c_Op c_Eq (c_oVal (c_Bi c_Isi (c_aCons c_oVar (c_aCons (c_oVal c_C) c_aNil)))) (c_oVal (c_Bi c_Isi (c_aCons c_oVar (c_aCons (c_oVal c_C) c_aNil)))))) (c_B' (c_Op c_Eq (c_oVal (c_Bi c_Isi (c_aCons c_oVar (c_aCons (c_oVal c_C) c_aNil)))) (c_oVal (c_Bi c_Isi (c_aCons c_oVar (c_aCons (c_oVal c_C) c_aNil))))))) (c_Ret c_C) c_Next) (c_Ret (c_And (c_Op c_Eq (c_oVal (c_Bi c_Len (c_aCons c_oVar c_aNil))) (c_oVal (c_Bi c_Len (c_aCons c_oVar c_aNil)))) (c_Op c_Eq (c_oVal (c_Lc (c_iRange1 (c_aCons (c_oVal (c_Bi c_Len (c_aCons c_oVar c_aNil))) c_aNil)) c_gName (c_Not' (c_Tru (c_oVal (c_Call hrec (c_aCons (c_oVal (c_Op c_Ix c_oVar c_oVar)) (c_aCons (c_oVal (c_Op c_Ix c_oVar c_oVar)) c_aNil)))))) c_Var)) (c_oVal (c_Lst c_aNil)))))))))
theorem cf_law_same : ∀ n : Nat, CF (m_law_same n) (z_law_same n)
  | 0 => fun ds r os h => by cases h
  | n + 1 => cf_law_same_body (cf_law_same n)
def z_law_choose : ZF := zBody 4 2 [] (zSeq (zSet 2 (zC (.int 1))) (zSeq (zFor (ziRange1 (zaCons (zoVar 1) zaNil)) (zgName 3) (zSet 2 (zOp zFdiv (zoVal (zOp zMulI (zoVar 2) (zoVal (zOp zSub' (zoVar 0) (zoVar 3))))) (zoVal (zOp zAdd (zoVar 3) (zoVal (zC (.int 1)))))))) (zRet (zMove 2))))
theorem cf_law_choose : CF m_law_choose z_law_choose := c_Body (c_Seq (c_Set c_C) (c_Seq (c_For (c_iRange1 (c_aCons c_oVar c_aNil)) c_gName (c_Set (c_Op c_II (c_oVal (c_Op c_II c_oVar (c_oVal (c_Op c_II c_oVar c_oVar)))) (c_oVal (c_Op c_Add c_oVar (c_oVal c_C)))))) (c_Ret c_Move)))
def z_law_parted : ZF := zBody 7 2 [] (zSeq (zSet 2 (zLst (zaCons (zoVal (zOp zAdd (zoVal (zLst (zaCons (zoVal (zC (.int 1))) zaNil))) (zoVal (zOp zRepL (zoVal (zLst (zaCons (zoVal (zC (.int 0))) zaNil))) (zoVar 0))))) zaNil))) (zSeq (zFor (ziRange1 (zaCons (zoVar 1) zaNil)) (zgName 3) (zSeq (zSet 4 (zOp zIx (zoVar 2) (zoVar 3))) (zApp 2 (zoVal (zLc [5] (ziRange1 (zaCons (zoVal (zOp zAdd (zoVar 0) (zoVal (zC (.int 1))))) zaNil)) (zgName 5) zYes (zB zMax (zaCons (zoVal (zLc [6] (ziRange1 (zaCons (zoVal (zOp zAdd (zoVar 5) (zoVal (zC (.int 1))))) zaNil)) (zgName 6) zYes (zOp zMulI (zoVal (zCall (z_law_choose) [] 2 (zaCons (zoVal (zVar 5)) (zaCons (zoVal (zVar 6)) zaNil)))) (zoVal (zOp zIx (zoVar 4) (zoVal (zOp zSub' (zoVar 5) (zoVar 6)))))))) zaNil))))))) (zRet (zMove 2))))
theorem cf_law_parted : CF m_law_parted z_law_parted := c_Body (c_Seq (c_Set (c_Lst (c_aCons (c_oVal (c_Op c_Add (c_oVal (c_Lst (c_aCons (c_oVal c_C) c_aNil))) (c_oVal (c_Op c_RepL (c_oVal (c_Lst (c_aCons (c_oVal c_C) c_aNil))) c_oVar)))) c_aNil))) (c_Seq (c_For (c_iRange1 (c_aCons c_oVar c_aNil)) c_gName (c_Seq (c_Set (c_Op c_Ix c_oVar c_oVar)) (c_App (c_oVal (c_Lc (c_iRange1 (c_aCons (c_oVal (c_Op c_Add c_oVar (c_oVal c_C))) c_aNil)) c_gName c_Yes (c_Bi c_Max (c_aCons (c_oVal (c_Lc (c_iRange1 (c_aCons (c_oVal (c_Op c_Add c_oVar (c_oVal c_C))) c_aNil)) c_gName c_Yes (c_Op c_II (c_oVal (c_Call (cf_law_choose) (c_aCons (c_oVal c_Var) (c_aCons (c_oVal c_Var) c_aNil)))) (c_oVal (c_Op c_Ix c_oVar (c_oVal (c_Op c_II c_oVar c_oVar))))))) c_aNil))))))) (c_Ret c_Move)))
def z_law_count : ZF := zBody 4 2 [0] (zSeq (zPar [2, 3] (zdCons (zCall (z_law_take) [0] 2 (zaCons (zoVar 0) (zaCons (zoVal (zC (.int 4))) zaNil))) (zdCons (zCall (z_law_take) [0] 2 (zaCons (zoVar 0) (zaCons (zoVal (zOp zSub' (zoVal (zC (.int 9))) (zoVar 1))) zaNil))) zdNil))) (zRet (zIf (zB' (zOp (zEq false) (zoVar 2) (zoVal (zC (.int 0))))) (zVar 1) (zIf (zB' (zOp (zEq false) (zoVar 2) (zoVal (zC (.int 1))))) (zC (.int 8)) (zOp zAdd (zoVar 1) (zoVar 3))))))
theorem cf_law_count : CF m_law_count z_law_count := c_Body (c_Seq (c_Par (c_dCons (c_Call (cf_law_take) (c_aCons c_oVar (c_aCons (c_oVal c_C) c_aNil))) (c_dCons (c_Call (cf_law_take) (c_aCons c_oVar (c_aCons (c_oVal (c_Op c_II (c_oVal c_C) c_oVar)) c_aNil))) c_dNil))) (c_Ret (c_If (c_B' (c_Op c_Eq c_oVar (c_oVal c_C))) c_Var (c_If (c_B' (c_Op c_Eq c_oVar (c_oVal c_C))) c_C (c_Op c_Add c_oVar c_oVar)))))
def z_law_counts : ZF := zBody 9 2 [0] (zSeq (zPar [2, 3] (zdCons (zOp zAdd (zoVal (zC (.int 1))) (zoVal (zCall (z_law_take) [0] 2 (zaCons (zoVar 0) (zaCons (zoVal (zC (.int 4))) zaNil))))) (zdCons (zOp (zEq false) (zoVal (zCall (z_law_take) [0] 2 (zaCons (zoVar 0) (zaCons (zoVal (zC (.int 4))) zaNil)))) (zoVal (zC (.int 0)))) zdNil))) (zSeq (zPar [4, 5] (zdCons (zCall (z_law_count) [0] 2 (zaCons (zoVar 0) (zaCons (zoVal (zVar 1)) zaNil))) (zdCons (zCall (z_law_take) [0] 2 (zaCons (zoVar 0) (zaCons (zoVal (zC (.int 4))) zaNil))) zdNil))) (zSeq (zIfS (zTru (zoVar 3)) (zRet (zOp zRepL (zoVal (zLst (zaCons (zoVal (zVar 4)) zaNil))) (zoVar 2))) zNext) (zSeq (zSet 6 (zLc [8] (ziRange1 (zaCons (zoVar 2) zaNil)) (zgName 8) zYes (zCall (z_law_count) [0] 2 (zaCons (zoVar 0) (zaCons (zoVal (zVar 1)) zaNil))))) (zSeq (zIfS (zAnd' (zB' (zOp (zCmp fun i j => decide (j < i)) (zoVar 2) (zoVal (zC (.int 1))))) (zB' (zOp (zCmp fun i j => decide (i < j)) (zoVar 5) (zoVar 2)))) (zSeq (zSet 7 (zB zMin (zaCons (zoVar 6) zaNil))) (zSetIx 6 (zoVal (zB zMax (zaCons (zoVar 1) (zaCons (zoVal (zOp zSub' (zoVar 7) (zoVal (zC (.int 1))))) zaNil)))) (zoVar 5))) zNext) (zRet (zMove 6)))))))
theorem cf_law_counts : CF m_law_counts z_law_counts := c_Body (c_Seq (c_Par (c_dCons (c_Op c_Add (c_oVal c_C) (c_oVal (c_Call (cf_law_take) (c_aCons c_oVar (c_aCons (c_oVal c_C) c_aNil))))) (c_dCons (c_Op c_Eq (c_oVal (c_Call (cf_law_take) (c_aCons c_oVar (c_aCons (c_oVal c_C) c_aNil)))) (c_oVal c_C)) c_dNil))) (c_Seq (c_Par (c_dCons (c_Call (cf_law_count) (c_aCons c_oVar (c_aCons (c_oVal c_Var) c_aNil))) (c_dCons (c_Call (cf_law_take) (c_aCons c_oVar (c_aCons (c_oVal c_C) c_aNil))) c_dNil))) (c_Seq (c_IfS (c_Tru c_oVar) (c_Ret (c_Op c_RepL (c_oVal (c_Lst (c_aCons (c_oVal c_Var) c_aNil))) c_oVar)) c_Next) (c_Seq (c_Set (c_Lc (c_iRange1 (c_aCons c_oVar c_aNil)) c_gName c_Yes (c_Call (cf_law_count) (c_aCons c_oVar (c_aCons (c_oVal c_Var) c_aNil))))) (c_Seq (c_IfS (c_And' (c_B' (c_Op c_II c_oVar (c_oVal c_C))) (c_B' (c_Op c_II c_oVar c_oVar))) (c_Seq (c_Set (c_Bi c_Min (c_aCons c_oVar c_aNil))) (c_SetIx (c_oVal (c_Bi c_Max (c_aCons c_oVar (c_aCons (c_oVal (c_Op c_II c_oVar (c_oVal c_C))) c_aNil)))) c_oVar)) c_Next) (c_Ret c_Move))))))
def z_law_gather_told : ZF := zBody 4 3 [] (zSeq (zSet 3 (zIf (zB' (zOp (zEq false) (zoVar 0) (zoVal (zC (.int 1))))) (zB zTuple (zaCons (zoVar 1) zaNil)) (zVar 1))) (zRet (zIf (zB' (zOp (zCmp fun i j => decide (j < i)) (zoVar 0) (zoVal (zC (.int 1))))) (zCallK (z_gathered) [] 2 0 2 [1, 0] zaNil (zaCons (zoVal (zVar 2)) (zaCons (zoVal (zVar 3)) zaNil))) (zCall (z_gathered) [] 2 (zaCons (zoVal (zVar 3)) (zaCons (zoVal (zVar 2)) zaNil))))))
theorem cf_law_gather_told : CF m_law_gather_told z_law_gather_told := c_Body (c_Seq (c_Set (c_If (c_B' (c_Op c_Eq c_oVar (c_oVal c_C))) (c_Bi c_Tuple (c_aCons c_oVar c_aNil)) c_Var)) (c_Ret (c_If (c_B' (c_Op c_II c_oVar (c_oVal c_C))) (c_CallK (cf_gathered) c_aNil (c_aCons (c_oVal c_Var) (c_aCons (c_oVal c_Var) c_aNil))) (c_Call (cf_gathered) (c_aCons (c_oVal c_Var) (c_aCons (c_oVal c_Var) c_aNil))))))
def z_law_spread_told : ZF := zBody 4 3 [] (zSeq (zSet 3 (zIf (zB' (zOp (zEq false) (zoVar 0) (zoVal (zC (.int 1))))) (zB zTuple (zaCons (zoVar 2) zaNil)) (zVar 2))) (zRet (zIf (zB' (zOp (zCmp fun i j => decide (j < i)) (zoVar 0) (zoVal (zC (.int 1))))) (zCallK (z_spread) [] 2 0 2 [1, 0] zaNil (zaCons (zoVal (zVar 3)) (zaCons (zoVal (zVar 1)) zaNil))) (zCall (z_spread) [] 2 (zaCons (zoVal (zVar 1)) (zaCons (zoVal (zVar 3)) zaNil))))))
theorem cf_law_spread_told : CF m_law_spread_told z_law_spread_told := c_Body (c_Seq (c_Set (c_If (c_B' (c_Op c_Eq c_oVar (c_oVal c_C))) (c_Bi c_Tuple (c_aCons c_oVar c_aNil)) c_Var)) (c_Ret (c_If (c_B' (c_Op c_II c_oVar (c_oVal c_C))) (c_CallK (cf_spread) c_aNil (c_aCons (c_oVal c_Var) (c_aCons (c_oVal c_Var) c_aNil))) (c_Call (cf_spread) (c_aCons (c_oVal c_Var) (c_aCons (c_oVal c_Var) c_aNil))))))
def z_law_line_right : ZF := zBody 5 3 [] (zSeq (zPar [3, 4] (zdCons (zCall (z_can_tell) [] 3 (zaCons (zoVal (zLst (zaCons (zoVal (zVar 2)) zaNil))) (zaCons (zoVal (zVar 0)) (zaCons (zoVal (zVar 1)) zaNil)))) (zdCons (zCallK (z_can_tell) [] 3 0 3 [2, 1, 0] zaNil (zaCons (zoVal (zVar 1)) (zaCons (zoVal (zVar 0)) (zaCons (zoVal (zLst (zaCons (zoVal (zOp zAdd (zoVar 2) (zoVal (zC (.int 1))))) zaNil))) zaNil)))) zdNil))) (zRet (zAnd (zCall (z_law_same 2) [] 2 (zaCons (zoVal (zVar 3)) (zaCons (zoVal (zC (.bl true))) zaNil))) (zCall (z_law_same 2) [] 2 (zaCons (zoVal (zVar 4)) (zaCons (zoVal (zC (.bl false))) zaNil))))))
theorem cf_law_line_right : CF m_law_line_right z_law_line_right := c_Body (c_Seq (c_Par (c_dCons (c_Call (cf_can_tell) (c_aCons (c_oVal (c_Lst (c_aCons (c_oVal c_Var) c_aNil))) (c_aCons (c_oVal c_Var) (c_aCons (c_oVal c_Var) c_aNil)))) (c_dCons (c_CallK (cf_can_tell) c_aNil (c_aCons (c_oVal c_Var) (c_aCons (c_oVal c_Var) (c_aCons (c_oVal (c_Lst (c_aCons (c_oVal (c_Op c_Add c_oVar (c_oVal c_C))) c_aNil))) c_aNil)))) c_dNil))) (c_Ret (c_And (c_Call (cf_law_same 2) (c_aCons (c_oVal c_Var) (c_aCons (c_oVal c_C) c_aNil))) (c_Call (cf_law_same 2) (c_aCons (c_oVal c_Var) (c_aCons (c_oVal c_C) c_aNil))))))
def z_law_gather_right : ZF := zBody 11 2 [0] (zSeq (zPar [2, 3, 4] (zdCons (zCall (z_law_counts) [0] 2 (zaCons (zoVar 0) (zaCons (zoVal (zC (.int 1))) zaNil))) (zdCons (zCall (z_law_count) [0] 2 (zaCons (zoVar 0) (zaCons (zoVal (zC (.int 0))) zaNil))) (zdCons (zLst (zaCons (zoVal (zCall (z_law_take) [0] 2 (zaCons (zoVar 0) (zaCons (zoVal (zC (.int 4))) zaNil)))) (zaCons (zoVal (zCall (z_law_take) [0] 2 (zaCons (zoVar 0) (zaCons (zoVal (zC (.int 4))) zaNil)))) zaNil))) zdNil)))) (zSeq (zPar [5, 6] (zdCons (zCall (z_law_take) [0] 2 (zaCons (zoVar 0) (zaCons (zoVal (zB zLen (zaCons (zoVar 2) zaNil))) zaNil))) (zdCons (zCall (z_law_count) [0] 2 (zaCons (zoVar 0) (zaCons (zoVal (zC (.int 0))) zaNil))) zdNil))) (zSeq (zSet 7 (zB zTuple (zaCons (zoVal (zLc [10] (ziSq (zVar 2)) (zgName 10) zYes (zOp zIx (zoVal (zOp zIx (zoVar 1) (zoVal (zOp zAdd (zoVar 3) (zoVal (zC (.int 2))))))) (zoVar 10)))) zaNil))) (zSeq (zSet 8 (zB zList (zaCons (zoVar 2) zaNil))) (zSeq (zSet 9 (zCallB (z_law_gather_told) 3 (zaCons (zoVal (zOp zIx (zoVar 4) (zoVal (zC (.int 0))))) (zaCons (zoVar 8) (zaCons (zoVar 3) zaNil))))) (zSeq (zIfS (zOr' (zNot' (zTru (zoVal (zCall (z_law_same 2) [] 2 (zaCons (zoVal (zVar 9)) (zaCons (zoVal (zVar 7)) zaNil)))))) (zB' (zOp (zEq true) (zoVar 8) (zoVar 2)))) (zRet (zC (.bl false))) zNext) (zSeq (zSetIx 8 (zoVal (zOp zSub' (zoVal (zC (.int 9))) (zoVal (zOp zIx (zoVar 8) (zoVal (zC (.int 0))))))) (zoVal (zC (.int 0)))) (zSeq (zIfS (zNot' (zTru (zoVal (zCall (z_law_same 2) [] 2 (zaCons (zoVal (zCallB (z_law_gather_told) 3 (zaCons (zoVal (zOp zIx (zoVar 4) (zoVal (zC (.int 1))))) (zaCons (zoVar 8) (zaCons (zoVar 6) zaNil))))) (zaCons (zoVal (zB zTuple (zaCons (zoVal (zLc [10] (ziSq (zVar 8)) (zgName 10) zYes (zOp zIx (zoVal (zOp zIx (zoVar 1) (zoVal (zOp zAdd (zoVar 6) (zoVal (zC (.int 2))))))) (zoVar 10)))) zaNil))) zaNil)))))) (zRet (zC (.bl false))) zNext) (zSeq (zIfS (zNot' (zTru (zoVal (zCall (z_law_same 2) [] 2 (zaCons (zoVal (zCallB (z_law_gather_told) 3 (zaCons (zoVal (zOp zIx (zoVar 4) (zoVal (zC (.int 1))))) (zaCons (zoVal (zB zList (zaCons (zoVar 2) zaNil))) (zaCons (zoVar 3) zaNil))))) (zaCons (zoVal (zVar 7)) zaNil)))))) (zRet (zC (.bl false))) zNext) (zRet (zCall (z_law_line_right) [] 3 (zaCons (zoVal (zOp zIx (zoVar 2) (zoVar 5))) (zaCons (zoVal (zVar 3)) (zaCons (zoVal (zOp zIx (zoVar 7) (zoVar 5))) zaNil))))))))))))))
theorem cf_law_gather_right : CF m_law_gather_right z_law_gather_right := c_Body (c_Seq (c_Par (c_dCons (c_Call (cf_law_counts) (c_aCons c_oVar (c_aCons (c_oVal c_C) c_aNil))) (c_dCons (c_Call (cf_law_count) (c_aCons c_oVar (c_aCons (c_oVal c_C) c_aNil))) (c_dCons (c_Lst (c_aCons (c_oVal (c_Call (cf_law_take) (c_aCons c_oVar (c_aCons (c_oVal c_C) c_aNil)))) (c_aCons (c_oVal (c_Call (cf_law_take) (c_aCons c_oVar (c_aCons (c_oVal c_C) c_aNil)))) c_aNil))) c_dNil)))) (c_Seq (c_Par (c_dCons (c_Call (cf_law_take) (c_aCons c_oVar (c_aCons (c_oVal (c_Bi c_Len (c_aCons c_oVar c_aNil))) c_aNil))) (c_dCons (c_Call (cf_law_count) (c_aCons c_oVar (c_aCons (c_oVal c_C) c_aNil))) c_dNil))) (c_Seq (c_Set (c_Bi c_Tuple (c_aCons (c_oVal (c_Lc (c_iSq c_Var) c_gName c_Yes (c_Op c_Ix (c_oVal (c_Op c_Ix c_oVar (c_oVal (c_Op c_Add c_oVar (c_oVal c_C))))) c_oVar))) c_aNil))) (c_Seq (c_Set (c_Bi c_List (c_aCons c_oVar c_aNil))) (c_Seq (c_Set (c_CallB (cf_law_gather_told) (c_aCons (c_oVal (c_Op c_Ix c_oVar (c_oVal c_C))) (c_aCons c_oVar (c_aCons c_oVar c_aNil))))) (c_Seq (c_IfS (c_Or' (c_Not' (c_Tru (c_oVal (c_Call (cf_law_same 2) (c_aCons (c_oVal c_Var) (c_aCons (c_oVal c_Var) c_aNil)))))) (c_B' (c_Op c_Eq c_oVar c_oVar))) (c_Ret c_C) c_Next) (c_Seq (c_SetIx (c_oVal (c_Op c_II (c_oVal c_C) (c_oVal (c_Op c_Ix c_oVar (c_oVal c_C))))) (c_oVal c_C)) (c_Seq (c_IfS (c_Not' (c_Tru (c_oVal (c_Call (cf_law_same 2) (c_aCons (c_oVal (c_CallB (cf_law_gather_told) (c_aCons (c_oVal (c_Op c_Ix c_oVar (c_oVal c_C))) (c_aCons c_oVar (c_aCons c_oVar c_aNil))))) (c_aCons (c_oVal (c_Bi c_Tuple (c_aCons (c_oVal (c_Lc (c_iSq c_Var) c_gName c_Yes (c_Op c_Ix (c_oVal (c_Op c_Ix c_oVar (c_oVal (c_Op c_Add c_oVar (c_oVal c_C))))) c_oVar))) c_aNil))) c_aNil)))))) (c_Ret c_C) c_Next) (c_Seq (c_IfS (c_Not' (c_Tru (c_oVal (c_Call (cf_law_same 2) (c_aCons (c_oVal (c_CallB (cf_law_gather_told) (c_aCons (c_oVal (c_Op c_Ix c_oVar (c_oVal c_C))) (c_aCons (c_oVal (c_Bi c_List (c_aCons c_oVar c_aNil))) (c_aCons c_oVar c_aNil))))) (c_aCons (c_oVal c_Var) c_aNil)))))) (c_Ret c_C) c_Next) (c_Ret (c_Call (cf_law_line_right) (c_aCons (c_oVal (c_Op c_Ix c_oVar c_oVar)) (c_aCons (c_oVal c_Var) (c_aCons (c_oVal (c_Op c_Ix c_oVar c_oVar)) c_aNil))))))))))))))
def z_law_spread_right : ZF := zBody 9 2 [0] (zSeq (zPar [2, 3, 4] (zdCons (zCall (z_law_count) [0] 2 (zaCons (zoVar 0) (zaCons (zoVal (zC (.int 1))) zaNil))) (zdCons (zCall (z_law_counts) [0] 2 (zaCons (zoVar 0) (zaCons (zoVal (zC (.int 0))) zaNil))) (zdCons (zLst (zaCons (zoVal (zCall (z_law_take) [0] 2 (zaCons (zoVar 0) (zaCons (zoVal (zC (.int 4))) zaNil)))) (zaCons (zoVal (zCall (z_law_take) [0] 2 (zaCons (zoVar 0) (zaCons (zoVal (zC (.int 4))) zaNil)))) zaNil))) zdNil)))) (zSeq (zSet 5 (zCall (z_law_count) [0] 2 (zaCons (zoVar 0) (zaCons (zoVal (zC (.int 1))) zaNil)))) (zSeq (zSet 6 (zOp zIx (zoVal (zOp zIx (zoVar 1) (zoVal (zOp zAdd (zoVal (zB zMin (zaCons (zoVar 3) zaNil))) (zoVal (zC (.int 2))))))) (zoVar 2))) (zSeq (zSet 7 (zB zList (zaCons (zoVar 3) zaNil))) (zSeq (zSet 8 (zCallB (z_law_spread_told) 3 (zaCons (zoVal (zOp zIx (zoVar 4) (zoVal (zC (.int 0))))) (zaCons (zoVar 2) (zaCons (zoVar 7) zaNil))))) (zSeq (zIfS (zOr' (zNot' (zTru (zoVal (zCall (z_law_same 2) [] 2 (zaCons (zoVal (zVar 8)) (zaCons (zoVal (zVar 6)) zaNil)))))) (zB' (zOp (zEq true) (zoVar 7) (zoVar 3)))) (zRet (zC (.bl false))) zNext) (zSeq (zSetIx 7 (zoVal (zOp zSub' (zoVal (zC (.int 8))) (zoVal (zOp zIx (zoVar 7) (zoVal (zC (.int 0))))))) (zoVal (zC (.int 0)))) (zSeq (zIfS (zNot' (zTru (zoVal (zCall (z_law_same 2) [] 2 (zaCons (zoVal (zCallB (z_law_spread_told) 3 (zaCons (zoVal (zOp zIx (zoVar 4) (zoVal (zC (.int 1))))) (zaCons (zoVar 5) (zaCons (zoVar 7) zaNil))))) (zaCons (zoVal (zOp zIx (zoVal (zOp zIx (zoVar 1) (zoVal (zOp zAdd (zoVal (zB zMin (zaCons (zoVar 7) zaNil))) (zoVal (zC (.int 2))))))) (zoVar 5))) zaNil)))))) (zRet (zC (.bl false))) zNext) (zSeq (zIfS (zNot' (zTru (zoVal (zCall (z_law_same 2) [] 2 (zaCons (zoVal (zCallB (z_law_spread_told) 3 (zaCons (zoVal (zOp zIx (zoVar 4) (zoVal (zC (.int 1))))) (zaCons (zoVar 2) (zaCons (zoVal (zB zList (zaCons (zoVar 3) zaNil))) zaNil))))) (zaCons (zoVal (zVar 6)) zaNil)))))) (zRet (zC (.bl false))) zNext) (zRet (zCall (z_law_line_right) [] 3 (zaCons (zoVal (zVar 2)) (zaCons (zoVal (zB zMin (zaCons (zoVar 3) zaNil))) (zaCons (zoVal (zVar 6)) zaNil))))))))))))))
theorem cf_law_spread_right : CF m_law_spread_right z_law_spread_right := c_Body (c_Seq (c_Par (c_dCons (c_Call (cf_law_count) (c_aCons c_oVar (c_aCons (c_oVal c_C) c_aNil))) (c_dCons (c_Call (cf_law_counts) (c_aCons c_oVar (c_aCons (c_oVal c_C) c_aNil))) (c_dCons (c_Lst (c_aCons (c_oVal (c_Call (cf_law_take) (c_aCons c_oVar (c_aCons (c_oVal c_C) c_aNil)))) (c_aCons (c_oVal (c_Call (cf_law_take) (c_aCons c_oVar (c_aCons (c_oVal c_C) c_aNil)))) c_aNil))) c_dNil)))) (c_Seq (c_Set (c_Call (cf_law_count) (c_aCons c_oVar (c_aCons (c_oVal c_C) c_aNil)))) (c_Seq (c_Set (c_Op c_Ix (c_oVal (c_Op c_Ix c_oVar (c_oVal (c_Op c_Add (c_oVal (c_Bi c_Min (c_aCons c_oVar c_aNil))) (c_oVal c_C))))) c_oVar)) (c_Seq (c_Set (c_Bi c_List (c_aCons c_oVar c_aNil))) (c_Seq (c_Set (c_CallB (cf_law_spread_told) (c_aCons (c_oVal (c_Op c_Ix c_oVar (c_oVal c_C))) (c_aCons c_oVar (c_aCons c_oVar c_aNil))))) (c_Seq (c_IfS (c_Or' (c_Not' (c_Tru (c_oVal (c_Call (cf_law_same 2) (c_aCons (c_oVal c_Var) (c_aCons (c_oVal c_Var) c_aNil)))))) (c_B' (c_Op c_Eq c_oVar c_oVar))) (c_Ret c_C) c_Next) (c_Seq (c_SetIx (c_oVal (c_Op c_II (c_oVal c_C) (c_oVal (c_Op c_Ix c_oVar (c_oVal c_C))))) (c_oVal c_C)) (c_Seq (c_IfS (c_Not' (c_Tru (c_oVal (c_Call (cf_law_same 2) (c_aCons (c_oVal (c_CallB (cf_law_spread_told) (c_aCons (c_oVal (c_Op c_Ix c_oVar (c_oVal c_C))) (c_aCons c_oVar (c_aCons c_oVar c_aNil))))) (c_aCons (c_oVal (c_Op c_Ix (c_oVal (c_Op c_Ix c_oVar (c_oVal (c_Op c_Add (c_oVal (c_Bi c_Min (c_aCons c_oVar c_aNil))) (c_oVal c_C))))) c_oVar)) c_aNil)))))) (c_Ret c_C) c_Next) (c_Seq (c_IfS (c_Not' (c_Tru (c_oVal (c_Call (cf_law_same 2) (c_aCons (c_oVal (c_CallB (cf_law_spread_told) (c_aCons (c_oVal (c_Op c_Ix c_oVar (c_oVal c_C))) (c_aCons c_oVar (c_aCons (c_oVal (c_Bi c_List (c_aCons c_oVar c_aNil))) c_aNil))))) (c_aCons (c_oVal c_Var) c_aNil)))))) (c_Ret c_C) c_Next) (c_Ret (c_Call (cf_law_line_right) (c_aCons (c_oVal c_Var) (c_aCons (c_oVal (c_Bi c_Min (c_aCons c_oVar c_aNil))) (c_aCons (c_oVal c_Var) c_aNil))))))))))))))
def z_law : ZF := zBody 4 1 [] (zSeq (zSet 1 (zCall (z_law_parted) [] 2 (zaCons (zoVal (zC (.int 8))) (zaCons (zoVal (zC (.int 10))) zaNil)))) (zSeq (zFor (ziRange1 (zaCons (zoVal (zB zMax (zaCons (zoVal (zC (.int 1))) (zaCons (zoVal (zB zMin (zaCons (zoVal (zC (.int 3))) (zaCons (zoVal (zB zLen (zaCons (zoVar 0) zaNil))) zaNil)))) zaNil)))) zaNil)) (zgName 2) (zSeq (zSet 3 (zCall (z_law_box) [] 1 (zaCons (zoVal (zCall (z_law_cell) [] 2 (zaCons (zoVal (zVar 0)) (zaCons (zoVal (zVar 2)) zaNil)))) zaNil))) (zIfS (zOr' (zNot' (zTru (zoVal (zCall (z_law_gather_right) [0] 2 (zaCons (zoVar 3) (zaCons (zoVal (zVar 1)) zaNil)))))) (zNot' (zTru (zoVal (zCall (z_law_spread_right) [0] 2 (zaCons (zoVar 3) (zaCons (zoVal (zVar 1)) zaNil))))))) (zRet (zC (.bl false))) zNext))) (zRet (zC (.bl true)))))
theorem cf_law : CF m_law z_law := c_Body (c_Seq (c_Set (c_Call (cf_law_parted) (c_aCons (c_oVal c_C) (c_aCons (c_oVal c_C) c_aNil)))) (c_Seq (c_For (c_iRange1 (c_aCons (c_oVal (c_Bi c_Max (c_aCons (c_oVal c_C) (c_aCons (c_oVal (c_Bi c_Min (c_aCons (c_oVal c_C) (c_aCons (c_oVal (c_Bi c_Len (c_aCons c_oVar c_aNil))) c_aNil)))) c_aNil)))) c_aNil)) c_gName (c_Seq (c_Set (c_Call (cf_law_box) (c_aCons (c_oVal (c_Call (cf_law_cell) (c_aCons (c_oVal c_Var) (c_aCons (c_oVal c_Var) c_aNil)))) c_aNil))) (c_IfS (c_Or' (c_Not' (c_Tru (c_oVal (c_Call (cf_law_gather_right) (c_aCons c_oVar (c_aCons (c_oVal c_Var) c_aNil)))))) (c_Not' (c_Tru (c_oVal (c_Call (cf_law_spread_right) (c_aCons c_oVar (c_aCons (c_oVal c_Var) c_aNil))))))) (c_Ret c_C) c_Next))) (c_Ret c_C)))
/-! ### derivations -/
section
variable {P : Program} {w : World} {K : PySem.W.Frag} {mg : Str → Option Value} {base : Heap}
theorem sc_is_whole : FnScope N_is_whole ["value"] (defScope s_is_whole) := ⟨rfl, rfl, rfl, by decide +kernel, rfl, by decide +kernel, by decide +kernel⟩
theorem ok_is_whole (T : Txt K mg) : Has P w K mg base "is_whole" s_is_whole ["value"] 1 [] m_is_whole := by
  have S := sc_is_whole
  refine has_mk T.a_is_whole S (fun _ _ _ _ _ _ us hl => match us, hl with | [_], _ => rfl) ?_
  intro f cdv A outer s H E hr
  have hx : ∀ σ, PassesAt (L2.CX P w) (cxOf (L2.CX P w) P w K mg base N_is_whole "is_whole" (defScope s_is_whole) f cdv A outer s H E) σ (WE (fun cls d _ H => E cls d H) σ) := passAt (takes_of rfl rfl rfl rfl)
  have hp : PassesOwn (model P w) (cxOf (L2.CX P w) P w K mg base N_is_whole "is_whole" (defScope s_is_whole) f cdv A outer s H E).A (cxOf (L2.CX P w) P w K mg base N_is_whole "is_whole" (defScope s_is_whole) f cdv A outer s H E).env (cxOf (L2.CX P w) P w K mg base N_is_whole "is_whole" (defScope s_is_whole) f cdv A outer s H E).xe := passes_of rfl
  show XSs _ _ _ _ _
  refine xss_one ?_
  refine xs_ret ?_
  refine xe_and ?_ ?_
  · refine xe_b call_isiX sc_isi (by rfl) T.z_isinstance PyProof.Rows.boot_isinstance ?_ (hn := by decide) (hdb := by decide) (he := by rfl) (hpl := by rfl)
    refine xa_cons ?_ ?_ (hs := by rfl)
    · exact xo_var 0 (hN := by rfl) (hv := by first | exact Or.inl rfl | exact Or.inr (Or.inl rfl) | exact Or.inr (Or.inr rfl)) (hd := by decide) (hcd := by decide)
    refine xa_cons ?_ ?_ (hs := by rfl)
    · refine xo_val ?_
      exact xe_ty (by rfl) T.z_int PyProof.Rows.boot_int (hn := by decide) (hd := by decide)
    exact xa_nil
  refine xe_one ?_
  refine xe_not ?_
  refine xe_b call_isiX sc_isi (by rfl) T.z_isinstance PyProof.Rows.boot_isinstance ?_ (hn := by decide) (hdb := by decide) (he := by rfl) (hpl := by rfl)
  refine xa_cons ?_ ?_ (hs := by rfl)
  · exact xo_var 0 (hN := by rfl) (hv := by first | exact Or.inl rfl | exact Or.inr (Or.inl rfl) | exact Or.inr (Or.inr rfl)) (hd := by decide) (hcd := by decide)
  refine xa_cons ?_ ?_ (hs := by rfl)
  · refine xo_val ?_
    exact xe_ty (by rfl) T.z_bool PyProof.Rows.boot_bool (hn := by decide) (hd := by decide)
  exact xa_nil
theorem sc_is_between : FnScope N_is_between ["value", "least", "most"] (defScope s_is_between) := ⟨rfl, rfl, rfl, by decide +kernel, rfl, by decide +kernel, by decide +kernel⟩
theorem ok_is_between (T : Txt K mg) : Has P w K mg base "is_between" s_is_between ["value", "least", "most"] 2 [] m_is_between := by
  have S := sc_is_between
  refine has_mk T.a_is_between S (fun _ _ _ _ _ _ us hl => match us, hl with | [_, _, _], _ => rfl) ?_
  intro f cdv A outer s H E hr
  have hx : ∀ σ, PassesAt (L2.CX P w) (cxOf (L2.CX P w) P w K mg base N_is_between "is_between" (defScope s_is_between) f cdv A outer s H E) σ (WE (fun cls d _ H => E cls d H) σ) := passAt (takes_of rfl rfl rfl rfl)
  have hp : PassesOwn (model P w) (cxOf (L2.CX P w) P w K mg base N_is_between "is_between" (defScope s_is_between) f cdv A outer s H E).A (cxOf (L2.CX P w) P w K mg base N_is_between "is_between" (defScope s_is_between) f cdv A outer s H E).env (cxOf (L2.CX P w) P w K mg base N_is_between "is_between" (defScope s_is_between) f cdv A outer s H E).xe := passes_of rfl
  have H_is_whole := ok_is_whole (P := P) (w := w) (base := base) T
  show XSs _ _ _ _ _
  refine xss_one ?_
  refine xs_ret ?_
  refine xe_and ?_ ?_
  · refine xe_callH (ps := ["value"]) H_is_whole (hr.mono (by decide)) (by rfl) hx ?_ (hdb := by decide) (he := by rfl) (hpl := by rfl)
    refine xa_cons ?_ ?_ (hs := by rfl)
    · refine xo_val ?_
      exact xe_var 0 (hi := by decide) (hN := by rfl) (hv := by first | exact Or.inl rfl | exact Or.inr (Or.inl rfl) | exact Or.inr (Or.inr rfl)) (hd := by decide) (hcd := by decide)
    exact xa_nil
  refine xe_one ?_
  refine xe_chain op_le op_le so_le so_le ?_ ?_ ?_ (hm := by with_unfolding_all rfl)
  · exact xo_var 1 (hN := by rfl) (hv := by first | exact Or.inl rfl | exact Or.inr (Or.inl rfl) | exact Or.inr (Or.inr rfl)) (hd := by decide) (hcd := by decide)
  · exact xo_var 0 (hN := by rfl) (hv := by first | exact Or.inl rfl | exact Or.inr (Or.inl rfl) | exact Or.inr (Or.inr rfl)) (hd := by decide) (hcd := by decide)
  exact xo_var 2 (hN := by rfl) (hv := by first | exact Or.inl rfl | exact Or.inr (Or.inl rfl) | exact Or.inr (Or.inr rfl)) (hd := by decide) (hcd := by decide)
theorem sc_is_list : FnScope N_is_list ["value"] (defScope s_is_list) := ⟨rfl, rfl, rfl, by decide +kernel, rfl, by decide +kernel, by decide +kernel⟩
theorem ok_is_list (T : Txt K mg) : Has P w K mg base "is_list" s_is_list ["value"] 1 [] m_is_list := by
  have S := sc_is_list
  refine has_mk T.a_is_list S (fun _ _ _ _ _ _ us hl => match us, hl with | [_], _ => rfl) ?_
  intro f cdv A outer s H E hr
  have hx : ∀ σ, PassesAt (L2.CX P w) (cxOf (L2.CX P w) P w K mg base N_is_list "is_list" (defScope s_is_list) f cdv A outer s H E) σ (WE (fun cls d _ H => E cls d H) σ) := passAt (takes_of rfl rfl rfl rfl)
  have hp : PassesOwn (model P w) (cxOf (L2.CX P w) P w K mg base N_is_list "is_list" (defScope s_is_list) f cdv A outer s H E).A (cxOf (L2.CX P w) P w K mg base N_is_list "is_list" (defScope s_is_list) f cdv A outer s H E).env (cxOf (L2.CX P w) P w K mg base N_is_list "is_list" (defScope s_is_list) f cdv A outer s H E).xe := passes_of rfl
  show XSs _ _ _ _ _
  refine xss_one ?_
  refine xs_ret ?_
  refine xe_b call_isiX sc_isi (by rfl) T.z_isinstance PyProof.Rows.boot_isinstance ?_ (hn := by decide) (hdb := by decide) (he := by rfl) (hpl := by rfl)
  refine xa_cons ?_ ?_ (hs := by rfl)
  · exact xo_var 0 (hN := by rfl) (hv := by first | exact Or.inl rfl | exact Or.inr (Or.inl rfl) | exact Or.inr (Or.inr rfl)) (hd := by decide) (hcd := by decide)
  refine xa_cons ?_ ?_ (hs := by rfl)
  · refine xo_val ?_
    refine xe_tup ?_
    refine xa_cons ?_ ?_ (hs := by rfl)
    · refine xo_val ?_
      exact xe_ty (by rfl) T.z_list PyProof.Rows.boot_list (hn := by decide) (hd := by decide)
    refine xa_cons ?_ ?_ (hs := by rfl)
    · refine xo_val ?_
      exact xe_ty (by rfl) T.z_tuple PyProof.Rows.boot_tuple (hn := by decide) (hd := by decide)
    exact xa_nil
  exact xa_nil
theorem sc_are_between : FnScope N_are_between ["value", "least", "most"] (defScope s_are_between) := ⟨rfl, rfl, rfl, by decide +kernel, rfl, by decide +kernel, by decide +kernel⟩
theorem ok_are_between (T : Txt K mg) : Has P w K mg base "are_between" s_are_between ["value", "least", "most"] 3 [] m_are_between := by
  have S := sc_are_between
  refine has_mk T.a_are_between S (fun _ _ _ _ _ _ us hl => match us, hl with | [_, _, _], _ => rfl) ?_
  intro f cdv A outer s H E hr
  have hx : ∀ σ, PassesAt (L2.CX P w) (cxOf (L2.CX P w) P w K mg base N_are_between "are_between" (defScope s_are_between) f cdv A outer s H E) σ (WE (fun cls d _ H => E cls d H) σ) := passAt (takes_of rfl rfl rfl rfl)
  have hp : PassesOwn (model P w) (cxOf (L2.CX P w) P w K mg base N_are_between "are_between" (defScope s_are_between) f cdv A outer s H E).A (cxOf (L2.CX P w) P w K mg base N_are_between "are_between" (defScope s_are_between) f cdv A outer s H E).env (cxOf (L2.CX P w) P w K mg base N_are_between "are_between" (defScope s_are_between) f cdv A outer s H E).xe := passes_of rfl
  have H_is_list := ok_is_list (P := P) (w := w) (base := base) T
  have H_is_between := ok_is_between (P := P) (w := w) (base := base) T
  show XSs _ _ _ _ _
  refine xss_one ?_
  refine xs_ret ?_
  refine xe_and ?_ ?_
  · refine xe_callH (ps := ["value"]) H_is_list (hr.mono (by decide)) (by rfl) hx ?_ (hdb := by decide) (he := by rfl) (hpl := by rfl)
    refine xa_cons ?_ ?_ (hs := by rfl)
    · refine xo_val ?_
      exact xe_var 0 (hi := by decide) (hN := by rfl) (hv := by first | exact Or.inl rfl | exact Or.inr (Or.inl rfl) | exact Or.inr (Or.inr rfl)) (hd := by decide) (hcd := by decide)
    exact xa_nil
  refine xe_one ?_
  refine xe_zall (by rfl) (by rfl) T.z_all ?_ (he := by rfl) (hpl := by rfl)
  refine xa_cons ?_ ?_ (hs := by rfl)
  · refine xo_val ?_
    refine xe_lc (own := [("one", 3)]) (gs := [3]) (by rfl) S.nd ?_ (blkOk_by (N := N_are_between) (sc := defScope s_are_between) (own := [("one", 3)]) (by decide +kernel)) ?_ ?_ ?_ (hR := by decide) (hgs := by decide) (hs := by intro _; rfl)
    · refine xi_sq ?_
      exact xe_var 0 (hi := by decide) (hN := by rfl) (hv := by first | exact Or.inl rfl | exact Or.inr (Or.inl rfl) | exact Or.inr (Or.inr rfl)) (hd := by decide) (hcd := by decide)
    · intro _ _ _ _ _
      exact xg_name 3 S.nd (hR := by decide) (hi := by rfl) (hx := by first | exact Or.inl rfl | exact Or.inr rfl) (hf := by first | exact .inl rfl | exact .inr rfl | assumption)
    · intro _ _ _ _ _
      exact xts_nil
    intro _ _ _ _ _
    refine xe_callH (ps := ["value", "least", "most"]) H_is_between (hr.mono (by decide)) (by rfl) passB ?_ (hdb := by decide) (he := by rfl) (hpl := by rfl)
    refine xa_cons ?_ ?_ (hs := by rfl)
    · refine xo_val ?_
      exact xe_var 3 (hi := by decide) (hN := by rfl) (hv := by first | exact Or.inl rfl | exact Or.inr (Or.inl rfl) | exact Or.inr (Or.inr rfl)) (hd := by decide) (hcd := by decide)
    refine xa_cons ?_ ?_ (hs := by rfl)
    · refine xo_val ?_
      exact xe_var 1 (hi := by decide) (hN := by rfl) (hv := by first | exact Or.inl rfl | exact Or.inr (Or.inl rfl) | exact Or.inr (Or.inr rfl)) (hd := by decide) (hcd := by decide)
    refine xa_cons ?_ ?_ (hs := by rfl)
    · refine xo_val ?_
      exact xe_var 2 (hi := by decide) (hN := by rfl) (hv := by first | exact Or.inl rfl | exact Or.inr (Or.inl rfl) | exact Or.inr (Or.inr rfl)) (hd := by decide) (hcd := by decide)
    exact xa_nil
  exact xa_nil
theorem sc_choose_of : FnScope N_choose_of ["number", "many"] (defScope s_choose_of) := ⟨rfl, rfl, rfl, by decide +kernel, rfl, by decide +kernel, by decide +kernel⟩
theorem ok_choose_of (T : Txt K mg) : Has P w K mg base "choose_of" s_choose_of ["number", "many"] 1 [] m_choose_of := by
  have S := sc_choose_of
  refine has_mk T.a_choose_of S (fun _ _ _ _ _ _ us hl => match us, hl with | [_, _], _ => rfl) ?_
  intro f cdv A outer s H E hr
  have hx : ∀ σ, PassesAt (L2.CX P w) (cxOf (L2.CX P w) P w K mg base N_choose_of "choose_of" (defScope s_choose_of) f cdv A outer s H E) σ (WE (fun cls d _ H => E cls d H) σ) := passAt (takes_of rfl rfl rfl rfl)
  have hp : PassesOwn (model P w) (cxOf (L2.CX P w) P w K mg base N_choose_of "choose_of" (defScope s_choose_of) f cdv A outer s H E).A (cxOf (L2.CX P w) P w K mg base N_choose_of "choose_of" (defScope s_choose_of) f cdv A outer s H E).env (cxOf (L2.CX P w) P w K mg base N_choose_of "choose_of" (defScope s_choose_of) f cdv A outer s H E).xe := passes_of rfl
  show XSs _ _ _ _ _
  refine xss_cons ?_ ?_
  · refine xs_set 2 S.nd ?_ (hR := by decide) (hi := by rfl) (hx := by first | exact Or.inl rfl | exact Or.inr rfl) (hs := by rfl) (hf := by first | exact .inl rfl | exact .inr rfl | assumption)
    exact xe_int
  refine xss_cons ?_ ?_
  · refine xs_for (gs := [3]) hp (by rfl) ?_ ?_ ?_ (hs := by intro _; rfl)
    · refine xi_range1 (by rfl) T.z_range ?_ (hs := by rfl)
      refine xa_cons ?_ ?_ (hs := by rfl)
      · exact xo_var 1 (hN := by rfl) (hv := by first | exact Or.inl rfl | exact Or.inr (Or.inl rfl) | exact Or.inr (Or.inr rfl)) (hd := by decide) (hcd := by decide)
      exact xa_nil
    · exact xg_name 3 S.nd (hR := by decide) (hi := by rfl) (hx := by first | exact Or.inl rfl | exact Or.inr rfl) (hf := by first | exact .inl rfl | exact .inr rfl | assumption)
    refine xss_one ?_
    refine xs_set 2 S.nd ?_ (hR := by decide) (hi := by rfl) (hx := by first | exact Or.inl rfl | exact Or.inr rfl) (hs := by rfl) (hf := by first | exact .inl rfl | exact .inr rfl | assumption)
    refine xe_op op_fdiv so_fdiv ?_ ?_
    · refine xo_val ?_
      refine xe_op op_mul so_mulI ?_ ?_
      · exact xo_var 2 (hN := by rfl) (hv := by first | exact Or.inl rfl | exact Or.inr (Or.inl rfl) | exact Or.inr (Or.inr rfl)) (hd := by decide) (hcd := by decide)
      refine xo_val ?_
      refine xe_op op_sub so_sub ?_ ?_
      · exact xo_var 0 (hN := by rfl) (hv := by first | exact Or.inl rfl | exact Or.inr (Or.inl rfl) | exact Or.inr (Or.inr rfl)) (hd := by decide) (hcd := by decide)
      exact xo_var 3 (hN := by rfl) (hv := by first | exact Or.inl rfl | exact Or.inr (Or.inl rfl) | exact Or.inr (Or.inr rfl)) (hd := by decide) (hcd := by decide)
    refine xo_val ?_
    refine xe_op op_addX so_add ?_ ?_
    · exact xo_var 3 (hN := by rfl) (hv := by first | exact Or.inl rfl | exact Or.inr (Or.inl rfl) | exact Or.inr (Or.inr rfl)) (hd := by decide) (hcd := by decide)
    refine xo_val ?_
    exact xe_int
  refine xss_one ?_
  refine xs_ret ?_
  exact xe_move 2 (hi := by decide) (hN := by rfl) (hv := by first | exact Or.inl rfl | exact Or.inr (Or.inl rfl) | exact Or.inr (Or.inr rfl)) (hd := by decide) (hcd := by decide)
theorem sc_arrangements_of : FnScope N_arrangements_of ["parts"] (defScope s_arrangements_of) := ⟨rfl, rfl, rfl, by decide +kernel, rfl, by decide +kernel, by decide +kernel⟩
theorem ok_arrangements_of (T : Txt K mg) : Has P w K mg base "arrangements_of" s_arrangements_of ["parts"] 2 [] m_arrangements_of := by
  have S := sc_arrangements_of
  refine has_mk T.a_arrangements_of S (fun _ _ _ _ _ _ us hl => match us, hl with | [_], _ => rfl) ?_
  intro f cdv A outer s H E hr
  have hx : ∀ σ, PassesAt (L2.CX P w) (cxOf (L2.CX P w) P w K mg base N_arrangements_of "arrangements_of" (defScope s_arrangements_of) f cdv A outer s H E) σ (WE (fun cls d _ H => E cls d H) σ) := passAt (takes_of rfl rfl rfl rfl)
  have hp : PassesOwn (model P w) (cxOf (L2.CX P w) P w K mg base N_arrangements_of "arrangements_of" (defScope s_arrangements_of) f cdv A outer s H E).A (cxOf (L2.CX P w) P w K mg base N_arrangements_of "arrangements_of" (defScope s_arrangements_of) f cdv A outer s H E).env (cxOf (L2.CX P w) P w K mg base N_arrangements_of "arrangements_of" (defScope s_arrangements_of) f cdv A outer s H E).xe := passes_of rfl
  have H_choose_of := ok_choose_of (P := P) (w := w) (base := base) T
  show XSs _ _ _ _ _
  refine xss_cons ?_ ?_
  · refine xs_parT [1, 2] (by rfl) ?_ (pgs_cons (pg_name (i := 1) S.nd rfl (by first | exact Or.inl rfl | exact Or.inr rfl)) (pgs_cons (pg_name (i := 2) S.nd rfl (by first | exact Or.inl rfl | exact Or.inr rfl)) pgs_nil)) (hR := by decide) (hlen := by rfl) (hn := by rfl) (hst := by rfl) (hz := by intro _ _; show _ ≤ 16777216; decide) (hs := by rfl) (hw := by rfl) (hq := by rfl)
    refine xd_cons ?_ ?_ (hs := by rfl)
    · exact xe_int
    refine xd_cons ?_ ?_ (hs := by rfl)
    · exact xe_int
    exact xd_nil
  refine xss_cons ?_ ?_
  · refine xs_for (gs := [3]) hp (by rfl) ?_ ?_ ?_ (hs := by intro _; rfl)
    · refine xi_sq ?_
      exact xe_var 0 (hi := by decide) (hN := by rfl) (hv := by first | exact Or.inl rfl | exact Or.inr (Or.inl rfl) | exact Or.inr (Or.inr rfl)) (hd := by decide) (hcd := by decide)
    · exact xg_name 3 S.nd (hR := by decide) (hi := by rfl) (hx := by first | exact Or.inl rfl | exact Or.inr rfl) (hf := by first | exact .inl rfl | exact .inr rfl | assumption)
    refine xss_cons ?_ ?_
    · refine xs_set 2 S.nd ?_ (hR := by decide) (hi := by rfl) (hx := by first | exact Or.inl rfl | exact Or.inr rfl) (hs := by rfl) (hf := by first | exact .inl rfl | exact .inr rfl | assumption)
      refine xe_op op_addX so_add ?_ ?_
      · exact xo_var 2 (hN := by rfl) (hv := by first | exact Or.inl rfl | exact Or.inr (Or.inl rfl) | exact Or.inr (Or.inr rfl)) (hd := by decide) (hcd := by decide)
      exact xo_var 3 (hN := by rfl) (hv := by first | exact Or.inl rfl | exact Or.inr (Or.inl rfl) | exact Or.inr (Or.inr rfl)) (hd := by decide) (hcd := by decide)
    refine xss_one ?_
    refine xs_set 1 S.nd ?_ (hR := by decide) (hi := by rfl) (hx := by first | exact Or.inl rfl | exact Or.inr rfl) (hs := by rfl) (hf := by first | exact .inl rfl | exact .inr rfl | assumption)
    refine xe_op op_mul so_mulI ?_ ?_
    · exact xo_var 1 (hN := by rfl) (hv := by first | exact Or.inl rfl | exact Or.inr (Or.inl rfl) | exact Or.inr (Or.inr rfl)) (hd := by decide) (hcd := by decide)
    refine xo_val ?_
    refine xe_callH (ps := ["number", "many"]) H_choose_of (hr.mono (by decide)) (by rfl) hx ?_ (hdb := by decide) (he := by rfl) (hpl := by rfl)
    refine xa_cons ?_ ?_ (hs := by rfl)
    · refine xo_val ?_
      exact xe_var 2 (hi := by decide) (hN := by rfl) (hv := by first | exact Or.inl rfl | exact Or.inr (Or.inl rfl) | exact Or.inr (Or.inr rfl)) (hd := by decide) (hcd := by decide)
    refine xa_cons ?_ ?_ (hs := by rfl)
    · refine xo_val ?_
      exact xe_var 3 (hi := by decide) (hN := by rfl) (hv := by first | exact Or.inl rfl | exact Or.inr (Or.inl rfl) | exact Or.inr (Or.inr rfl)) (hd := by decide) (hcd := by decide)
    exact xa_nil
  refine xss_one ?_
  refine xs_ret ?_
  exact xe_move 1 (hi := by decide) (hN := by rfl) (hv := by first | exact Or.inl rfl | exact Or.inr (Or.inl rfl) | exact Or.inr (Or.inr rfl)) (hd := by decide) (hcd := by decide)
theorem sc_even_parts_of : FnScope N_even_parts_of ["total", "many"] (defScope s_even_parts_of) := ⟨rfl, rfl, rfl, by decide +kernel, rfl, by decide +kernel, by decide +kernel⟩
theorem ok_even_parts_of (T : Txt K mg) : Has P w K mg base "even_parts_of" s_even_parts_of ["total", "many"] 1 [] m_even_parts_of := by
  have S := sc_even_parts_of
  refine has_mk T.a_even_parts_of S (fun _ _ _ _ _ _ us hl => match us, hl with | [_, _], _ => rfl) ?_
  intro f cdv A outer s H E hr
  have hx : ∀ σ, PassesAt (L2.CX P w) (cxOf (L2.CX P w) P w K mg base N_even_parts_of "even_parts_of" (defScope s_even_parts_of) f cdv A outer s H E) σ (WE (fun cls d _ H => E cls d H) σ) := passAt (takes_of rfl rfl rfl rfl)
  have hp : PassesOwn (model P w) (cxOf (L2.CX P w) P w K mg base N_even_parts_of "even_parts_of" (defScope s_even_parts_of) f cdv A outer s H E).A (cxOf (L2.CX P w) P w K mg base N_even_parts_of "even_parts_of" (defScope s_even_parts_of) f cdv A outer s H E).env (cxOf (L2.CX P w) P w K mg base N_even_parts_of "even_parts_of" (defScope s_even_parts_of) f cdv A outer s H E).xe := passes_of rfl
  show XSs _ _ _ _ _
  refine xss_cons ?_ ?_
  · refine xs_asg (gs := [2, 3]) ?_ ?_ (hs := by rfl) (hw := by rfl) (hq := by rfl)
    · refine xe_b call_divmod sc_divmod (by rfl) T.z_divmod PyProof.Rows.boot_divmod ?_ (hn := by decide) (hdb := by decide) (he := by rfl) (hpl := by rfl)
      refine xa_cons ?_ ?_ (hs := by rfl)
      · exact xo_var 0 (hN := by rfl) (hv := by first | exact Or.inl rfl | exact Or.inr (Or.inl rfl) | exact Or.inr (Or.inr rfl)) (hd := by decide) (hcd := by decide)
      refine xa_cons ?_ ?_ (hs := by rfl)
      · exact xo_var 1 (hN := by rfl) (hv := by first | exact Or.inl rfl | exact Or.inr (Or.inl rfl) | exact Or.inr (Or.inr rfl)) (hd := by decide) (hcd := by decide)
      exact xa_nil
    refine xg_tup (by rfl) ?_ (hn := by rfl) (hst := by rfl)
    refine xgs_cons (gs := [2]) (hs := [3]) ?_ ?_ (hq := by rfl)
    · exact xg_name 2 S.nd (hR := by decide) (hi := by rfl) (hx := by first | exact Or.inl rfl | exact Or.inr rfl) (hf := by first | exact .inl rfl | exact .inr rfl | assumption)
    refine xgs_cons (gs := [3]) (hs := []) ?_ ?_ (hq := by rfl)
    · exact xg_name 3 S.nd (hR := by decide) (hi := by rfl) (hx := by first | exact Or.inl rfl | exact Or.inr rfl) (hf := by first | exact .inl rfl | exact .inr rfl | assumption)
    exact xgs_nil
  refine xss_one ?_
  refine xs_ret ?_
  refine xe_op op_addX so_add ?_ ?_
  · refine xo_val ?_
    refine xe_op op_repTX so_repT ?_ ?_
    · refine xo_val ?_
      refine xe_tup ?_
      refine xa_cons ?_ ?_ (hs := by rfl)
      · refine xo_val ?_
        refine xe_op op_addX so_add ?_ ?_
        · exact xo_var 2 (hN := by rfl) (hv := by first | exact Or.inl rfl | exact Or.inr (Or.inl rfl) | exact Or.inr (Or.inr rfl)) (hd := by decide) (hcd := by decide)
        refine xo_val ?_
        exact xe_int
      exact xa_nil
    exact xo_var 3 (hN := by rfl) (hv := by first | exact Or.inl rfl | exact Or.inr (Or.inl rfl) | exact Or.inr (Or.inr rfl)) (hd := by decide) (hcd := by decide)
  refine xo_val ?_
  refine xe_op op_repTX so_repT ?_ ?_
  · refine xo_val ?_
    refine xe_tup ?_
    refine xa_cons ?_ ?_ (hs := by rfl)
    · refine xo_val ?_
      exact xe_var 2 (hi := by decide) (hN := by rfl) (hv := by first | exact Or.inl rfl | exact Or.inr (Or.inl rfl) | exact Or.inr (Or.inr rfl)) (hd := by decide) (hcd := by decide)
    exact xa_nil
  refine xo_val ?_
  refine xe_op op_sub so_sub ?_ ?_
  · exact xo_var 1 (hN := by rfl) (hv := by first | exact Or.inl rfl | exact Or.inr (Or.inl rfl) | exact Or.inr (Or.inr rfl)) (hd := by decide) (hcd := by decide)
  exact xo_var 3 (hN := by rfl) (hv := by first | exact Or.inl rfl | exact Or.inr (Or.inl rfl) | exact Or.inr (Or.inr rfl)) (hd := by decide) (hcd := by decide)
theorem sc_are_counts : FnScope N_are_counts ["value", "least"] (defScope s_are_counts) := ⟨rfl, rfl, rfl, by decide +kernel, rfl, by decide +kernel, by decide +kernel⟩
theorem ok_are_counts (T : Txt K mg) : Has P w K mg base "are_counts" s_are_counts ["value", "least"] 4 [] m_are_counts := by
  have S := sc_are_counts
  refine has_mk T.a_are_counts S (fun _ _ _ _ _ _ us hl => match us, hl with | [_, _], _ => rfl) ?_
  intro f cdv A outer s H E hr
  have hx : ∀ σ, PassesAt (L2.CX P w) (cxOf (L2.CX P w) P w K mg base N_are_counts "are_counts" (defScope s_are_counts) f cdv A outer s H E) σ (WE (fun cls d _ H => E cls d H) σ) := passAt (takes_of rfl rfl rfl rfl)
  have hp : PassesOwn (model P w) (cxOf (L2.CX P w) P w K mg base N_are_counts "are_counts" (defScope s_are_counts) f cdv A outer s H E).A (cxOf (L2.CX P w) P w K mg base N_are_counts "are_counts" (defScope s_are_counts) f cdv A outer s H E).env (cxOf (L2.CX P w) P w K mg base N_are_counts "are_counts" (defScope s_are_counts) f cdv A outer s H E).xe := passes_of rfl
  have H_are_between := ok_are_between (P := P) (w := w) (base := base) T
  show XSs _ _ _ _ _
  refine xss_one ?_
  refine xs_ret ?_
  refine xe_and ?_ ?_
  · refine xe_callH (ps := ["value", "least", "most"]) H_are_between (hr.mono (by decide)) (by rfl) hx ?_ (hdb := by decide) (he := by rfl) (hpl := by rfl)
    refine xa_cons ?_ ?_ (hs := by rfl)
    · refine xo_val ?_
      exact xe_var 0 (hi := by decide) (hN := by rfl) (hv := by first | exact Or.inl rfl | exact Or.inr (Or.inl rfl) | exact Or.inr (Or.inr rfl)) (hd := by decide) (hcd := by decide)
    refine xa_cons ?_ ?_ (hs := by rfl)
    · refine xo_val ?_
      exact xe_var 1 (hi := by decide) (hN := by rfl) (hv := by first | exact Or.inl rfl | exact Or.inr (Or.inl rfl) | exact Or.inr (Or.inr rfl)) (hd := by decide) (hcd := by decide)
    refine xa_cons ?_ ?_ (hs := by rfl)
    · refine xo_val ?_
      exact xe_constI (by rfl) T.c_MOST_KINDS_stars (hd := by decide)
    exact xa_nil
  refine xe_one ?_
  refine xe_chain op_le op_le so_le so_le ?_ ?_ ?_ (hm := by with_unfolding_all rfl)
  · refine xo_val ?_
    exact xe_int
  · refine xo_val ?_
    refine xe_b call_lenX sc_len (by rfl) T.z_len PySem.boot_len ?_ (hn := by decide) (hdb := by decide) (he := by rfl) (hpl := by rfl)
    refine xa_cons ?_ ?_ (hs := by rfl)
    · exact xo_var 0 (hN := by rfl) (hv := by first | exact Or.inl rfl | exact Or.inr (Or.inl rfl) | exact Or.inr (Or.inr rfl)) (hd := by decide) (hcd := by decide)
    exact xa_nil
  refine xo_val ?_
  exact xe_constI (by rfl) T.c_MOST_OTHERS (hd := by decide)
theorem sc_check_gather : FnScope N_check_gather ["kinds", "answers"] (defScope s_check_gather) := ⟨rfl, rfl, rfl, by decide +kernel, rfl, by decide +kernel, by decide +kernel⟩
theorem ok_check_gather (T : Txt K mg) : Has P w K mg base "check_gather" s_check_gather ["kinds", "answers"] 5 [] m_check_gather := by
  have S := sc_check_gather
  refine has_mk T.a_check_gather S (fun _ _ _ _ _ _ us hl => match us, hl with | [_, _], _ => rfl) ?_
  intro f cdv A outer s H E hr
  have hx : ∀ σ, PassesAt (L2.CX P w) (cxOf (L2.CX P w) P w K mg base N_check_gather "check_gather" (defScope s_check_gather) f cdv A outer s H E) σ (WE (fun cls d _ H => E cls d H) σ) := passAt (takes_of rfl rfl rfl rfl)
  have hp : PassesOwn (model P w) (cxOf (L2.CX P w) P w K mg base N_check_gather "check_gather" (defScope s_check_gather) f cdv A outer s H E).A (cxOf (L2.CX P w) P w K mg base N_check_gather "check_gather" (defScope s_check_gather) f cdv A outer s H E).env (cxOf (L2.CX P w) P w K mg base N_check_gather "check_gather" (defScope s_check_gather) f cdv A outer s H E).xe := passes_of rfl
  have H_are_counts := ok_are_counts (P := P) (w := w) (base := base) T
  have H_is_between := ok_is_between (P := P) (w := w) (base := base) T
  show XSs _ _ _ _ _
  refine xss_cons ?_ ?_
  · refine xs_if ?_ ?_ ?_
    · refine xt_not ?_
      refine xt_truth ?_ (he := by intro _; rfl)
      refine xo_val ?_
      refine xe_callH (ps := ["value", "least"]) H_are_counts (hr.mono (by decide)) (by rfl) hx ?_ (hdb := by decide) (he := by rfl) (hpl := by rfl)
      refine xa_cons ?_ ?_ (hs := by rfl)
      · refine xo_val ?_
        exact xe_var 0 (hi := by decide) (hN := by rfl) (hv := by first | exact Or.inl rfl | exact Or.inr (Or.inl rfl) | exact Or.inr (Or.inr rfl)) (hd := by decide) (hcd := by decide)
      refine xa_cons ?_ ?_ (hs := by rfl)
      · refine xo_val ?_
        exact xe_int
      exact xa_nil
    · refine xss_one ?_
      exact xs_never
    exact xss_nil
  refine xss_one ?_
  refine xs_if ?_ ?_ ?_
  · refine xt_not ?_
    refine xt_truth ?_ (he := by intro _; rfl)
    refine xo_val ?_
    refine xe_callH (ps := ["value", "least", "most"]) H_is_between (hr.mono (by decide)) (by rfl) hx ?_ (hdb := by decide) (he := by rfl) (hpl := by rfl)
    refine xa_cons ?_ ?_ (hs := by rfl)
    · refine xo_val ?_
      exact xe_var 1 (hi := by decide) (hN := by rfl) (hv := by first | exact Or.inl rfl | exact Or.inr (Or.inl rfl) | exact Or.inr (Or.inr rfl)) (hd := by decide) (hcd := by decide)
    refine xa_cons ?_ ?_ (hs := by rfl)
    · refine xo_val ?_
      exact xe_int
    refine xa_cons ?_ ?_ (hs := by rfl)
    · refine xo_val ?_
      exact xe_constI (by rfl) T.c_MOST_KINDS_stars (hd := by decide)
    exact xa_nil
  · refine xss_one ?_
    exact xs_never
  exact xss_nil
theorem sc_check_spread : FnScope N_check_spread ["kinds", "answers"] (defScope s_check_spread) := ⟨rfl, rfl, rfl, by decide +kernel, rfl, by decide +kernel, by decide +kernel⟩
theorem ok_check_spread (T : Txt K mg) : Has P w K mg base "check_spread" s_check_spread ["kinds", "answers"] 5 [] m_check_spread := by
  have S := sc_check_spread
  refine has_mk T.a_check_spread S (fun _ _ _ _ _ _ us hl => match us, hl with | [_, _], _ => rfl) ?_
  intro f cdv A outer s H E hr
  have hx : ∀ σ, PassesAt (L2.CX P w) (cxOf (L2.CX P w) P w K mg base N_check_spread "check_spread" (defScope s_check_spread) f cdv A outer s H E) σ (WE (fun cls d _ H => E cls d H) σ) := passAt (takes_of rfl rfl rfl rfl)
  have hp : PassesOwn (model P w) (cxOf (L2.CX P w) P w K mg base N_check_spread "check_spread" (defScope s_check_spread) f cdv A outer s H E).A (cxOf (L2.CX P w) P w K mg base N_check_spread "check_spread" (defScope s_check_spread) f cdv A outer s H E).env (cxOf (L2.CX P w) P w K mg base N_check_spread "check_spread" (defScope s_check_spread) f cdv A outer s H E).xe := passes_of rfl
  have H_is_between := ok_is_between (P := P) (w := w) (base := base) T
  have H_are_counts := ok_are_counts (P := P) (w := w) (base := base) T
  show XSs _ _ _ _ _
  refine xss_cons ?_ ?_
  · refine xs_if ?_ ?_ ?_
    · refine xt_not ?_
      refine xt_truth ?_ (he := by intro _; rfl)
      refine xo_val ?_
      refine xe_callH (ps := ["value", "least", "most"]) H_is_between (hr.mono (by decide)) (by rfl) hx ?_ (hdb := by decide) (he := by rfl) (hpl := by rfl)
      refine xa_cons ?_ ?_ (hs := by rfl)
      · refine xo_val ?_
        exact xe_var 0 (hi := by decide) (hN := by rfl) (hv := by first | exact Or.inl rfl | exact Or.inr (Or.inl rfl) | exact Or.inr (Or.inr rfl)) (hd := by decide) (hcd := by decide)
      refine xa_cons ?_ ?_ (hs := by rfl)
      · refine xo_val ?_
        exact xe_int
      refine xa_cons ?_ ?_ (hs := by rfl)
      · refine xo_val ?_
        exact xe_constI (by rfl) T.c_MOST_KINDS_stars (hd := by decide)
      exact xa_nil
    · refine xss_one ?_
      exact xs_never
    exact xss_nil
  refine xss_one ?_
  refine xs_if ?_ ?_ ?_
  · refine xt_not ?_
    refine xt_truth ?_ (he := by intro _; rfl)
    refine xo_val ?_
    refine xe_callH (ps := ["value", "least"]) H_are_counts (hr.mono (by decide)) (by rfl) hx ?_ (hdb := by decide) (he := by rfl) (hpl := by rfl)
    refine xa_cons ?_ ?_ (hs := by rfl)
    · refine xo_val ?_
      exact xe_var 1 (hi := by decide) (hN := by rfl) (hv := by first | exact Or.inl rfl | exact Or.inr (Or.inl rfl) | exact Or.inr (Or.inr rfl)) (hd := by decide) (hcd := by decide)
    refine xa_cons ?_ ?_ (hs := by rfl)
    · refine xo_val ?_
      exact xe_int
    exact xa_nil
  · refine xss_one ?_
    exact xs_never
  exact xss_nil
theorem sc_number_of : FnScope N_number_of ["kinds", "answers"] (defScope s_number_of) := ⟨rfl, rfl, rfl, by decide +kernel, rfl, by decide +kernel, by decide +kernel⟩
theorem ok_number_of (T : Txt K mg) : Has P w K mg base "number_of" s_number_of ["kinds", "answers"] 3 [] m_number_of := by
  have S := sc_number_of
  refine has_mk T.a_number_of S (fun _ _ _ _ _ _ us hl => match us, hl with | [_, _], _ => rfl) ?_
  intro f cdv A outer s H E hr
  have hx : ∀ σ, PassesAt (L2.CX P w) (cxOf (L2.CX P w) P w K mg base N_number_of "number_of" (defScope s_number_of) f cdv A outer s H E) σ (WE (fun cls d _ H => E cls d H) σ) := passAt (takes_of rfl rfl rfl rfl)
  have hp : PassesOwn (model P w) (cxOf (L2.CX P w) P w K mg base N_number_of "number_of" (defScope s_number_of) f cdv A outer s H E).A (cxOf (L2.CX P w) P w K mg base N_number_of "number_of" (defScope s_number_of) f cdv A outer s H E).env (cxOf (L2.CX P w) P w K mg base N_number_of "number_of" (defScope s_number_of) f cdv A outer s H E).xe := passes_of rfl
  have H_arrangements_of := ok_arrangements_of (P := P) (w := w) (base := base) T
  have H_even_parts_of := ok_even_parts_of (P := P) (w := w) (base := base) T
  show XSs _ _ _ _ _
  refine xss_one ?_
  refine xs_ret ?_
  refine xe_callH (ps := ["parts"]) H_arrangements_of (hr.mono (by decide)) (by rfl) hx ?_ (hdb := by decide) (he := by rfl) (hpl := by rfl)
  refine xa_cons ?_ ?_ (hs := by rfl)
  · refine xo_val ?_
    refine xe_callH (ps := ["total", "many"]) H_even_parts_of (hr.mono (by decide)) (by rfl) hx ?_ (hdb := by decide) (he := by rfl) (hpl := by rfl)
    refine xa_cons ?_ ?_ (hs := by rfl)
    · refine xo_val ?_
      exact xe_var 0 (hi := by decide) (hN := by rfl) (hv := by first | exact Or.inl rfl | exact Or.inr (Or.inl rfl) | exact Or.inr (Or.inr rfl)) (hd := by decide) (hcd := by decide)
    refine xa_cons ?_ ?_ (hs := by rfl)
    · refine xo_val ?_
      refine xe_op op_addX so_add ?_ ?_
      · exact xo_var 1 (hN := by rfl) (hv := by first | exact Or.inl rfl | exact Or.inr (Or.inl rfl) | exact Or.inr (Or.inr rfl)) (hd := by decide) (hcd := by decide)
      refine xo_val ?_
      exact xe_int
    exact xa_nil
  exact xa_nil
theorem sc_gathered : FnScope N_gathered ["kinds", "answers"] (defScope s_gathered) := ⟨rfl, rfl, rfl, by decide +kernel, rfl, by decide +kernel, by decide +kernel⟩
theorem ok_gathered (T : Txt K mg) : Has P w K mg base "gathered" s_gathered ["kinds", "answers"] 6 [] m_gathered := by
  have S := sc_gathered
  refine has_mk T.a_gathered S (fun _ _ _ _ _ _ us hl => match us, hl with | [_, _], _ => rfl) ?_
  intro f cdv A outer s H E hr
  have hx : ∀ σ, PassesAt (L2.CX P w) (cxOf (L2.CX P w) P w K mg base N_gathered "gathered" (defScope s_gathered) f cdv A outer s H E) σ (WE (fun cls d _ H => E cls d H) σ) := passAt (takes_of rfl rfl rfl rfl)
  have hp : PassesOwn (model P w) (cxOf (L2.CX P w) P w K mg base N_gathered "gathered" (defScope s_gathered) f cdv A outer s H E).A (cxOf (L2.CX P w) P w K mg base N_gathered "gathered" (defScope s_gathered) f cdv A outer s H E).env (cxOf (L2.CX P w) P w K mg base N_gathered "gathered" (defScope s_gathered) f cdv A outer s H E).xe := passes_of rfl
  have H_check_gather := ok_check_gather (P := P) (w := w) (base := base) T
  have H_number_of := ok_number_of (P := P) (w := w) (base := base) T
  show XSs _ _ _ _ _
  refine xss_cons ?_ ?_
  · refine xs_expr ?_ (hs := by rfl)
    refine xe_callH (ps := ["kinds", "answers"]) H_check_gather (hr.mono (by decide)) (by rfl) hx ?_ (hdb := by decide) (he := by rfl) (hpl := by rfl)
    refine xa_cons ?_ ?_ (hs := by rfl)
    · refine xo_val ?_
      exact xe_var 0 (hi := by decide) (hN := by rfl) (hv := by first | exact Or.inl rfl | exact Or.inr (Or.inl rfl) | exact Or.inr (Or.inr rfl)) (hd := by decide) (hcd := by decide)
    refine xa_cons ?_ ?_ (hs := by rfl)
    · refine xo_val ?_
      exact xe_var 1 (hi := by decide) (hN := by rfl) (hv := by first | exact Or.inl rfl | exact Or.inr (Or.inl rfl) | exact Or.inr (Or.inr rfl)) (hd := by decide) (hcd := by decide)
    exact xa_nil
  refine xss_one ?_
  refine xs_ret ?_
  refine xe_t call_tuple_of sc_tuple (by rfl) T.z_tuple PyProof.Rows.boot_tuple ?_ (hn := by decide) (hdb := by decide) (he := by rfl) (hpl := by rfl)
  refine xa_cons ?_ ?_ (hs := by rfl)
  · refine xo_val ?_
    refine xe_lc (own := [("one", 2)]) (gs := [2]) (by rfl) S.nd ?_ (blkOk_by (N := N_gathered) (sc := defScope s_gathered) (own := [("one", 2)]) (by decide +kernel)) ?_ ?_ ?_ (hR := by decide) (hgs := by decide) (hs := by intro _; rfl)
    · refine xi_sq ?_
      exact xe_var 0 (hi := by decide) (hN := by rfl) (hv := by first | exact Or.inl rfl | exact Or.inr (Or.inl rfl) | exact Or.inr (Or.inr rfl)) (hd := by decide) (hcd := by decide)
    · intro _ _ _ _ _
      exact xg_name 2 S.nd (hR := by decide) (hi := by rfl) (hx := by first | exact Or.inl rfl | exact Or.inr rfl) (hf := by first | exact .inl rfl | exact .inr rfl | assumption)
    · intro _ _ _ _ _
      exact xts_nil
    intro _ _ _ _ _
    refine xe_callH (ps := ["kinds", "answers"]) H_number_of (hr.mono (by decide)) (by rfl) passB ?_ (hdb := by decide) (he := by rfl) (hpl := by rfl)
    refine xa_cons ?_ ?_ (hs := by rfl)
    · refine xo_val ?_
      exact xe_var 2 (hi := by decide) (hN := by rfl) (hv := by first | exact Or.inl rfl | exact Or.inr (Or.inl rfl) | exact Or.inr (Or.inr rfl)) (hd := by decide) (hcd := by decide)
    refine xa_cons ?_ ?_ (hs := by rfl)
    · refine xo_val ?_
      exact xe_var 1 (hi := by decide) (hN := by rfl) (hv := by first | exact Or.inl rfl | exact Or.inr (Or.inl rfl) | exact Or.inr (Or.inr rfl)) (hd := by decide) (hcd := by decide)
    exact xa_nil
  exact xa_nil
theorem sc_spread : FnScope N_spread ["kinds", "answers"] (defScope s_spread) := ⟨rfl, rfl, rfl, by decide +kernel, rfl, by decide +kernel, by decide +kernel⟩
theorem ok_spread (T : Txt K mg) : Has P w K mg base "spread" s_spread ["kinds", "answers"] 6 [] m_spread := by
  have S := sc_spread
  refine has_mk T.a_spread S (fun _ _ _ _ _ _ us hl => match us, hl with | [_, _], _ => rfl) ?_
  intro f cdv A outer s H E hr
  have hx : ∀ σ, PassesAt (L2.CX P w) (cxOf (L2.CX P w) P w K mg base N_spread "spread" (defScope s_spread) f cdv A outer s H E) σ (WE (fun cls d _ H => E cls d H) σ) := passAt (takes_of rfl rfl rfl rfl)
  have hp : PassesOwn (model P w) (cxOf (L2.CX P w) P w K mg base N_spread "spread" (defScope s_spread) f cdv A outer s H E).A (cxOf (L2.CX P w) P w K mg base N_spread "spread" (defScope s_spread) f cdv A outer s H E).env (cxOf (L2.CX P w) P w K mg base N_spread "spread" (defScope s_spread) f cdv A outer s H E).xe := passes_of rfl
  have H_check_spread := ok_check_spread (P := P) (w := w) (base := base) T
  have H_number_of := ok_number_of (P := P) (w := w) (base := base) T
  show XSs _ _ _ _ _
  refine xss_cons ?_ ?_
  · refine xs_expr ?_ (hs := by rfl)
    refine xe_callH (ps := ["kinds", "answers"]) H_check_spread (hr.mono (by decide)) (by rfl) hx ?_ (hdb := by decide) (he := by rfl) (hpl := by rfl)
    refine xa_cons ?_ ?_ (hs := by rfl)
    · refine xo_val ?_
      exact xe_var 0 (hi := by decide) (hN := by rfl) (hv := by first | exact Or.inl rfl | exact Or.inr (Or.inl rfl) | exact Or.inr (Or.inr rfl)) (hd := by decide) (hcd := by decide)
    refine xa_cons ?_ ?_ (hs := by rfl)
    · refine xo_val ?_
      exact xe_var 1 (hi := by decide) (hN := by rfl) (hv := by first | exact Or.inl rfl | exact Or.inr (Or.inl rfl) | exact Or.inr (Or.inr rfl)) (hd := by decide) (hcd := by decide)
    exact xa_nil
  refine xss_one ?_
  refine xs_ret ?_
  refine xe_callH (ps := ["kinds", "answers"]) H_number_of (hr.mono (by decide)) (by rfl) hx ?_ (hdb := by decide) (he := by rfl) (hpl := by rfl)
  refine xa_cons ?_ ?_ (hs := by rfl)
  · refine xo_val ?_
    exact xe_var 0 (hi := by decide) (hN := by rfl) (hv := by first | exact Or.inl rfl | exact Or.inr (Or.inl rfl) | exact Or.inr (Or.inr rfl)) (hd := by decide) (hcd := by decide)
  refine xa_cons ?_ ?_ (hs := by rfl)
  · refine xo_val ?_
    refine xe_zmin (by rfl) (by rfl) T.z_min ?_ (he := by rfl) (hpl := by rfl)
    refine xa_cons ?_ ?_ (hs := by rfl)
    · exact xo_var 1 (hN := by rfl) (hv := by first | exact Or.inl rfl | exact Or.inr (Or.inl rfl) | exact Or.inr (Or.inr rfl)) (hd := by decide) (hcd := by decide)
    exact xa_nil
  exact xa_nil
theorem sc_check_row : FnScope N_check_row ["row"] (defScope s_check_row) := ⟨rfl, rfl, rfl, by decide +kernel, rfl, by decide +kernel, by decide +kernel⟩
theorem ok_check_row (T : Txt K mg) : Has P w K mg base "check_row" s_check_row ["row"] 4 [] m_check_row := by
  have S := sc_check_row
  refine has_mk T.a_check_row S (fun _ _ _ _ _ _ us hl => match us, hl with | [_], _ => rfl) ?_
  intro f cdv A outer s H E hr
  have hx : ∀ σ, PassesAt (L2.CX P w) (cxOf (L2.CX P w) P w K mg base N_check_row "check_row" (defScope s_check_row) f cdv A outer s H E) σ (WE (fun cls d _ H => E cls d H) σ) := passAt (takes_of rfl rfl rfl rfl)
  have hp : PassesOwn (model P w) (cxOf (L2.CX P w) P w K mg base N_check_row "check_row" (defScope s_check_row) f cdv A outer s H E).A (cxOf (L2.CX P w) P w K mg base N_check_row "check_row" (defScope s_check_row) f cdv A outer s H E).env (cxOf (L2.CX P w) P w K mg base N_check_row "check_row" (defScope s_check_row) f cdv A outer s H E).xe := passes_of rfl
  have H_are_between := ok_are_between (P := P) (w := w) (base := base) T
  show XSs _ _ _ _ _
  refine xss_one ?_
  refine xs_if ?_ ?_ ?_
  · refine xw_dt ?_
    refine xw_or ?_ ?_
    · refine xt_not ?_
      refine xt_truth ?_ (he := by intro _; rfl)
      refine xo_val ?_
      refine xe_callH (ps := ["value", "least", "most"]) H_are_between (hr.mono (by decide)) (by rfl) hx ?_ (hdb := by decide) (he := by rfl) (hpl := by rfl)
      refine xa_cons ?_ ?_ (hs := by rfl)
      · refine xo_val ?_
        exact xe_var 0 (hi := by decide) (hN := by rfl) (hv := by first | exact Or.inl rfl | exact Or.inr (Or.inl rfl) | exact Or.inr (Or.inr rfl)) (hd := by decide) (hcd := by decide)
      refine xa_cons ?_ ?_ (hs := by rfl)
      · refine xo_val ?_
        exact xe_int
      refine xa_cons ?_ ?_ (hs := by rfl)
      · refine xo_val ?_
        exact xe_constI (by rfl) T.c_MOST_NUMBER (hd := by decide)
      exact xa_nil
    refine xw_or1 ?_
    refine xt_cmp op_gt so_gt ?_ ?_ (nomark _)
    · refine xo_val ?_
      refine xe_b call_lenX sc_len (by rfl) T.z_len PySem.boot_len ?_ (hn := by decide) (hdb := by decide) (he := by rfl) (hpl := by rfl)
      refine xa_cons ?_ ?_ (hs := by rfl)
      · exact xo_var 0 (hN := by rfl) (hv := by first | exact Or.inl rfl | exact Or.inr (Or.inl rfl) | exact Or.inr (Or.inr rfl)) (hd := by decide) (hcd := by decide)
      exact xa_nil
    refine xo_val ?_
    exact xe_constI (by rfl) T.c_MOST_NUMBERS (hd := by decide)
  · refine xss_one ?_
    exact xs_never
  exact xss_nil
theorem sc_check_kinds : FnScope N_check_kinds ["own", "other"] (defScope s_check_kinds) := ⟨rfl, rfl, rfl, by decide +kernel, rfl, by decide +kernel, by decide +kernel⟩
theorem ok_check_kinds (T : Txt K mg) : Has P w K mg base "check_kinds" s_check_kinds ["own", "other"] 3 [] m_check_kinds := by
  have S := sc_check_kinds
  refine has_mk T.a_check_kinds S (fun _ _ _ _ _ _ us hl => match us, hl with | [_, _], _ => rfl) ?_
  intro f cdv A outer s H E hr
  have hx : ∀ σ, PassesAt (L2.CX P w) (cxOf (L2.CX P w) P w K mg base N_check_kinds "check_kinds" (defScope s_check_kinds) f cdv A outer s H E) σ (WE (fun cls d _ H => E cls d H) σ) := passAt (takes_of rfl rfl rfl rfl)
  have hp : PassesOwn (model P w) (cxOf (L2.CX P w) P w K mg base N_check_kinds "check_kinds" (defScope s_check_kinds) f cdv A outer s H E).A (cxOf (L2.CX P w) P w K mg base N_check_kinds "check_kinds" (defScope s_check_kinds) f cdv A outer s H E).env (cxOf (L2.CX P w) P w K mg base N_check_kinds "check_kinds" (defScope s_check_kinds) f cdv A outer s H E).xe := passes_of rfl
  have H_is_between := ok_is_between (P := P) (w := w) (base := base) T
  show XSs _ _ _ _ _
  refine xss_cons ?_ ?_
  · refine xs_if ?_ ?_ ?_
    · refine xt_not ?_
      refine xt_truth ?_ (he := by intro _; rfl)
      refine xo_val ?_
      refine xe_callH (ps := ["value", "least", "most"]) H_is_between (hr.mono (by decide)) (by rfl) hx ?_ (hdb := by decide) (he := by rfl) (hpl := by rfl)
      refine xa_cons ?_ ?_ (hs := by rfl)
      · refine xo_val ?_
        exact xe_var 0 (hi := by decide) (hN := by rfl) (hv := by first | exact Or.inl rfl | exact Or.inr (Or.inl rfl) | exact Or.inr (Or.inr rfl)) (hd := by decide) (hcd := by decide)
      refine xa_cons ?_ ?_ (hs := by rfl)
      · refine xo_val ?_
        exact xe_int
      refine xa_cons ?_ ?_ (hs := by rfl)
      · refine xo_val ?_
        exact xe_constI (by rfl) T.c_MOST_KINDS_rows (hd := by decide)
      exact xa_nil
    · refine xss_one ?_
      exact xs_never
    exact xss_nil
  refine xss_one ?_
  refine xs_if ?_ ?_ ?_
  · refine xt_not ?_
    refine xt_truth ?_ (he := by intro _; rfl)
    refine xo_val ?_
    refine xe_callH (ps := ["value", "least", "most"]) H_is_between (hr.mono (by decide)) (by rfl) hx ?_ (hdb := by decide) (he := by rfl) (hpl := by rfl)
    refine xa_cons ?_ ?_ (hs := by rfl)
    · refine xo_val ?_
      exact xe_var 1 (hi := by decide) (hN := by rfl) (hv := by first | exact Or.inl rfl | exact Or.inr (Or.inl rfl) | exact Or.inr (Or.inr rfl)) (hd := by decide) (hcd := by decide)
    refine xa_cons ?_ ?_ (hs := by rfl)
    · refine xo_val ?_
      exact xe_int
    refine xa_cons ?_ ?_ (hs := by rfl)
    · refine xo_val ?_
      exact xe_constI (by rfl) T.c_MOST_KINDS_rows (hd := by decide)
    exact xa_nil
  · refine xss_one ?_
    exact xs_never
  exact xss_nil
theorem sc_greatest_numbers : FnScope N_greatest_numbers ["most"] (defScope s_greatest_numbers) := ⟨rfl, rfl, rfl, by decide +kernel, rfl, by decide +kernel, by decide +kernel⟩
theorem ok_greatest_numbers (T : Txt K mg) : Has P w K mg base "greatest_numbers" s_greatest_numbers ["most"] 2 [] m_greatest_numbers := by
  have S := sc_greatest_numbers
  refine has_mk T.a_greatest_numbers S (fun _ _ _ _ _ _ us hl => match us, hl with | [_], _ => rfl) ?_
  intro f cdv A outer s H E hr
  have hx : ∀ σ, PassesAt (L2.CX P w) (cxOf (L2.CX P w) P w K mg base N_greatest_numbers "greatest_numbers" (defScope s_greatest_numbers) f cdv A outer s H E) σ (WE (fun cls d _ H => E cls d H) σ) := passAt (takes_of rfl rfl rfl rfl)
  have hp : PassesOwn (model P w) (cxOf (L2.CX P w) P w K mg base N_greatest_numbers "greatest_numbers" (defScope s_greatest_numbers) f cdv A outer s H E).A (cxOf (L2.CX P w) P w K mg base N_greatest_numbers "greatest_numbers" (defScope s_greatest_numbers) f cdv A outer s H E).env (cxOf (L2.CX P w) P w K mg base N_greatest_numbers "greatest_numbers" (defScope s_greatest_numbers) f cdv A outer s H E).xe := passes_of rfl
  have H_choose_of := ok_choose_of (P := P) (w := w) (base := base) T
  show XSs _ _ _ _ _
  refine xss_cons ?_ ?_
  · refine xs_set 1 S.nd ?_ (hR := by decide) (hi := by rfl) (hx := by first | exact Or.inl rfl | exact Or.inr rfl) (hs := by rfl) (hf := by first | exact .inl rfl | exact .inr rfl | assumption)
    refine xe_lst ?_
    exact xa_nil
  refine xss_cons ?_ ?_
  · refine xs_for (gs := [2]) hp (by rfl) ?_ ?_ ?_ (hs := by intro _; rfl)
    · refine xi_range1 (by rfl) T.z_range ?_ (hs := by rfl)
      refine xa_cons ?_ ?_ (hs := by rfl)
      · refine xo_val ?_
        refine xe_op op_addX so_add ?_ ?_
        · exact xo_var 0 (hN := by rfl) (hv := by first | exact Or.inl rfl | exact Or.inr (Or.inl rfl) | exact Or.inr (Or.inr rfl)) (hd := by decide) (hcd := by decide)
        refine xo_val ?_
        exact xe_int
      exact xa_nil
    · exact xg_name 2 S.nd (hR := by decide) (hi := by rfl) (hx := by first | exact Or.inl rfl | exact Or.inr rfl) (hf := by first | exact .inl rfl | exact .inr rfl | assumption)
    refine xss_cons ?_ ?_
    · refine xs_set 3 S.nd ?_ (hR := by decide) (hi := by rfl) (hx := by first | exact Or.inl rfl | exact Or.inr rfl) (hs := by rfl) (hf := by first | exact .inl rfl | exact .inr rfl | assumption)
      refine xe_lst ?_
      exact xa_nil
    refine xss_cons ?_ ?_
    · refine xs_for (gs := [4]) hp (by rfl) ?_ ?_ ?_ (hs := by intro _; rfl)
      · refine xi_range1 (by rfl) T.z_range ?_ (hs := by rfl)
        refine xa_cons ?_ ?_ (hs := by rfl)
        · exact xo_var 2 (hN := by rfl) (hv := by first | exact Or.inl rfl | exact Or.inr (Or.inl rfl) | exact Or.inr (Or.inr rfl)) (hd := by decide) (hcd := by decide)
        exact xa_nil
      · exact xg_name 4 S.nd (hR := by decide) (hi := by rfl) (hx := by first | exact Or.inl rfl | exact Or.inr rfl) (hf := by first | exact .inl rfl | exact .inr rfl | assumption)
      refine xss_cons ?_ ?_
      · refine xs_setLc (own := [("left", 7)]) (gs := [7]) 5 (by rfl) S.nd ?_ (blkOk_by (N := N_greatest_numbers) (sc := defScope s_greatest_numbers) (own := [("left", 7)]) (by decide +kernel)) ?_ ?_ ?_ (sw_true rfl rfl rfl (by decide +kernel)) (hy := by rfl) (hyl := by rfl) (hRi := by decide) (hR := by decide) (hgs := by decide) (hs := by intro _; rfl)
        · refine xi_range1 (by rfl) T.z_range ?_ (hs := by rfl)
          refine xa_cons ?_ ?_ (hs := by rfl)
          · refine xo_val ?_
            refine xe_op op_sub so_sub ?_ ?_
            · exact xo_var 2 (hN := by rfl) (hv := by first | exact Or.inl rfl | exact Or.inr (Or.inl rfl) | exact Or.inr (Or.inr rfl)) (hd := by decide) (hcd := by decide)
            exact xo_var 4 (hN := by rfl) (hv := by first | exact Or.inl rfl | exact Or.inr (Or.inl rfl) | exact Or.inr (Or.inr rfl)) (hd := by decide) (hcd := by decide)
          exact xa_nil
        · intro _ _ _ _ _
          exact xg_name 7 S.nd (hR := by decide) (hi := by rfl) (hx := by first | exact Or.inl rfl | exact Or.inr rfl) (hf := by first | exact .inl rfl | exact .inr rfl | assumption)
        · intro _ _ _ _ _
          exact xts_nil
        intro _ _ _ _ _
        refine xe_op op_fdiv so_fdiv ?_ ?_
        · refine xo_val ?_
          refine xe_op op_sub so_sub ?_ ?_
          · exact xo_var 2 (hN := by rfl) (hv := by first | exact Or.inl rfl | exact Or.inr (Or.inl rfl) | exact Or.inr (Or.inr rfl)) (hd := by decide) (hcd := by decide)
          exact xo_var 7 (hN := by rfl) (hv := by first | exact Or.inl rfl | exact Or.inr (Or.inl rfl) | exact Or.inr (Or.inr rfl)) (hd := by decide) (hcd := by decide)
        refine xo_val ?_
        refine xe_op op_addX so_add ?_ ?_
        · exact xo_var 4 (hN := by rfl) (hv := by first | exact Or.inl rfl | exact Or.inr (Or.inl rfl) | exact Or.inr (Or.inr rfl)) (hd := by decide) (hcd := by decide)
        refine xo_val ?_
        exact xe_int
      refine xss_cons ?_ ?_
      · refine xs_setLc (own := [("left", 7), ("size", 8)]) (gs := [7, 8]) 6 (by rfl) S.nd ?_ (blkOk_by (N := N_greatest_numbers) (sc := defScope s_greatest_numbers) (own := [("left", 7), ("size", 8)]) (by decide +kernel)) ?_ ?_ ?_ (sw_true rfl rfl rfl (by decide +kernel)) (hy := by rfl) (hyl := by rfl) (hRi := by decide) (hR := by decide) (hgs := by decide) (hs := by intro _; rfl)
        · refine xi_enum (by rfl) T.z_enumerate ?_ (hs := by rfl)
          refine xa_cons ?_ ?_ (hs := by rfl)
          · refine xo_val ?_
            exact xe_var 5 (hi := by decide) (hN := by rfl) (hv := by first | exact Or.inl rfl | exact Or.inr (Or.inl rfl) | exact Or.inr (Or.inr rfl)) (hd := by decide) (hcd := by decide)
          exact xa_nil
        · intro _ _ _ _ _
          refine xg_tup (by rfl) ?_ (hn := by rfl) (hst := by rfl)
          refine xgs_cons (gs := [7]) (hs := [8]) ?_ ?_ (hq := by rfl)
          · exact xg_name 7 S.nd (hR := by decide) (hi := by rfl) (hx := by first | exact Or.inl rfl | exact Or.inr rfl) (hf := by first | exact .inl rfl | exact .inr rfl | assumption)
          refine xgs_cons (gs := [8]) (hs := []) ?_ ?_ (hq := by rfl)
          · exact xg_name 8 S.nd (hR := by decide) (hi := by rfl) (hx := by first | exact Or.inl rfl | exact Or.inr rfl) (hf := by first | exact .inl rfl | exact .inr rfl | assumption)
          exact xgs_nil
        · intro _ _ _ _ _
          exact xts_nil
        intro _ _ _ _ _
        refine xe_if ?_ ?_ ?_
        · refine xt_cmp op_gt so_gt ?_ ?_ (nomark _)
          · exact xo_var 4 (hN := by rfl) (hv := by first | exact Or.inl rfl | exact Or.inr (Or.inl rfl) | exact Or.inr (Or.inr rfl)) (hd := by decide) (hcd := by decide)
          refine xo_val ?_
          exact xe_int
        · refine xe_ix ?_ ?_ (hs := by intro _ _; rfl)
          · refine xo_val ?_
            refine xe_ix ?_ ?_ (hs := by intro _ _; rfl)
            · refine xo_val ?_
              refine xe_ix ?_ ?_ (hs := by intro _ _; rfl)
              · exact xo_var 1 (hN := by rfl) (hv := by first | exact Or.inl rfl | exact Or.inr (Or.inl rfl) | exact Or.inr (Or.inr rfl)) (hd := by decide) (hcd := by decide)
              refine xo_val ?_
              refine xe_op op_sub so_sub ?_ ?_
              · exact xo_var 2 (hN := by rfl) (hv := by first | exact Or.inl rfl | exact Or.inr (Or.inl rfl) | exact Or.inr (Or.inr rfl)) (hd := by decide) (hcd := by decide)
              exact xo_var 8 (hN := by rfl) (hv := by first | exact Or.inl rfl | exact Or.inr (Or.inl rfl) | exact Or.inr (Or.inr rfl)) (hd := by decide) (hcd := by decide)
            refine xo_val ?_
            refine xe_op op_sub so_sub ?_ ?_
            · exact xo_var 4 (hN := by rfl) (hv := by first | exact Or.inl rfl | exact Or.inr (Or.inl rfl) | exact Or.inr (Or.inr rfl)) (hd := by decide) (hcd := by decide)
            refine xo_val ?_
            exact xe_int
          exact xo_var 7 (hN := by rfl) (hv := by first | exact Or.inl rfl | exact Or.inr (Or.inl rfl) | exact Or.inr (Or.inr rfl)) (hd := by decide) (hcd := by decide)
        exact xe_int
      refine xss_one ?_
      refine xs_append 3 ?_ (hN := by rfl) (hv := by first | exact Or.inl rfl | exact Or.inr (Or.inl rfl) | exact Or.inr (Or.inr rfl)) (hd := by decide) (hcd := by decide) (hfew := by rfl) (hline := by rfl) (hs := by rfl) (hsw := by rfl)
      refine xo_val ?_
      refine xe_lc (own := [("size", 8), ("told", 9)]) (gs := [8, 9]) (by rfl) S.nd ?_ (blkOk_by (N := N_greatest_numbers) (sc := defScope s_greatest_numbers) (own := [("size", 8), ("told", 9)]) (by decide +kernel)) ?_ ?_ ?_ (hR := by decide) (hgs := by decide) (hs := by intro _; rfl)
      · refine xi_zip (by rfl) T.z_zip ?_ (hs := by rfl) (hpl := by rfl)
        refine xa_cons ?_ ?_ (hs := by rfl)
        · refine xo_val ?_
          exact xe_var 5 (hi := by decide) (hN := by rfl) (hv := by first | exact Or.inl rfl | exact Or.inr (Or.inl rfl) | exact Or.inr (Or.inr rfl)) (hd := by decide) (hcd := by decide)
        refine xa_cons ?_ ?_ (hs := by rfl)
        · refine xo_val ?_
          exact xe_var 6 (hi := by decide) (hN := by rfl) (hv := by first | exact Or.inl rfl | exact Or.inr (Or.inl rfl) | exact Or.inr (Or.inr rfl)) (hd := by decide) (hcd := by decide)
        exact xa_nil
      · intro _ _ _ _ _
        refine xg_tup (by rfl) ?_ (hn := by rfl) (hst := by rfl)
        refine xgs_cons (gs := [8]) (hs := [9]) ?_ ?_ (hq := by rfl)
        · exact xg_name 8 S.nd (hR := by decide) (hi := by rfl) (hx := by first | exact Or.inl rfl | exact Or.inr rfl) (hf := by first | exact .inl rfl | exact .inr rfl | assumption)
        refine xgs_cons (gs := [9]) (hs := []) ?_ ?_ (hq := by rfl)
        · exact xg_name 9 S.nd (hR := by decide) (hi := by rfl) (hx := by first | exact Or.inl rfl | exact Or.inr rfl) (hf := by first | exact .inl rfl | exact .inr rfl | assumption)
        exact xgs_nil
      · intro _ _ _ _ _
        exact xts_nil
      intro _ _ _ _ _
      refine xe_op op_mul so_mulI ?_ ?_
      · refine xo_val ?_
        refine xe_callH (ps := ["number", "many"]) H_choose_of (hr.mono (by decide)) (by rfl) passB ?_ (hdb := by decide) (he := by rfl) (hpl := by rfl)
        refine xa_cons ?_ ?_ (hs := by rfl)
        · refine xo_val ?_
          exact xe_var 2 (hi := by decide) (hN := by rfl) (hv := by first | exact Or.inl rfl | exact Or.inr (Or.inl rfl) | exact Or.inr (Or.inr rfl)) (hd := by decide) (hcd := by decide)
        refine xa_cons ?_ ?_ (hs := by rfl)
        · refine xo_val ?_
          exact xe_var 8 (hi := by decide) (hN := by rfl) (hv := by first | exact Or.inl rfl | exact Or.inr (Or.inl rfl) | exact Or.inr (Or.inr rfl)) (hd := by decide) (hcd := by decide)
        exact xa_nil
      exact xo_var 9 (hN := by rfl) (hv := by first | exact Or.inl rfl | exact Or.inr (Or.inl rfl) | exact Or.inr (Or.inr rfl)) (hd := by decide) (hcd := by decide)
    refine xss_one ?_
    refine xs_append 1 ?_ (hN := by rfl) (hv := by first | exact Or.inl rfl | exact Or.inr (Or.inl rfl) | exact Or.inr (Or.inr rfl)) (hd := by decide) (hcd := by decide) (hfew := by rfl) (hline := by rfl) (hs := by rfl) (hsw := by rfl)
    refine xo_val ?_
    exact xe_var 3 (hi := by decide) (hN := by rfl) (hv := by first | exact Or.inl rfl | exact Or.inr (Or.inl rfl) | exact Or.inr (Or.inr rfl)) (hd := by decide) (hcd := by decide)
  refine xss_one ?_
  refine xs_ret ?_
  exact xe_move 1 (hi := by decide) (hN := by rfl) (hv := by first | exact Or.inl rfl | exact Or.inr (Or.inl rfl) | exact Or.inr (Or.inr rfl)) (hd := by decide) (hcd := by decide)
theorem sc_greatest_left : FnScope N_greatest_left ["number", "numbers"] (defScope s_greatest_left) := ⟨rfl, rfl, rfl, by decide +kernel, rfl, by decide +kernel, by decide +kernel⟩
theorem ok_greatest_left (T : Txt K mg) : Has P w K mg base "greatest_left" s_greatest_left ["number", "numbers"] 1 [] m_greatest_left := by
  have S := sc_greatest_left
  refine has_mk T.a_greatest_left S (fun _ _ _ _ _ _ us hl => match us, hl with | [_, _], _ => rfl) ?_
  intro f cdv A outer s H E hr
  have hx : ∀ σ, PassesAt (L2.CX P w) (cxOf (L2.CX P w) P w K mg base N_greatest_left "greatest_left" (defScope s_greatest_left) f cdv A outer s H E) σ (WE (fun cls d _ H => E cls d H) σ) := passAt (takes_of rfl rfl rfl rfl)
  have hp : PassesOwn (model P w) (cxOf (L2.CX P w) P w K mg base N_greatest_left "greatest_left" (defScope s_greatest_left) f cdv A outer s H E).A (cxOf (L2.CX P w) P w K mg base N_greatest_left "greatest_left" (defScope s_greatest_left) f cdv A outer s H E).env (cxOf (L2.CX P w) P w K mg base N_greatest_left "greatest_left" (defScope s_greatest_left) f cdv A outer s H E).xe := passes_of rfl
  show XSs _ _ _ _ _
  refine xss_one ?_
  refine xs_ret ?_
  refine xe_maxD (by rfl) (by rfl) T.z_max ?_ ?_ (he := by rfl) (hpl := by rfl) (hall := by rfl) (hnone := by rfl) (hks := by rfl)
  · refine xa_cons ?_ ?_ (hs := by rfl)
    · refine xo_val ?_
      refine xe_lc (own := [("left", 2), ("told", 3)]) (gs := [2, 3]) (by rfl) S.nd ?_ (blkOk_by (N := N_greatest_left) (sc := defScope s_greatest_left) (own := [("left", 2), ("told", 3)]) (by decide +kernel)) ?_ ?_ ?_ (hR := by decide) (hgs := by decide) (hs := by intro _; rfl)
      · refine xi_enum (by rfl) T.z_enumerate ?_ (hs := by rfl)
        refine xa_cons ?_ ?_ (hs := by rfl)
        · refine xo_val ?_
          exact xe_var 1 (hi := by decide) (hN := by rfl) (hv := by first | exact Or.inl rfl | exact Or.inr (Or.inl rfl) | exact Or.inr (Or.inr rfl)) (hd := by decide) (hcd := by decide)
        exact xa_nil
      · intro _ _ _ _ _
        refine xg_tup (by rfl) ?_ (hn := by rfl) (hst := by rfl)
        refine xgs_cons (gs := [2]) (hs := [3]) ?_ ?_ (hq := by rfl)
        · exact xg_name 2 S.nd (hR := by decide) (hi := by rfl) (hx := by first | exact Or.inl rfl | exact Or.inr rfl) (hf := by first | exact .inl rfl | exact .inr rfl | assumption)
        refine xgs_cons (gs := [3]) (hs := []) ?_ ?_ (hq := by rfl)
        · exact xg_name 3 S.nd (hR := by decide) (hi := by rfl) (hx := by first | exact Or.inl rfl | exact Or.inr rfl) (hf := by first | exact .inl rfl | exact .inr rfl | assumption)
        exact xgs_nil
      · intro _ _ _ _ _
        refine xts_one ?_
        refine xt_cmp op_ge so_ge ?_ ?_ (nomark _)
        · exact xo_var 3 (hN := by rfl) (hv := by first | exact Or.inl rfl | exact Or.inr (Or.inl rfl) | exact Or.inr (Or.inr rfl)) (hd := by decide) (hcd := by decide)
        exact xo_var 0 (hN := by rfl) (hv := by first | exact Or.inl rfl | exact Or.inr (Or.inl rfl) | exact Or.inr (Or.inr rfl)) (hd := by decide) (hcd := by decide)
      intro _ _ _ _ _
      exact xe_var 2 (hi := by decide) (hN := by rfl) (hv := by first | exact Or.inl rfl | exact Or.inr (Or.inl rfl) | exact Or.inr (Or.inr rfl)) (hd := by decide) (hcd := by decide)
    exact xa_nil
  refine xk_cons ?_ ?_
  · refine xo_val ?_
    refine xe_un un_neg su_neg ?_
    refine xo_val ?_
    exact xe_int
  exact xk_nil
theorem sc_least_other : FnScope N_least_other ["stair", "left"] (defScope s_least_other) := ⟨rfl, rfl, rfl, by decide +kernel, rfl, by decide +kernel, by decide +kernel⟩
theorem ok_least_other (T : Txt K mg) : Has P w K mg base "least_other" s_least_other ["stair", "left"] 1 [] m_least_other := by
  have S := sc_least_other
  refine has_mk T.a_least_other S (fun _ _ _ _ _ _ us hl => match us, hl with | [_, _], _ => rfl) ?_
  intro f cdv A outer s H E hr
  have hx : ∀ σ, PassesAt (L2.CX P w) (cxOf (L2.CX P w) P w K mg base N_least_other "least_other" (defScope s_least_other) f cdv A outer s H E) σ (WE (fun cls d _ H => E cls d H) σ) := passAt (takes_of rfl rfl rfl rfl)
  have hp : PassesOwn (model P w) (cxOf (L2.CX P w) P w K mg base N_least_other "least_other" (defScope s_least_other) f cdv A outer s H E).A (cxOf (L2.CX P w) P w K mg base N_least_other "least_other" (defScope s_least_other) f cdv A outer s H E).env (cxOf (L2.CX P w) P w K mg base N_least_other "least_other" (defScope s_least_other) f cdv A outer s H E).xe := passes_of rfl
  show XSs _ _ _ _ _
  refine xss_cons ?_ ?_
  · refine xs_for (gs := [2, 3]) hp (by rfl) ?_ ?_ ?_ (hs := by intro _; rfl)
    · refine xi_enum (by rfl) T.z_enumerate ?_ (hs := by rfl)
      refine xa_cons ?_ ?_ (hs := by rfl)
      · refine xo_val ?_
        exact xe_var 0 (hi := by decide) (hN := by rfl) (hv := by first | exact Or.inl rfl | exact Or.inr (Or.inl rfl) | exact Or.inr (Or.inr rfl)) (hd := by decide) (hcd := by decide)
      exact xa_nil
    · refine xg_tup (by rfl) ?_ (hn := by rfl) (hst := by rfl)
      refine xgs_cons (gs := [2]) (hs := [3]) ?_ ?_ (hq := by rfl)
      · exact xg_name 2 S.nd (hR := by decide) (hi := by rfl) (hx := by first | exact Or.inl rfl | exact Or.inr rfl) (hf := by first | exact .inl rfl | exact .inr rfl | assumption)
      refine xgs_cons (gs := [3]) (hs := []) ?_ ?_ (hq := by rfl)
      · exact xg_name 3 S.nd (hR := by decide) (hi := by rfl) (hx := by first | exact Or.inl rfl | exact Or.inr rfl) (hf := by first | exact .inl rfl | exact .inr rfl | assumption)
      exact xgs_nil
    refine xss_one ?_
    refine xs_if ?_ ?_ ?_
    · refine xw_dt ?_
      refine xw_and ?_ ?_
      · refine xt_cmp op_notN so_notN ?_ ?_ (nomark _)
        · exact xo_var 3 (hN := by rfl) (hv := by first | exact Or.inl rfl | exact Or.inr (Or.inl rfl) | exact Or.inr (Or.inr rfl)) (hd := by decide) (hcd := by decide)
        refine xo_val ?_
        exact xe_non
      refine xw_and1 ?_
      refine xt_cmp op_le so_le ?_ ?_ (nomark _)
      · exact xo_var 3 (hN := by rfl) (hv := by first | exact Or.inl rfl | exact Or.inr (Or.inl rfl) | exact Or.inr (Or.inr rfl)) (hd := by decide) (hcd := by decide)
      exact xo_var 1 (hN := by rfl) (hv := by first | exact Or.inl rfl | exact Or.inr (Or.inl rfl) | exact Or.inr (Or.inr rfl)) (hd := by decide) (hcd := by decide)
    · refine xss_one ?_
      refine xs_ret ?_
      exact xe_move 2 (hi := by decide) (hN := by rfl) (hv := by first | exact Or.inl rfl | exact Or.inr (Or.inl rfl) | exact Or.inr (Or.inr rfl)) (hd := by decide) (hcd := by decide)
    exact xss_nil
  refine xss_one ?_
  refine xs_ret ?_
  exact xe_non
theorem sc_stair_ahead : FnScope N_stair_ahead ["number", "behind", "best"] (defScope s_stair_ahead) := ⟨rfl, rfl, rfl, by decide +kernel, rfl, by decide +kernel, by decide +kernel⟩
theorem ok_stair_ahead (T : Txt K mg) : Has P w K mg base "stair_ahead" s_stair_ahead ["number", "behind", "best"] 2 [] m_stair_ahead := by
  have S := sc_stair_ahead
  refine has_mk T.a_stair_ahead S (fun _ _ _ _ _ _ us hl => match us, hl with | [_, _, _], _ => rfl) ?_
  intro f cdv A outer s H E hr
  have hx : ∀ σ, PassesAt (L2.CX P w) (cxOf (L2.CX P w) P w K mg base N_stair_ahead "stair_ahead" (defScope s_stair_ahead) f cdv A outer s H E) σ (WE (fun cls d _ H => E cls d H) σ) := passAt (takes_of rfl rfl rfl rfl)
  have hp : PassesOwn (model P w) (cxOf (L2.CX P w) P w K mg base N_stair_ahead "stair_ahead" (defScope s_stair_ahead) f cdv A outer s H E).A (cxOf (L2.CX P w) P w K mg base N_stair_ahead "stair_ahead" (defScope s_stair_ahead) f cdv A outer s H E).env (cxOf (L2.CX P w) P w K mg base N_stair_ahead "stair_ahead" (defScope s_stair_ahead) f cdv A outer s H E).xe := passes_of rfl
  have H_least_other := ok_least_other (P := P) (w := w) (base := base) T
  have H_greatest_left := ok_greatest_left (P := P) (w := w) (base := base) T
  show XSs _ _ _ _ _
  refine xss_cons ?_ ?_
  · refine xs_set 3 S.nd ?_ (hR := by decide) (hi := by rfl) (hx := by first | exact Or.inl rfl | exact Or.inr rfl) (hs := by rfl) (hf := by first | exact .inl rfl | exact .inr rfl | assumption)
    refine xe_lst ?_
    exact xa_nil
  refine xss_cons ?_ ?_
  · refine xs_for (gs := [4]) hp (by rfl) ?_ ?_ ?_ (hs := by intro _; rfl)
    · refine xi_sq ?_
      exact xe_var 2 (hi := by decide) (hN := by rfl) (hv := by first | exact Or.inl rfl | exact Or.inr (Or.inl rfl) | exact Or.inr (Or.inr rfl)) (hd := by decide) (hcd := by decide)
    · exact xg_name 4 S.nd (hR := by decide) (hi := by rfl) (hx := by first | exact Or.inl rfl | exact Or.inr rfl) (hf := by first | exact .inl rfl | exact .inr rfl | assumption)
    refine xss_cons ?_ ?_
    · refine xs_set 5 S.nd ?_ (hR := by decide) (hi := by rfl) (hx := by first | exact Or.inl rfl | exact Or.inr rfl) (hs := by rfl) (hf := by first | exact .inl rfl | exact .inr rfl | assumption)
      refine xe_lst ?_
      exact xa_nil
    refine xss_cons ?_ ?_
    · refine xs_for (gs := [6, 7]) hp (by rfl) ?_ ?_ ?_ (hs := by intro _; rfl)
      · refine xi_enum (by rfl) T.z_enumerate ?_ (hs := by rfl)
        refine xa_cons ?_ ?_ (hs := by rfl)
        · refine xo_val ?_
          exact xe_var 4 (hi := by decide) (hN := by rfl) (hv := by first | exact Or.inl rfl | exact Or.inr (Or.inl rfl) | exact Or.inr (Or.inr rfl)) (hd := by decide) (hcd := by decide)
        exact xa_nil
      · refine xg_tup (by rfl) ?_ (hn := by rfl) (hst := by rfl)
        refine xgs_cons (gs := [6]) (hs := [7]) ?_ ?_ (hq := by rfl)
        · exact xg_name 6 S.nd (hR := by decide) (hi := by rfl) (hx := by first | exact Or.inl rfl | exact Or.inr rfl) (hf := by first | exact .inl rfl | exact .inr rfl | assumption)
        refine xgs_cons (gs := [7]) (hs := []) ?_ ?_ (hq := by rfl)
        · exact xg_name 7 S.nd (hR := by decide) (hi := by rfl) (hx := by first | exact Or.inl rfl | exact Or.inr rfl) (hf := by first | exact .inl rfl | exact .inr rfl | assumption)
        exact xgs_nil
      refine xss_cons ?_ ?_
      · refine xs_set 8 S.nd ?_ (hR := by decide) (hi := by rfl) (hx := by first | exact Or.inl rfl | exact Or.inr rfl) (hs := by rfl) (hf := by first | exact .inl rfl | exact .inr rfl | assumption)
        refine xe_callH (ps := ["stair", "left"]) H_least_other (hr.mono (by decide)) (by rfl) hx ?_ (hdb := by decide) (he := by rfl) (hpl := by rfl)
        refine xa_cons ?_ ?_ (hs := by rfl)
        · refine xo_val ?_
          exact xe_var 1 (hi := by decide) (hN := by rfl) (hv := by first | exact Or.inl rfl | exact Or.inr (Or.inl rfl) | exact Or.inr (Or.inr rfl)) (hd := by decide) (hcd := by decide)
        refine xa_cons ?_ ?_ (hs := by rfl)
        · refine xo_val ?_
          refine xe_callH (ps := ["number", "numbers"]) H_greatest_left (hr.mono (by decide)) (by rfl) hx ?_ (hdb := by decide) (he := by rfl) (hpl := by rfl)
          refine xa_cons ?_ ?_ (hs := by rfl)
          · refine xo_val ?_
            exact xe_var 0 (hi := by decide) (hN := by rfl) (hv := by first | exact Or.inl rfl | exact Or.inr (Or.inl rfl) | exact Or.inr (Or.inr rfl)) (hd := by decide) (hcd := by decide)
          refine xa_cons ?_ ?_ (hs := by rfl)
          · refine xo_val ?_
            exact xe_var 7 (hi := by decide) (hN := by rfl) (hv := by first | exact Or.inl rfl | exact Or.inr (Or.inl rfl) | exact Or.inr (Or.inr rfl)) (hd := by decide) (hcd := by decide)
          exact xa_nil
        exact xa_nil
      refine xss_one ?_
      refine xs_if ?_ ?_ ?_
      · refine xw_dt ?_
        refine xw_and ?_ ?_
        · refine xt_cmp op_notN so_notN ?_ ?_ (nomark _)
          · exact xo_var 8 (hN := by rfl) (hv := by first | exact Or.inl rfl | exact Or.inr (Or.inl rfl) | exact Or.inr (Or.inr rfl)) (hd := by decide) (hcd := by decide)
          refine xo_val ?_
          exact xe_non
        refine xw_and1 ?_
        refine xt_cmp op_lt so_lt ?_ ?_ (nomark _)
        · refine xo_val ?_
          refine xe_op op_addX so_add ?_ ?_
          · exact xo_var 6 (hN := by rfl) (hv := by first | exact Or.inl rfl | exact Or.inr (Or.inl rfl) | exact Or.inr (Or.inr rfl)) (hd := by decide) (hcd := by decide)
          exact xo_var 8 (hN := by rfl) (hv := by first | exact Or.inl rfl | exact Or.inr (Or.inl rfl) | exact Or.inr (Or.inr rfl)) (hd := by decide) (hcd := by decide)
        refine xo_val ?_
        refine xe_b call_lenX sc_len (by rfl) T.z_len PySem.boot_len ?_ (hn := by decide) (hdb := by decide) (he := by rfl) (hpl := by rfl)
        refine xa_cons ?_ ?_ (hs := by rfl)
        · exact xo_var 2 (hN := by rfl) (hv := by first | exact Or.inl rfl | exact Or.inr (Or.inl rfl) | exact Or.inr (Or.inr rfl)) (hd := by decide) (hcd := by decide)
        exact xa_nil
      · refine xss_one ?_
        refine xs_append 5 ?_ (hN := by rfl) (hv := by first | exact Or.inl rfl | exact Or.inr (Or.inl rfl) | exact Or.inr (Or.inr rfl)) (hd := by decide) (hcd := by decide) (hfew := by rfl) (hline := by rfl) (hs := by rfl) (hsw := by rfl)
        refine xo_val ?_
        refine xe_op op_addX so_add ?_ ?_
        · exact xo_var 6 (hN := by rfl) (hv := by first | exact Or.inl rfl | exact Or.inr (Or.inl rfl) | exact Or.inr (Or.inr rfl)) (hd := by decide) (hcd := by decide)
        exact xo_var 8 (hN := by rfl) (hv := by first | exact Or.inl rfl | exact Or.inr (Or.inl rfl) | exact Or.inr (Or.inr rfl)) (hd := by decide) (hcd := by decide)
      exact xss_nil
    refine xss_one ?_
    refine xs_append 3 ?_ (hN := by rfl) (hv := by first | exact Or.inl rfl | exact Or.inr (Or.inl rfl) | exact Or.inr (Or.inr rfl)) (hd := by decide) (hcd := by decide) (hfew := by rfl) (hline := by rfl) (hs := by rfl) (hsw := by rfl)
    refine xo_val ?_
    refine xe_minD (by rfl) (by rfl) T.z_min ?_ ?_ (he := by rfl) (hpl := by rfl) (hall := by rfl) (hnone := by rfl) (hks := by rfl)
    · refine xa_cons ?_ ?_ (hs := by rfl)
      · exact xo_var 5 (hN := by rfl) (hv := by first | exact Or.inl rfl | exact Or.inr (Or.inl rfl) | exact Or.inr (Or.inr rfl)) (hd := by decide) (hcd := by decide)
      exact xa_nil
    refine xk_cons ?_ ?_
    · refine xo_val ?_
      exact xe_non
    exact xk_nil
  refine xss_one ?_
  refine xs_ret ?_
  exact xe_move 3 (hi := by decide) (hN := by rfl) (hv := by first | exact Or.inl rfl | exact Or.inr (Or.inl rfl) | exact Or.inr (Or.inr rfl)) (hd := by decide) (hcd := by decide)
theorem sc_stairs_by : FnScope N_stairs_by ["row", "best"] (defScope s_stairs_by) := ⟨rfl, rfl, rfl, by decide +kernel, rfl, by decide +kernel, by decide +kernel⟩
theorem ok_stairs_by (T : Txt K mg) : Has P w K mg base "stairs_by" s_stairs_by ["row", "best"] 3 [] m_stairs_by := by
  have S := sc_stairs_by
  refine has_mk T.a_stairs_by S (fun _ _ _ _ _ _ us hl => match us, hl with | [_, _], _ => rfl) ?_
  intro f cdv A outer s H E hr
  have hx : ∀ σ, PassesAt (L2.CX P w) (cxOf (L2.CX P w) P w K mg base N_stairs_by "stairs_by" (defScope s_stairs_by) f cdv A outer s H E) σ (WE (fun cls d _ H => E cls d H) σ) := passAt (takes_of rfl rfl rfl rfl)
  have hp : PassesOwn (model P w) (cxOf (L2.CX P w) P w K mg base N_stairs_by "stairs_by" (defScope s_stairs_by) f cdv A outer s H E).A (cxOf (L2.CX P w) P w K mg base N_stairs_by "stairs_by" (defScope s_stairs_by) f cdv A outer s H E).env (cxOf (L2.CX P w) P w K mg base N_stairs_by "stairs_by" (defScope s_stairs_by) f cdv A outer s H E).xe := passes_of rfl
  have H_stair_ahead := ok_stair_ahead (P := P) (w := w) (base := base) T
  show XSs _ _ _ _ _
  refine xss_cons ?_ ?_
  · refine xs_set 2 S.nd ?_ (hR := by decide) (hi := by rfl) (hx := by first | exact Or.inl rfl | exact Or.inr rfl) (hs := by rfl) (hf := by first | exact .inl rfl | exact .inr rfl | assumption)
    refine xe_lst ?_
    refine xa_cons ?_ ?_ (hs := by rfl)
    · refine xo_val ?_
      refine xe_op op_rep so_repL ?_ ?_
      · refine xo_val ?_
        refine xe_lst ?_
        refine xa_cons ?_ ?_ (hs := by rfl)
        · refine xo_val ?_
          exact xe_int
        exact xa_nil
      refine xo_val ?_
      refine xe_b call_lenX sc_len (by rfl) T.z_len PySem.boot_len ?_ (hn := by decide) (hdb := by decide) (he := by rfl) (hpl := by rfl)
      refine xa_cons ?_ ?_ (hs := by rfl)
      · exact xo_var 1 (hN := by rfl) (hv := by first | exact Or.inl rfl | exact Or.inr (Or.inl rfl) | exact Or.inr (Or.inr rfl)) (hd := by decide) (hcd := by decide)
      exact xa_nil
    exact xa_nil
  refine xss_cons ?_ ?_
  · refine xs_for (gs := [3]) hp (by rfl) ?_ ?_ ?_ (hs := by intro _; rfl)
    · refine xi_rev (by rfl) T.z_reversed ?_ (hs := by rfl)
      refine xa_cons ?_ ?_ (hs := by rfl)
      · refine xo_val ?_
        exact xe_var 0 (hi := by decide) (hN := by rfl) (hv := by first | exact Or.inl rfl | exact Or.inr (Or.inl rfl) | exact Or.inr (Or.inr rfl)) (hd := by decide) (hcd := by decide)
      exact xa_nil
    · exact xg_name 3 S.nd (hR := by decide) (hi := by rfl) (hx := by first | exact Or.inl rfl | exact Or.inr rfl) (hf := by first | exact .inl rfl | exact .inr rfl | assumption)
    refine xss_one ?_
    refine xs_append 2 ?_ (hN := by rfl) (hv := by first | exact Or.inl rfl | exact Or.inr (Or.inl rfl) | exact Or.inr (Or.inr rfl)) (hd := by decide) (hcd := by decide) (hfew := by rfl) (hline := by rfl) (hs := by rfl) (hsw := by rfl)
    refine xo_val ?_
    refine xe_callH (ps := ["number", "behind", "best"]) H_stair_ahead (hr.mono (by decide)) (by rfl) hx ?_ (hdb := by decide) (he := by rfl) (hpl := by rfl)
    refine xa_cons ?_ ?_ (hs := by rfl)
    · refine xo_val ?_
      exact xe_var 3 (hi := by decide) (hN := by rfl) (hv := by first | exact Or.inl rfl | exact Or.inr (Or.inl rfl) | exact Or.inr (Or.inr rfl)) (hd := by decide) (hcd := by decide)
    refine xa_cons ?_ ?_ (hs := by rfl)
    · refine xo_val ?_
      refine xe_ix ?_ ?_ (hs := by intro _ _; rfl)
      · exact xo_var 2 (hN := by rfl) (hv := by first | exact Or.inl rfl | exact Or.inr (Or.inl rfl) | exact Or.inr (Or.inr rfl)) (hd := by decide) (hcd := by decide)
      refine xo_val ?_
      refine xe_un un_neg su_neg ?_
      refine xo_val ?_
      exact xe_int
    refine xa_cons ?_ ?_ (hs := by rfl)
    · refine xo_val ?_
      exact xe_var 1 (hi := by decide) (hN := by rfl) (hv := by first | exact Or.inl rfl | exact Or.inr (Or.inl rfl) | exact Or.inr (Or.inr rfl)) (hd := by decide) (hcd := by decide)
    exact xa_nil
  refine xss_one ?_
  refine xs_ret ?_
  refine xe_revS ?_
  exact xo_var 2 (hN := by rfl) (hv := by first | exact Or.inl rfl | exact Or.inr (Or.inl rfl) | exact Or.inr (Or.inr rfl)) (hd := by decide) (hcd := by decide)
theorem sc_lets : FnScope N_lets ["stair", "n", "a"] (defScope s_lets) := ⟨rfl, rfl, rfl, by decide +kernel, rfl, by decide +kernel, by decide +kernel⟩
theorem ok_lets (T : Txt K mg) : Has P w K mg base "lets" s_lets ["stair", "n", "a"] 1 [] m_lets := by
  have S := sc_lets
  refine has_mk T.a_lets S (fun _ _ _ _ _ _ us hl => match us, hl with | [_, _, _], _ => rfl) ?_
  intro f cdv A outer s H E hr
  have hx : ∀ σ, PassesAt (L2.CX P w) (cxOf (L2.CX P w) P w K mg base N_lets "lets" (defScope s_lets) f cdv A outer s H E) σ (WE (fun cls d _ H => E cls d H) σ) := passAt (takes_of rfl rfl rfl rfl)
  have hp : PassesOwn (model P w) (cxOf (L2.CX P w) P w K mg base N_lets "lets" (defScope s_lets) f cdv A outer s H E).A (cxOf (L2.CX P w) P w K mg base N_lets "lets" (defScope s_lets) f cdv A outer s H E).env (cxOf (L2.CX P w) P w K mg base N_lets "lets" (defScope s_lets) f cdv A outer s H E).xe := passes_of rfl
  show XSs _ _ _ _ _
  refine xss_one ?_
  refine xs_ret ?_
  refine xe_and ?_ ?_
  · refine xe_cmp op_notN so_notN ?_ ?_ (nomark _)
    · refine xo_val ?_
      refine xe_ix ?_ ?_ (hs := by intro _ _; rfl)
      · exact xo_var 0 (hN := by rfl) (hv := by first | exact Or.inl rfl | exact Or.inr (Or.inl rfl) | exact Or.inr (Or.inr rfl)) (hd := by decide) (hcd := by decide)
      exact xo_var 1 (hN := by rfl) (hv := by first | exact Or.inl rfl | exact Or.inr (Or.inl rfl) | exact Or.inr (Or.inr rfl)) (hd := by decide) (hcd := by decide)
    refine xo_val ?_
    exact xe_non
  refine xe_one ?_
  refine xe_cmp op_le so_le ?_ ?_ (nomark _)
  · refine xo_val ?_
    refine xe_ix ?_ ?_ (hs := by intro _ _; rfl)
    · exact xo_var 0 (hN := by rfl) (hv := by first | exact Or.inl rfl | exact Or.inr (Or.inl rfl) | exact Or.inr (Or.inr rfl)) (hd := by decide) (hcd := by decide)
    exact xo_var 1 (hN := by rfl) (hv := by first | exact Or.inl rfl | exact Or.inr (Or.inl rfl) | exact Or.inr (Or.inr rfl)) (hd := by decide) (hcd := by decide)
  exact xo_var 2 (hN := by rfl) (hv := by first | exact Or.inl rfl | exact Or.inr (Or.inl rfl) | exact Or.inr (Or.inr rfl)) (hd := by decide) (hcd := by decide)
theorem sc_can_tell : FnScope N_can_tell ["row", "own", "other"] (defScope s_can_tell) := ⟨rfl, rfl, rfl, by decide +kernel, rfl, by decide +kernel, by decide +kernel⟩
theorem ok_can_tell (T : Txt K mg) : Has P w K mg base "can_tell" s_can_tell ["row", "own", "other"] 5 [] m_can_tell := by
  have S := sc_can_tell
  refine has_mk T.a_can_tell S (fun _ _ _ _ _ _ us hl => match us, hl with | [_, _, _], _ => rfl) ?_
  intro f cdv A outer s H E hr
  have hx : ∀ σ, PassesAt (L2.CX P w) (cxOf (L2.CX P w) P w K mg base N_can_tell "can_tell" (defScope s_can_tell) f cdv A outer s H E) σ (WE (fun cls d _ H => E cls d H) σ) := passAt (takes_of rfl rfl rfl rfl)
  have hp : PassesOwn (model P w) (cxOf (L2.CX P w) P w K mg base N_can_tell "can_tell" (defScope s_can_tell) f cdv A outer s H E).A (cxOf (L2.CX P w) P w K mg base N_can_tell "can_tell" (defScope s_can_tell) f cdv A outer s H E).env (cxOf (L2.CX P w) P w K mg base N_can_tell "can_tell" (defScope s_can_tell) f cdv A outer s H E).xe := passes_of rfl
  have H_check_row := ok_check_row (P := P) (w := w) (base := base) T
  have H_check_kinds := ok_check_kinds (P := P) (w := w) (base := base) T
  have H_lets := ok_lets (P := P) (w := w) (base := base) T
  have H_stairs_by := ok_stairs_by (P := P) (w := w) (base := base) T
  have H_greatest_numbers := ok_greatest_numbers (P := P) (w := w) (base := base) T
  show XSs _ _ _ _ _
  refine xss_cons ?_ ?_
  · refine xs_expr ?_ (hs := by rfl)
    refine xe_callH (ps := ["row"]) H_check_row (hr.mono (by decide)) (by rfl) hx ?_ (hdb := by decide) (he := by rfl) (hpl := by rfl)
    refine xa_cons ?_ ?_ (hs := by rfl)
    · refine xo_val ?_
      exact xe_var 0 (hi := by decide) (hN := by rfl) (hv := by first | exact Or.inl rfl | exact Or.inr (Or.inl rfl) | exact Or.inr (Or.inr rfl)) (hd := by decide) (hcd := by decide)
    exact xa_nil
  refine xss_cons ?_ ?_
  · refine xs_expr ?_ (hs := by rfl)
    refine xe_callH (ps := ["own", "other"]) H_check_kinds (hr.mono (by decide)) (by rfl) hx ?_ (hdb := by decide) (he := by rfl) (hpl := by rfl)
    refine xa_cons ?_ ?_ (hs := by rfl)
    · refine xo_val ?_
      exact xe_var 1 (hi := by decide) (hN := by rfl) (hv := by first | exact Or.inl rfl | exact Or.inr (Or.inl rfl) | exact Or.inr (Or.inr rfl)) (hd := by decide) (hcd := by decide)
    refine xa_cons ?_ ?_ (hs := by rfl)
    · refine xo_val ?_
      exact xe_var 2 (hi := by decide) (hN := by rfl) (hv := by first | exact Or.inl rfl | exact Or.inr (Or.inl rfl) | exact Or.inr (Or.inr rfl)) (hd := by decide) (hcd := by decide)
    exact xa_nil
  refine xss_one ?_
  refine xs_ret ?_
  refine xe_callH (ps := ["stair", "n", "a"]) H_lets (hr.mono (by decide)) (by rfl) hx ?_ (hdb := by decide) (he := by rfl) (hpl := by rfl)
  refine xa_cons ?_ ?_ (hs := by rfl)
  · refine xo_val ?_
    refine xe_ix ?_ ?_ (hs := by intro _ _; rfl)
    · refine xo_val ?_
      refine xe_callH (ps := ["row", "best"]) H_stairs_by (hr.mono (by decide)) (by rfl) hx ?_ (hdb := by decide) (he := by rfl) (hpl := by rfl)
      refine xa_cons ?_ ?_ (hs := by rfl)
      · refine xo_val ?_
        exact xe_var 0 (hi := by decide) (hN := by rfl) (hv := by first | exact Or.inl rfl | exact Or.inr (Or.inl rfl) | exact Or.inr (Or.inr rfl)) (hd := by decide) (hcd := by decide)
      refine xa_cons ?_ ?_ (hs := by rfl)
      · refine xo_val ?_
        refine xe_callH (ps := ["most"]) H_greatest_numbers (hr.mono (by decide)) (by rfl) hx ?_ (hdb := by decide) (he := by rfl) (hpl := by rfl)
        refine xa_cons ?_ ?_ (hs := by rfl)
        · refine xo_val ?_
          refine xe_zmax (by rfl) (by rfl) T.z_max ?_ (he := by rfl) (hpl := by rfl)
          refine xa_cons ?_ ?_ (hs := by rfl)
          · exact xo_var 1 (hN := by rfl) (hv := by first | exact Or.inl rfl | exact Or.inr (Or.inl rfl) | exact Or.inr (Or.inr rfl)) (hd := by decide) (hcd := by decide)
          refine xa_cons ?_ ?_ (hs := by rfl)
          · exact xo_var 2 (hN := by rfl) (hv := by first | exact Or.inl rfl | exact Or.inr (Or.inl rfl) | exact Or.inr (Or.inr rfl)) (hd := by decide) (hcd := by decide)
          exact xa_nil
        exact xa_nil
      exact xa_nil
    refine xo_val ?_
    exact xe_int
  refine xa_cons ?_ ?_ (hs := by rfl)
  · refine xo_val ?_
    exact xe_var 1 (hi := by decide) (hN := by rfl) (hv := by first | exact Or.inl rfl | exact Or.inr (Or.inl rfl) | exact Or.inr (Or.inr rfl)) (hd := by decide) (hcd := by decide)
  refine xa_cons ?_ ?_ (hs := by rfl)
  · refine xo_val ?_
    exact xe_var 2 (hi := by decide) (hN := by rfl) (hv := by first | exact Or.inl rfl | exact Or.inr (Or.inl rfl) | exact Or.inr (Or.inr rfl)) (hd := by decide) (hcd := by decide)
  exact xa_nil
theorem sc_law_cell : FnScope N_law_cell ["script", "k"] (defScope s_law_cell) := ⟨rfl, rfl, rfl, by decide +kernel, rfl, by decide +kernel, by decide +kernel⟩
theorem ok_law_cell (T : Txt K mg) : Has P w K mg base "_law_cell" s_law_cell ["script", "k"] 1 [] m_law_cell := by
  have S := sc_law_cell
  refine has_mk T.a_law_cell S (fun _ _ _ _ _ _ us hl => match us, hl with | [_, _], _ => rfl) ?_
  intro f cdv A outer s H E hr
  have hx : ∀ σ, PassesAt (L2.CX P w) (cxOf (L2.CX P w) P w K mg base N_law_cell "_law_cell" (defScope s_law_cell) f cdv A outer s H E) σ (WE (fun cls d _ H => E cls d H) σ) := passAt (takes_of rfl rfl rfl rfl)
  have hp : PassesOwn (model P w) (cxOf (L2.CX P w) P w K mg base N_law_cell "_law_cell" (defScope s_law_cell) f cdv A outer s H E).A (cxOf (L2.CX P w) P w K mg base N_law_cell "_law_cell" (defScope s_law_cell) f cdv A outer s H E).env (cxOf (L2.CX P w) P w K mg base N_law_cell "_law_cell" (defScope s_law_cell) f cdv A outer s H E).xe := passes_of rfl
  show XSs _ _ _ _ _
  refine xss_one ?_
  refine xs_ret ?_
  refine xe_if ?_ ?_ ?_
  · refine xt_cmp op_lt so_lt ?_ ?_ (nomark _)
    · exact xo_var 1 (hN := by rfl) (hv := by first | exact Or.inl rfl | exact Or.inr (Or.inl rfl) | exact Or.inr (Or.inr rfl)) (hd := by decide) (hcd := by decide)
    refine xo_val ?_
    refine xe_b call_lenX sc_len (by rfl) T.z_len PySem.boot_len ?_ (hn := by decide) (hdb := by decide) (he := by rfl) (hpl := by rfl)
    refine xa_cons ?_ ?_ (hs := by rfl)
    · exact xo_var 0 (hN := by rfl) (hv := by first | exact Or.inl rfl | exact Or.inr (Or.inl rfl) | exact Or.inr (Or.inr rfl)) (hd := by decide) (hcd := by decide)
    exact xa_nil
  · refine xe_ix ?_ ?_ (hs := by intro _ _; rfl)
    · exact xo_var 0 (hN := by rfl) (hv := by first | exact Or.inl rfl | exact Or.inr (Or.inl rfl) | exact Or.inr (Or.inr rfl)) (hd := by decide) (hcd := by decide)
    exact xo_var 1 (hN := by rfl) (hv := by first | exact Or.inl rfl | exact Or.inr (Or.inl rfl) | exact Or.inr (Or.inr rfl)) (hd := by decide) (hcd := by decide)
  refine xe_op op_addX so_add ?_ ?_
  · refine xo_val ?_
    refine xe_op op_mul so_mulI ?_ ?_
    · refine xo_val ?_
      exact xe_int
    exact xo_var 1 (hN := by rfl) (hv := by first | exact Or.inl rfl | exact Or.inr (Or.inl rfl) | exact Or.inr (Or.inr rfl)) (hd := by decide) (hcd := by decide)
  refine xo_val ?_
  refine xe_op op_mod so_mod ?_ ?_
  · refine xo_val ?_
    refine xe_t call_int1 sc_int (by rfl) T.z_int PyProof.Rows.boot_int ?_ (hn := by decide) (hdb := by decide) (he := by rfl) (hpl := by rfl)
    refine xa_cons ?_ ?_ (hs := by rfl)
    · refine xo_val ?_
      refine xe_zsum (by rfl) (by rfl) T.z_sum ?_ (he := by rfl) (hpl := by rfl)
      refine xa_cons ?_ ?_ (hs := by rfl)
      · refine xo_val ?_
        refine xe_slice ?_ ?_ ?_
        · exact xo_var 0 (hN := by rfl) (hv := by first | exact Or.inl rfl | exact Or.inr (Or.inl rfl) | exact Or.inr (Or.inr rfl)) (hd := by decide) (hcd := by decide)
        · exact xp_none
        refine xp_some ?_
        refine xo_val ?_
        exact xe_int
      exact xa_nil
    exact xa_nil
  refine xo_val ?_
  exact xe_int
theorem sc_law_box : FnScope N_law_box ["great"] (defScope s_law_box) := ⟨rfl, rfl, rfl, by decide +kernel, rfl, by decide +kernel, by decide +kernel⟩
theorem ok_law_box (T : Txt K mg) : Has P w K mg base "_law_box" s_law_box ["great"] 1 [] m_law_box := by
  have S := sc_law_box
  refine has_mk T.a_law_box S (fun _ _ _ _ _ _ us hl => match us, hl with | [_], _ => rfl) ?_
  intro f cdv A outer s H E hr
  have hx : ∀ σ, PassesAt (L2.CX P w) (cxOf (L2.CX P w) P w K mg base N_law_box "_law_box" (defScope s_law_box) f cdv A outer s H E) σ (WE (fun cls d _ H => E cls d H) σ) := passAt (takes_of rfl rfl rfl rfl)
  have hp : PassesOwn (model P w) (cxOf (L2.CX P w) P w K mg base N_law_box "_law_box" (defScope s_law_box) f cdv A outer s H E).A (cxOf (L2.CX P w) P w K mg base N_law_box "_law_box" (defScope s_law_box) f cdv A outer s H E).env (cxOf (L2.CX P w) P w K mg base N_law_box "_law_box" (defScope s_law_box) f cdv A outer s H E).xe := passes_of rfl
  show XSs _ _ _ _ _
  refine xss_one ?_
  refine xs_ret ?_
  refine xe_lst ?_
  refine xa_cons ?_ ?_ (hs := by rfl)
  · refine xo_val ?_
    refine xe_b call_abs sc_abs (by rfl) T.z_abs PyProof.Rows.boot_abs ?_ (hn := by decide) (hdb := by decide) (he := by rfl) (hpl := by rfl)
    refine xa_cons ?_ ?_ (hs := by rfl)
    · exact xo_var 0 (hN := by rfl) (hv := by first | exact Or.inl rfl | exact Or.inr (Or.inl rfl) | exact Or.inr (Or.inr rfl)) (hd := by decide) (hcd := by decide)
    exact xa_nil
  refine xa_cons ?_ ?_ (hs := by rfl)
  · refine xo_val ?_
    refine xe_cmp op_ge so_ge ?_ ?_ (nomark _)
    · refine xo_val ?_
      refine xe_b call_abs sc_abs (by rfl) T.z_abs PyProof.Rows.boot_abs ?_ (hn := by decide) (hdb := by decide) (he := by rfl) (hpl := by rfl)
      refine xa_cons ?_ ?_ (hs := by rfl)
      · exact xo_var 0 (hN := by rfl) (hv := by first | exact Or.inl rfl | exact Or.inr (Or.inl rfl) | exact Or.inr (Or.inr rfl)) (hd := by decide) (hcd := by decide)
      exact xa_nil
    refine xo_val ?_
    refine xe_op op_pow so_pow ?_ ?_
    · refine xo_val ?_
      exact xe_int
    refine xo_val ?_
    exact xe_int
  refine xa_cons ?_ ?_ (hs := by rfl)
  · refine xo_val ?_
    refine xe_op op_mod so_mod ?_ ?_
    · refine xo_val ?_
      refine xe_t call_int1 sc_int (by rfl) T.z_int PyProof.Rows.boot_int ?_ (hn := by decide) (hdb := by decide) (he := by rfl) (hpl := by rfl)
      refine xa_cons ?_ ?_ (hs := by rfl)
      · refine xo_val ?_
        refine xe_b call_abs sc_abs (by rfl) T.z_abs PyProof.Rows.boot_abs ?_ (hn := by decide) (hdb := by decide) (he := by rfl) (hpl := by rfl)
        refine xa_cons ?_ ?_ (hs := by rfl)
        · exact xo_var 0 (hN := by rfl) (hv := by first | exact Or.inl rfl | exact Or.inr (Or.inl rfl) | exact Or.inr (Or.inr rfl)) (hd := by decide) (hcd := by decide)
        exact xa_nil
      exact xa_nil
    refine xo_val ?_
    exact xe_int
  refine xa_cons ?_ ?_ (hs := by rfl)
  · refine xo_val ?_
    exact xe_int
  exact xa_nil
theorem sc_law_take : FnScope N_law_take ["box", "many"] (defScope s_law_take) := ⟨rfl, rfl, rfl, by decide +kernel, rfl, by decide +kernel, by decide +kernel⟩
theorem ok_law_take (T : Txt K mg) : Has P w K mg base "_law_take" s_law_take ["box", "many"] 1 [0] m_law_take := by
  have S := sc_law_take
  refine has_mk T.a_law_take S (fun _ _ _ _ _ _ us hl => match us, hl with | [_, _], _ => rfl) ?_
  intro f cdv A outer s H E hr
  have hx : ∀ σ, PassesAt (L2.CX P w) (cxOf (L2.CX P w) P w K mg base N_law_take "_law_take" (defScope s_law_take) f cdv A outer s H E) σ (WE (fun cls d _ H => E cls d H) σ) := passAt (takes_of rfl rfl rfl rfl)
  have hp : PassesOwn (model P w) (cxOf (L2.CX P w) P w K mg base N_law_take "_law_take" (defScope s_law_take) f cdv A outer s H E).A (cxOf (L2.CX P w) P w K mg base N_law_take "_law_take" (defScope s_law_take) f cdv A outer s H E).env (cxOf (L2.CX P w) P w K mg base N_law_take "_law_take" (defScope s_law_take) f cdv A outer s H E).xe := passes_of rfl
  show XSs _ _ _ _ _
  refine xss_cons ?_ ?_
  · refine xs_if ?_ ?_ ?_
    · refine xw_dt ?_
      refine xw_and ?_ ?_
      · refine xt_truth ?_ (he := by intro _; rfl)
        refine xo_val ?_
        refine xe_ix ?_ ?_ (hs := by intro _ _; rfl)
        · exact xo_var 0 (hN := by rfl) (hv := by first | exact Or.inl rfl | exact Or.inr (Or.inl rfl) | exact Or.inr (Or.inr rfl)) (hd := by decide) (hcd := by decide)
        refine xo_val ?_
        exact xe_int
      refine xw_and1 ?_
      refine xt_cmp op_gt so_gt ?_ ?_ (nomark _)
      · refine xo_val ?_
        refine xe_ix ?_ ?_ (hs := by intro _ _; rfl)
        · exact xo_var 0 (hN := by rfl) (hv := by first | exact Or.inl rfl | exact Or.inr (Or.inl rfl) | exact Or.inr (Or.inr rfl)) (hd := by decide) (hcd := by decide)
        refine xo_val ?_
        exact xe_int
      refine xo_val ?_
      exact xe_int
    · refine xss_cons ?_ ?_
      · refine xs_set 2 S.nd ?_ (hR := by decide) (hi := by rfl) (hx := by first | exact Or.inl rfl | exact Or.inr rfl) (hs := by rfl) (hf := by first | exact .inl rfl | exact .inr rfl | assumption)
        refine xe_op op_mod so_mod ?_ ?_
        · refine xo_val ?_
          refine xe_t call_int1 sc_int (by rfl) T.z_int PyProof.Rows.boot_int ?_ (hn := by decide) (hdb := by decide) (he := by rfl) (hpl := by rfl)
          refine xa_cons ?_ ?_ (hs := by rfl)
          · refine xo_val ?_
            refine xe_ix ?_ ?_ (hs := by intro _ _; rfl)
            · exact xo_var 0 (hN := by rfl) (hv := by first | exact Or.inl rfl | exact Or.inr (Or.inl rfl) | exact Or.inr (Or.inr rfl)) (hd := by decide) (hcd := by decide)
            refine xo_val ?_
            exact xe_int
          exact xa_nil
        exact xo_var 1 (hN := by rfl) (hv := by first | exact Or.inl rfl | exact Or.inr (Or.inl rfl) | exact Or.inr (Or.inr rfl)) (hd := by decide) (hcd := by decide)
      refine xss_cons ?_ ?_
      · refine xs_setIx 0 ?_ ?_ (hN := by rfl) (hv := by first | exact Or.inl rfl | exact Or.inr (Or.inl rfl) | exact Or.inr (Or.inr rfl)) (hd := by decide) (hcd := by decide) (hs := by rfl) (hw := by rfl) (hq := by rfl) (hsub := by intro _; rfl)
        · refine xo_val ?_
          refine xe_op op_fdiv so_fdiv ?_ ?_
          · refine xo_val ?_
            refine xe_ix ?_ ?_ (hs := by intro _ _; rfl)
            · exact xo_var 0 (hN := by rfl) (hv := by first | exact Or.inl rfl | exact Or.inr (Or.inl rfl) | exact Or.inr (Or.inr rfl)) (hd := by decide) (hcd := by decide)
            refine xo_val ?_
            exact xe_int
          exact xo_var 1 (hN := by rfl) (hv := by first | exact Or.inl rfl | exact Or.inr (Or.inl rfl) | exact Or.inr (Or.inr rfl)) (hd := by decide) (hcd := by decide)
        refine xo_val ?_
        exact xe_int
      refine xss_one ?_
      refine xs_ret ?_
      exact xe_move 2 (hi := by decide) (hN := by rfl) (hv := by first | exact Or.inl rfl | exact Or.inr (Or.inl rfl) | exact Or.inr (Or.inr rfl)) (hd := by decide) (hcd := by decide)
    exact xss_nil
  refine xss_cons ?_ ?_
  · refine xs_setIx 0 ?_ ?_ (hN := by rfl) (hv := by first | exact Or.inl rfl | exact Or.inr (Or.inl rfl) | exact Or.inr (Or.inr rfl)) (hd := by decide) (hcd := by decide) (hs := by rfl) (hw := by rfl) (hq := by rfl) (hsub := by intro _; rfl)
    · refine xo_val ?_
      refine xe_op op_addX so_add ?_ ?_
      · refine xo_val ?_
        refine xe_ix ?_ ?_ (hs := by intro _ _; rfl)
        · exact xo_var 0 (hN := by rfl) (hv := by first | exact Or.inl rfl | exact Or.inr (Or.inl rfl) | exact Or.inr (Or.inr rfl)) (hd := by decide) (hcd := by decide)
        refine xo_val ?_
        exact xe_int
      refine xo_val ?_
      exact xe_int
    refine xo_val ?_
    exact xe_int
  refine xss_cons ?_ ?_
  · refine xs_set 3 S.nd ?_ (hR := by decide) (hi := by rfl) (hx := by first | exact Or.inl rfl | exact Or.inr rfl) (hs := by rfl) (hf := by first | exact .inl rfl | exact .inr rfl | assumption)
    refine xe_op op_mod so_mod ?_ ?_
    · refine xo_val ?_
      refine xe_t call_int1 sc_int (by rfl) T.z_int PyProof.Rows.boot_int ?_ (hn := by decide) (hdb := by decide) (he := by rfl) (hpl := by rfl)
      refine xa_cons ?_ ?_ (hs := by rfl)
      · refine xo_val ?_
        refine xe_op op_pow so_pow ?_ ?_
        · refine xo_val ?_
          refine xe_op op_addX so_add ?_ ?_
          · refine xo_val ?_
            refine xe_op op_addX so_add ?_ ?_
            · refine xo_val ?_
              refine xe_ix ?_ ?_ (hs := by intro _ _; rfl)
              · exact xo_var 0 (hN := by rfl) (hv := by first | exact Or.inl rfl | exact Or.inr (Or.inl rfl) | exact Or.inr (Or.inr rfl)) (hd := by decide) (hcd := by decide)
              refine xo_val ?_
              exact xe_int
            refine xo_val ?_
            refine xe_op op_mul so_mulI ?_ ?_
            · refine xo_val ?_
              exact xe_int
            refine xo_val ?_
            refine xe_ix ?_ ?_ (hs := by intro _ _; rfl)
            · exact xo_var 0 (hN := by rfl) (hv := by first | exact Or.inl rfl | exact Or.inr (Or.inl rfl) | exact Or.inr (Or.inr rfl)) (hd := by decide) (hcd := by decide)
            refine xo_val ?_
            exact xe_int
          refine xo_val ?_
          exact xe_int
        refine xo_val ?_
        exact xe_int
      exact xa_nil
    refine xo_val ?_
    exact xe_int
  refine xss_one ?_
  refine xs_ret ?_
  refine xe_op op_mod so_mod ?_ ?_
  · refine xo_val ?_
    refine xe_t call_int1 sc_int (by rfl) T.z_int PyProof.Rows.boot_int ?_ (hn := by decide) (hdb := by decide) (he := by rfl) (hpl := by rfl)
    refine xa_cons ?_ ?_ (hs := by rfl)
    · refine xo_val ?_
      refine xe_op op_fdiv so_fdiv ?_ ?_
      · refine xo_val ?_
        refine xe_op op_mod so_mod ?_ ?_
        · refine xo_val ?_
          refine xe_t call_int1 sc_int (by rfl) T.z_int PyProof.Rows.boot_int ?_ (hn := by decide) (hdb := by decide) (he := by rfl) (hpl := by rfl)
          refine xa_cons ?_ ?_ (hs := by rfl)
          · refine xo_val ?_
            refine xe_op op_pow so_pow ?_ ?_
            · refine xo_val ?_
              refine xe_op op_addX so_add ?_ ?_
              · refine xo_val ?_
                refine xe_op op_mul so_mulI ?_ ?_
                · exact xo_var 3 (hN := by rfl) (hv := by first | exact Or.inl rfl | exact Or.inr (Or.inl rfl) | exact Or.inr (Or.inr rfl)) (hd := by decide) (hcd := by decide)
                refine xo_val ?_
                exact xe_int
              refine xo_val ?_
              refine xe_op op_mul so_mulI ?_ ?_
              · refine xo_val ?_
                exact xe_int
              refine xo_val ?_
              refine xe_ix ?_ ?_ (hs := by intro _ _; rfl)
              · exact xo_var 0 (hN := by rfl) (hv := by first | exact Or.inl rfl | exact Or.inr (Or.inl rfl) | exact Or.inr (Or.inr rfl)) (hd := by decide) (hcd := by decide)
              refine xo_val ?_
              exact xe_int
            refine xo_val ?_
            exact xe_int
          exact xa_nil
        refine xo_val ?_
        exact xe_int
      refine xo_val ?_
      exact xe_int
    exact xa_nil
  exact xo_var 1 (hN := by rfl) (hv := by first | exact Or.inl rfl | exact Or.inr (Or.inl rfl) | exact Or.inr (Or.inr rfl)) (hd := by decide) (hcd := by decide)
theorem sc_law_same : FnScope N_law_same ["told", "due"] (defScope s_law_same) := ⟨rfl, rfl, rfl, by decide +kernel, rfl, by decide +kernel, by decide +kernel⟩
theorem ok_law_same (T : Txt K mg) : ∀ n : Nat, Has P w K mg base "_law_same" s_law_same ["told", "due"] (1 + n) [] (m_law_same n)
  | 0 => has_bot _ T.a_law_same (fun _ _ _ _ _ _ us hl => match us, hl with | [_, _], _ => rfl)
  | n + 1 => by
    have S := sc_law_same
    refine has_mk T.a_law_same S (fun _ _ _ _ _ _ us hl => match us, hl with | [_, _], _ => rfl) ?_
    intro f cdv A outer s H E hr
    have hx : ∀ σ, PassesAt (L2.CX P w) (cxOf (L2.CX P w) P w K mg base N_law_same "_law_same" (defScope s_law_same) f cdv A outer s H E) σ (WE (fun cls d _ H => E cls d H) σ) := passAt (takes_of rfl rfl rfl rfl)
    have hp : PassesOwn (model P w) (cxOf (L2.CX P w) P w K mg base N_law_same "_law_same" (defScope s_law_same) f cdv A outer s H E).A (cxOf (L2.CX P w) P w K mg base N_law_same "_law_same" (defScope s_law_same) f cdv A outer s H E).env (cxOf (L2.CX P w) P w K mg base N_law_same "_law_same" (defScope s_law_same) f cdv A outer s H E).xe := passes_of rfl
    have H_law_same := ok_law_same T n
    show XSs _ _ _ _ _
    refine xss_cons ?_ ?_
    · refine xs_if ?_ ?_ ?_
      · refine xw_dt ?_
        refine xw_or ?_ ?_
        · refine xt_cmp op_isN so_isN ?_ ?_ (nomark _)
          · exact xo_var 1 (hN := by rfl) (hv := by first | exact Or.inl rfl | exact Or.inr (Or.inl rfl) | exact Or.inr (Or.inr rfl)) (hd := by decide) (hcd := by decide)
          refine xo_val ?_
          exact xe_non
        refine xw_or1 ?_
        refine xt_truth ?_ (he := by intro _; rfl)
        refine xo_val ?_
        refine xe_b call_isiX sc_isi (by rfl) T.z_isinstance PyProof.Rows.boot_isinstance ?_ (hn := by decide) (hdb := by decide) (he := by rfl) (hpl := by rfl)
        refine xa_cons ?_ ?_ (hs := by rfl)
        · exact xo_var 1 (hN := by rfl) (hv := by first | exact Or.inl rfl | exact Or.inr (Or.inl rfl) | exact Or.inr (Or.inr rfl)) (hd := by decide) (hcd := by decide)
        refine xa_cons ?_ ?_ (hs := by rfl)
        · refine xo_val ?_
          exact xe_ty (by rfl) T.z_bool PyProof.Rows.boot_bool (hn := by decide) (hd := by decide)
        exact xa_nil
      · refine xss_one ?_
        refine xs_ret ?_
        refine xe_if ?_ ?_ ?_
        · refine xt_cmp op_isN so_isN ?_ ?_ (nomark _)
          · exact xo_var 1 (hN := by rfl) (hv := by first | exact Or.inl rfl | exact Or.inr (Or.inl rfl) | exact Or.inr (Or.inr rfl)) (hd := by decide) (hcd := by decide)
          refine xo_val ?_
          exact xe_non
        · refine xe_cmp op_isN so_isN ?_ ?_ (nomark _)
          · exact xo_var 0 (hN := by rfl) (hv := by first | exact Or.inl rfl | exact Or.inr (Or.inl rfl) | exact Or.inr (Or.inr rfl)) (hd := by decide) (hcd := by decide)
          refine xo_val ?_
          exact xe_non
        refine xe_and ?_ ?_
        · refine xe_b call_isiX sc_isi (by rfl) T.z_isinstance PyProof.Rows.boot_isinstance ?_ (hn := by decide) (hdb := by decide) (he := by rfl) (hpl := by rfl)
          refine xa_cons ?_ ?_ (hs := by rfl)
          · exact xo_var 0 (hN := by rfl) (hv := by first | exact Or.inl rfl | exact Or.inr (Or.inl rfl) | exact Or.inr (Or.inr rfl)) (hd := by decide) (hcd := by decide)
          refine xa_cons ?_ ?_ (hs := by rfl)
          · refine xo_val ?_
            exact xe_ty (by rfl) T.z_bool PyProof.Rows.boot_bool (hn := by decide) (hd := by decide)
          exact xa_nil
        refine xe_one ?_
        refine xe_cmp (op_eqX hr.units) so_eq ?_ ?_ (nomark _)
        · refine xo_val ?_
          refine xe_cmp op_isBl so_isB ?_ ?_ (nomark _)
          · exact xo_var 0 (hN := by rfl) (hv := by first | exact Or.inl rfl | exact Or.inr (Or.inl rfl) | exact Or.inr (Or.inr rfl)) (hd := by decide) (hcd := by decide)
          refine xo_val ?_
          exact xe_bl
        refine xo_val ?_
        refine xe_cmp op_isBl so_isB ?_ ?_ (nomark _)
        · exact xo_var 1 (hN := by rfl) (hv := by first | exact Or.inl rfl | exact Or.inr (Or.inl rfl) | exact Or.inr (Or.inr rfl)) (hd := by decide) (hcd := by decide)
        refine xo_val ?_
        exact xe_bl
      exact xss_nil
    refine xss_cons ?_ ?_
    · refine xs_if ?_ ?_ ?_
      · refine xt_truth ?_ (he := by intro _; rfl)
        refine xo_val ?_
        refine xe_b call_isiX sc_isi (by rfl) T.z_isinstance PyProof.Rows.boot_isinstance ?_ (hn := by decide) (hdb := by decide) (he := by rfl) (hpl := by rfl)
        refine xa_cons ?_ ?_ (hs := by rfl)
        · exact xo_var 1 (hN := by rfl) (hv := by first | exact Or.inl rfl | exact Or.inr (Or.inl rfl) | exact Or.inr (Or.inr rfl)) (hd := by decide) (hcd := by decide)
        refine xa_cons ?_ ?_ (hs := by rfl)
        · refine xo_val ?_
          exact xe_ty (by rfl) T.z_int PyProof.Rows.boot_int (hn := by decide) (hd := by decide)
        exact xa_nil
      · refine xss_one ?_
        refine xs_ret ?_
        refine xe_and ?_ ?_
        · refine xe_b call_isiX sc_isi (by rfl) T.z_isinstance PyProof.Rows.boot_isinstance ?_ (hn := by decide) (hdb := by decide) (he := by rfl) (hpl := by rfl)
          refine xa_cons ?_ ?_ (hs := by rfl)
          · exact xo_var 0 (hN := by rfl) (hv := by first | exact Or.inl rfl | exact Or.inr (Or.inl rfl) | exact Or.inr (Or.inr rfl)) (hd := by decide) (hcd := by decide)
          refine xa_cons ?_ ?_ (hs := by rfl)
          · refine xo_val ?_
            exact xe_ty (by rfl) T.z_int PyProof.Rows.boot_int (hn := by decide) (hd := by decide)
          exact xa_nil
        refine xe_and ?_ ?_
        · refine xe_not ?_
          refine xe_b call_isiX sc_isi (by rfl) T.z_isinstance PyProof.Rows.boot_isinstance ?_ (hn := by decide) (hdb := by decide) (he := by rfl) (hpl := by rfl)
          refine xa_cons ?_ ?_ (hs := by rfl)
          · exact xo_var 0 (hN := by rfl) (hv := by first | exact Or.inl rfl | exact Or.inr (Or.inl rfl) | exact Or.inr (Or.inr rfl)) (hd := by decide) (hcd := by decide)
          refine xa_cons ?_ ?_ (hs := by rfl)
          · refine xo_val ?_
            exact xe_ty (by rfl) T.z_bool PyProof.Rows.boot_bool (hn := by decide) (hd := by decide)
          exact xa_nil
        refine xe_one ?_
        refine xe_cmp (op_eqX hr.units) so_eq ?_ ?_ (nomark _)
        · refine xo_val ?_
          refine xe_op op_sub so_sub ?_ ?_
          · refine xo_val ?_
            refine xe_t call_int1 sc_int (by rfl) T.z_int PyProof.Rows.boot_int ?_ (hn := by decide) (hdb := by decide) (he := by rfl) (hpl := by rfl)
            refine xa_cons ?_ ?_ (hs := by rfl)
            · exact xo_var 0 (hN := by rfl) (hv := by first | exact Or.inl rfl | exact Or.inr (Or.inl rfl) | exact Or.inr (Or.inr rfl)) (hd := by decide) (hcd := by decide)
            exact xa_nil
          exact xo_var 1 (hN := by rfl) (hv := by first | exact Or.inl rfl | exact Or.inr (Or.inl rfl) | exact Or.inr (Or.inr rfl)) (hd := by decide) (hcd := by decide)
        refine xo_val ?_
        exact xe_int
      exact xss_nil
    refine xss_cons ?_ ?_
    · refine xs_if ?_ ?_ ?_
      · refine xt_truth ?_ (he := by intro _; rfl)
        refine xo_val ?_
        refine xe_b call_isiX sc_isi (by rfl) T.z_isinstance PyProof.Rows.boot_isinstance ?_ (hn := by decide) (hdb := by decide) (he := by rfl) (hpl := by rfl)
        refine xa_cons ?_ ?_ (hs := by rfl)
        · exact xo_var 1 (hN := by rfl) (hv := by first | exact Or.inl rfl | exact Or.inr (Or.inl rfl) | exact Or.inr (Or.inr rfl)) (hd := by decide) (hcd := by decide)
        refine xa_cons ?_ ?_ (hs := by rfl)
        · refine xo_val ?_
          exact xe_ty (by rfl) T.z_str PyProof.Rows.boot_str (hn := by decide) (hd := by decide)
        exact xa_nil
      · refine xss_one ?_
        refine xs_ret ?_
        refine xe_and ?_ ?_
        · refine xe_b call_isiX sc_isi (by rfl) T.z_isinstance PyProof.Rows.boot_isinstance ?_ (hn := by decide) (hdb := by decide) (he := by rfl) (hpl := by rfl)
          refine xa_cons ?_ ?_ (hs := by rfl)
          · exact xo_var 0 (hN := by rfl) (hv := by first | exact Or.inl rfl | exact Or.inr (Or.inl rfl) | exact Or.inr (Or.inr rfl)) (hd := by decide) (hcd := by decide)
          refine xa_cons ?_ ?_ (hs := by rfl)
          · refine xo_val ?_
            exact xe_ty (by rfl) T.z_str PyProof.Rows.boot_str (hn := by decide) (hd := by decide)
          exact xa_nil
        refine xe_and ?_ ?_
        · refine xe_cmp (op_eqX hr.units) so_eq ?_ ?_ (nomark _)
          · refine xo_val ?_
            refine xe_b call_lenX sc_len (by rfl) T.z_len PySem.boot_len ?_ (hn := by decide) (hdb := by decide) (he := by rfl) (hpl := by rfl)
            refine xa_cons ?_ ?_ (hs := by rfl)
            · exact xo_var 0 (hN := by rfl) (hv := by first | exact Or.inl rfl | exact Or.inr (Or.inl rfl) | exact Or.inr (Or.inr rfl)) (hd := by decide) (hcd := by decide)
            exact xa_nil
          refine xo_val ?_
          refine xe_b call_lenX sc_len (by rfl) T.z_len PySem.boot_len ?_ (hn := by decide) (hdb := by decide) (he := by rfl) (hpl := by rfl)
          refine xa_cons ?_ ?_ (hs := by rfl)
          · exact xo_var 1 (hN := by rfl) (hv := by first | exact Or.inl rfl | exact Or.inr (Or.inl rfl) | exact Or.inr (Or.inr rfl)) (hd := by decide) (hcd := by decide)
          exact xa_nil
        refine xe_one ?_
        refine xe_cmp (op_eqX hr.units) so_eq ?_ ?_ (nomark _)
        · refine xo_val ?_
          refine xe_lc (own := [("k", 2)]) (gs := [2]) (by rfl) S.nd ?_ (blkOk_by (N := N_law_same) (sc := defScope s_law_same) (own := [("k", 2)]) (by decide +kernel)) ?_ ?_ ?_ (hR := by decide) (hgs := by decide) (hs := by intro _; rfl)
          · refine xi_range1 (by rfl) T.z_range ?_ (hs := by rfl)
            refine xa_cons ?_ ?_ (hs := by rfl)
            · refine xo_val ?_
              refine xe_b call_lenX sc_len (by rfl) T.z_len PySem.boot_len ?_ (hn := by decide) (hdb := by decide) (he := by rfl) (hpl := by rfl)
              refine xa_cons ?_ ?_ (hs := by rfl)
              · exact xo_var 1 (hN := by rfl) (hv := by first | exact Or.inl rfl | exact Or.inr (Or.inl rfl) | exact Or.inr (Or.inr rfl)) (hd := by decide) (hcd := by decide)
              exact xa_nil
            exact xa_nil
          · intro _ _ _ _ _
            exact xg_name 2 S.nd (hR := by decide) (hi := by rfl) (hx := by first | exact Or.inl rfl | exact Or.inr rfl) (hf := by first | exact .inl rfl | exact .inr rfl | assumption)
          · intro _ _ _ _ _
            refine xts_one ?_
            refine xt_cmp (op_neX hr.units) so_ne ?_ ?_ (nomark _)
            · refine xo_val ?_
              refine xe_slice ?_ ?_ ?_
              · exact xo_var 0 (hN := by rfl) (hv := by first | exact Or.inl rfl | exact Or.inr (Or.inl rfl) | exact Or.inr (Or.inr rfl)) (hd := by decide) (hcd := by decide)
              · refine xp_some ?_
                exact xo_var 2 (hN := by rfl) (hv := by first | exact Or.inl rfl | exact Or.inr (Or.inl rfl) | exact Or.inr (Or.inr rfl)) (hd := by decide) (hcd := by decide)
              refine xp_some ?_
              refine xo_val ?_
              refine xe_op op_addX so_add ?_ ?_
              · exact xo_var 2 (hN := by rfl) (hv := by first | exact Or.inl rfl | exact Or.inr (Or.inl rfl) | exact Or.inr (Or.inr rfl)) (hd := by decide) (hcd := by decide)
              refine xo_val ?_
              exact xe_int
            refine xo_val ?_
            refine xe_ix ?_ ?_ (hs := by intro _ _; rfl)
            · exact xo_var 1 (hN := by rfl) (hv := by first | exact Or.inl rfl | exact Or.inr (Or.inl rfl) | exact Or.inr (Or.inr rfl)) (hd := by decide) (hcd := by decide)
            exact xo_var 2 (hN := by rfl) (hv := by first | exact Or.inl rfl | exact Or.inr (Or.inl rfl) | exact Or.inr (Or.inr rfl)) (hd := by decide) (hcd := by decide)
          intro _ _ _ _ _
          exact xe_var 2 (hi := by decide) (hN := by rfl) (hv := by first | exact Or.inl rfl | exact Or.inr (Or.inl rfl) | exact Or.inr (Or.inr rfl)) (hd := by decide) (hcd := by decide)
        refine xo_val ?_
        refine xe_lst ?_
        exact xa_nil
      exact xss_nil
    refine xss_cons ?_ ?_
    · refine xs_if ?_ ?_ ?_
      · refine xw_dt ?_
        refine xw_or ?_ ?_
        · refine xt_cmp (op_neX hr.units) so_ne ?_ ?_ (nomark _)
          · refine xo_val ?_
            refine xe_b call_isiX sc_isi (by rfl) T.z_isinstance PyProof.Rows.boot_isinstance ?_ (hn := by decide) (hdb := by decide) (he := by rfl) (hpl := by rfl)
            refine xa_cons ?_ ?_ (hs := by rfl)
            · exact xo_var 0 (hN := by rfl) (hv := by first | exact Or.inl rfl | exact Or.inr (Or.inl rfl) | exact Or.inr (Or.inr rfl)) (hd := by decide) (hcd := by decide)
            refine xa_cons ?_ ?_ (hs := by rfl)
            · refine xo_val ?_
              exact xe_ty (by rfl) T.z_list PyProof.Rows.boot_list (hn := by decide) (hd := by decide)
            exact xa_nil
          refine xo_val ?_
          refine xe_b call_isiX sc_isi (by rfl) T.z_isinstance PyProof.Rows.boot_isinstance ?_ (hn := by decide) (hdb := by decide) (he := by rfl) (hpl := by rfl)
          refine xa_cons ?_ ?_ (hs := by rfl)
          · exact xo_var 1 (hN := by rfl) (hv := by first | exact Or.inl rfl | exact Or.inr (Or.inl rfl) | exact Or.inr (Or.inr rfl)) (hd := by decide) (hcd := by decide)
          refine xa_cons ?_ ?_ (hs := by rfl)
          · refine xo_val ?_
            exact xe_ty (by rfl) T.z_list PyProof.Rows.boot_list (hn := by decide) (hd := by decide)
          exact xa_nil
        refine xw_or1 ?_
        refine xt_cmp (op_neX hr.units) so_ne ?_ ?_ (nomark _)
        · refine xo_val ?_
          refine xe_b call_isiX sc_isi (by rfl) T.z_isinstance PyProof.Rows.boot_isinstance ?_ (hn := by decide) (hdb := by decide) (he := by rfl) (hpl := by rfl)
          refine xa_cons ?_ ?_ (hs := by rfl)
          · exact xo_var 0 (hN := by rfl) (hv := by first | exact Or.inl rfl | exact Or.inr (Or.inl rfl) | exact Or.inr (Or.inr rfl)) (hd := by decide) (hcd := by decide)
          refine xa_cons ?_ ?_ (hs := by rfl)
          · refine xo_val ?_
            exact xe_ty (by rfl) T.z_tuple PyProof.Rows.boot_tuple (hn := by decide) (hd := by decide)
          exact xa_nil
        refine xo_val ?_
        refine xe_b call_isiX sc_isi (by rfl) T.z_isinstance PyProof.Rows.boot_isinstance ?_ (hn := by decide) (hdb := by decide) (he := by rfl) (hpl := by rfl)
        refine xa_cons ?_ ?_ (hs := by rfl)
        · exact xo_var 1 (hN := by rfl) (hv := by first | exact Or.inl rfl | exact Or.inr (Or.inl rfl) | exact Or.inr (Or.inr rfl)) (hd := by decide) (hcd := by decide)
        refine xa_cons ?_ ?_ (hs := by rfl)
        · refine xo_val ?_
          exact xe_ty (by rfl) T.z_tuple PyProof.Rows.boot_tuple (hn := by decide) (hd := by decide)
        exact xa_nil
      · refine xss_one ?_
        refine xs_ret ?_
        exact xe_bl
      exact xss_nil
    refine xss_one ?_
    refine xs_ret ?_
    refine xe_and ?_ ?_
    · refine xe_cmp (op_eqX hr.units) so_eq ?_ ?_ (nomark _)
      · refine xo_val ?_
        refine xe_b call_lenX sc_len (by rfl) T.z_len PySem.boot_len ?_ (hn := by decide) (hdb := by decide) (he := by rfl) (hpl := by rfl)
        refine xa_cons ?_ ?_ (hs := by rfl)
        · exact xo_var 0 (hN := by rfl) (hv := by first | exact Or.inl rfl | exact Or.inr (Or.inl rfl) | exact Or.inr (Or.inr rfl)) (hd := by decide) (hcd := by decide)
        exact xa_nil
      refine xo_val ?_
      refine xe_b call_lenX sc_len (by rfl) T.z_len PySem.boot_len ?_ (hn := by decide) (hdb := by decide) (he := by rfl) (hpl := by rfl)
      refine xa_cons ?_ ?_ (hs := by rfl)
      · exact xo_var 1 (hN := by rfl) (hv := by first | exact Or.inl rfl | exact Or.inr (Or.inl rfl) | exact Or.inr (Or.inr rfl)) (hd := by decide) (hcd := by decide)
      exact xa_nil
    refine xe_one ?_
    refine xe_cmp (op_eqX hr.units) so_eq ?_ ?_ (nomark _)
    · refine xo_val ?_
      refine xe_lc (own := [("k", 2)]) (gs := [2]) (by rfl) S.nd ?_ (blkOk_by (N := N_law_same) (sc := defScope s_law_same) (own := [("k", 2)]) (by decide +kernel)) ?_ ?_ ?_ (hR := by decide) (hgs := by decide) (hs := by intro _; rfl)
      · refine xi_range1 (by rfl) T.z_range ?_ (hs := by rfl)
        refine xa_cons ?_ ?_ (hs := by rfl)
        · refine xo_val ?_
          refine xe_b call_lenX sc_len (by rfl) T.z_len PySem.boot_len ?_ (hn := by decide) (hdb := by decide) (he := by rfl) (hpl := by rfl)
          refine xa_cons ?_ ?_ (hs := by rfl)
          · exact xo_var 1 (hN := by rfl) (hv := by first | exact Or.inl rfl | exact Or.inr (Or.inl rfl) | exact Or.inr (Or.inr rfl)) (hd := by decide) (hcd := by decide)
          exact xa_nil
        exact xa_nil
      · intro _ _ _ _ _
        exact xg_name 2 S.nd (hR := by decide) (hi := by rfl) (hx := by first | exact Or.inl rfl | exact Or.inr rfl) (hf := by first | exact .inl rfl | exact .inr rfl | assumption)
      · intro _ _ _ _ _
        refine xts_one ?_
        refine xt_not ?_
        refine xt_truth ?_ (he := by intro _; rfl)
        refine xo_val ?_
        refine xe_callH (ps := ["told", "due"]) H_law_same (hr.mono (by first | exact Nat.le_refl _ | (show _ ≤ 1 + n; omega))) (by rfl) passB ?_ (hdb := by decide) (he := by rfl) (hpl := by rfl)
        refine xa_cons ?_ ?_ (hs := by rfl)
        · refine xo_val ?_
          refine xe_ix ?_ ?_ (hs := by intro _ _; rfl)
          · exact xo_var 0 (hN := by rfl) (hv := by first | exact Or.inl rfl | exact Or.inr (Or.inl rfl) | exact Or.inr (Or.inr rfl)) (hd := by decide) (hcd := by decide)
          exact xo_var 2 (hN := by rfl) (hv := by first | exact Or.inl rfl | exact Or.inr (Or.inl rfl) | exact Or.inr (Or.inr rfl)) (hd := by decide) (hcd := by decide)
        refine xa_cons ?_ ?_ (hs := by rfl)
        · refine xo_val ?_
          refine xe_ix ?_ ?_ (hs := by intro _ _; rfl)
          · exact xo_var 1 (hN := by rfl) (hv := by first | exact Or.inl rfl | exact Or.inr (Or.inl rfl) | exact Or.inr (Or.inr rfl)) (hd := by decide) (hcd := by decide)
          exact xo_var 2 (hN := by rfl) (hv := by first | exact Or.inl rfl | exact Or.inr (Or.inl rfl) | exact Or.inr (Or.inr rfl)) (hd := by decide) (hcd := by decide)
        exact xa_nil
      intro _ _ _ _ _
      exact xe_var 2 (hi := by decide) (hN := by rfl) (hv := by first | exact Or.inl rfl | exact Or.inr (Or.inl rfl) | exact Or.inr (Or.inr rfl)) (hd := by decide) (hcd := by decide)
    refine xo_val ?_
    refine xe_lst ?_
    exact xa_nil
theorem sc_law_choose : FnScope N_law_choose ["many", "few"] (defScope s_law_choose) := ⟨rfl, rfl, rfl, by decide +kernel, rfl, by decide +kernel, by decide +kernel⟩
theorem ok_law_choose (T : Txt K mg) : Has P w K mg base "_law_choose" s_law_choose ["many", "few"] 1 [] m_law_choose := by
  have S := sc_law_choose
  refine has_mk T.a_law_choose S (fun _ _ _ _ _ _ us hl => match us, hl with | [_, _], _ => rfl) ?_
  intro f cdv A outer s H E hr
  have hx : ∀ σ, PassesAt (L2.CX P w) (cxOf (L2.CX P w) P w K mg base N_law_choose "_law_choose" (defScope s_law_choose) f cdv A outer s H E) σ (WE (fun cls d _ H => E cls d H) σ) := passAt (takes_of rfl rfl rfl rfl)
  have hp : PassesOwn (model P w) (cxOf (L2.CX P w) P w K mg base N_law_choose "_law_choose" (defScope s_law_choose) f cdv A outer s H E).A (cxOf (L2.CX P w) P w K mg base N_law_choose "_law_choose" (defScope s_law_choose) f cdv A outer s H E).env (cxOf (L2.CX P w) P w K mg base N_law_choose "_law_choose" (defScope s_law_choose) f cdv A outer s H E).xe := passes_of rfl
  show XSs _ _ _ _ _
  refine xss_cons ?_ ?_
  · refine xs_set 2 S.nd ?_ (hR := by decide) (hi := by rfl) (hx := by first | exact Or.inl rfl | exact Or.inr rfl) (hs := by rfl) (hf := by first | exact .inl rfl | exact .inr rfl | assumption)
    exact xe_int
  refine xss_cons ?_ ?_
  · refine xs_for (gs := [3]) hp (by rfl) ?_ ?_ ?_ (hs := by intro _; rfl)
    · refine xi_range1 (by rfl) T.z_range ?_ (hs := by rfl)
      refine xa_cons ?_ ?_ (hs := by rfl)
      · exact xo_var 1 (hN := by rfl) (hv := by first | exact Or.inl rfl | exact Or.inr (Or.inl rfl) | exact Or.inr (Or.inr rfl)) (hd := by decide) (hcd := by decide)
      exact xa_nil
    · exact xg_name 3 S.nd (hR := by decide) (hi := by rfl) (hx := by first | exact Or.inl rfl | exact Or.inr rfl) (hf := by first | exact .inl rfl | exact .inr rfl | assumption)
    refine xss_one ?_
    refine xs_set 2 S.nd ?_ (hR := by decide) (hi := by rfl) (hx := by first | exact Or.inl rfl | exact Or.inr rfl) (hs := by rfl) (hf := by first | exact .inl rfl | exact .inr rfl | assumption)
    refine xe_op op_fdiv so_fdiv ?_ ?_
    · refine xo_val ?_
      refine xe_op op_mul so_mulI ?_ ?_
      · exact xo_var 2 (hN := by rfl) (hv := by first | exact Or.inl rfl | exact Or.inr (Or.inl rfl) | exact Or.inr (Or.inr rfl)) (hd := by decide) (hcd := by decide)
      refine xo_val ?_
      refine xe_op op_sub so_sub ?_ ?_
      · exact xo_var 0 (hN := by rfl) (hv := by first | exact Or.inl rfl | exact Or.inr (Or.inl rfl) | exact Or.inr (Or.inr rfl)) (hd := by decide) (hcd := by decide)
      exact xo_var 3 (hN := by rfl) (hv := by first | exact Or.inl rfl | exact Or.inr (Or.inl rfl) | exact Or.inr (Or.inr rfl)) (hd := by decide) (hcd := by decide)
    refine xo_val ?_
    refine xe_op op_addX so_add ?_ ?_
    · exact xo_var 3 (hN := by rfl) (hv := by first | exact Or.inl rfl | exact Or.inr (Or.inl rfl) | exact Or.inr (Or.inr rfl)) (hd := by decide) (hcd := by decide)
    refine xo_val ?_
    exact xe_int
  refine xss_one ?_
  refine xs_ret ?_
  exact xe_move 2 (hi := by decide) (hN := by rfl) (hv := by first | exact Or.inl rfl | exact Or.inr (Or.inl rfl) | exact Or.inr (Or.inr rfl)) (hd := by decide) (hcd := by decide)
theorem sc_law_parted : FnScope N_law_parted ["most", "parts"] (defScope s_law_parted) := ⟨rfl, rfl, rfl, by decide +kernel, rfl, by decide +kernel, by decide +kernel⟩
theorem ok_law_parted (T : Txt K mg) : Has P w K mg base "_law_parted" s_law_parted ["most", "parts"] 2 [] m_law_parted := by
  have S := sc_law_parted
  refine has_mk T.a_law_parted S (fun _ _ _ _ _ _ us hl => match us, hl with | [_, _], _ => rfl) ?_
  intro f cdv A outer s H E hr
  have hx : ∀ σ, PassesAt (L2.CX P w) (cxOf (L2.CX P w) P w K mg base N_law_parted "_law_parted" (defScope s_law_parted) f cdv A outer s H E) σ (WE (fun cls d _ H => E cls d H) σ) := passAt (takes_of rfl rfl rfl rfl)
  have hp : PassesOwn (model P w) (cxOf (L2.CX P w) P w K mg base N_law_parted "_law_parted" (defScope s_law_parted) f cdv A outer s H E).A (cxOf (L2.CX P w) P w K mg base N_law_parted "_law_parted" (defScope s_law_parted) f cdv A outer s H E).env (cxOf (L2.CX P w) P w K mg base N_law_parted "_law_parted" (defScope s_law_parted) f cdv A outer s H E).xe := passes_of rfl
  have H_law_choose := ok_law_choose (P := P) (w := w) (base := base) T
  show XSs _ _ _ _ _
  refine xss_cons ?_ ?_
  · refine xs_set 2 S.nd ?_ (hR := by decide) (hi := by rfl) (hx := by first | exact Or.inl rfl | exact Or.inr rfl) (hs := by rfl) (hf := by first | exact .inl rfl | exact .inr rfl | assumption)
    refine xe_lst ?_
    refine xa_cons ?_ ?_ (hs := by rfl)
    · refine xo_val ?_
      refine xe_op op_addX so_add ?_ ?_
      · refine xo_val ?_
        refine xe_lst ?_
        refine xa_cons ?_ ?_ (hs := by rfl)
        · refine xo_val ?_
          exact xe_int
        exact xa_nil
      refine xo_val ?_
      refine xe_op op_rep so_repL ?_ ?_
      · refine xo_val ?_
        refine xe_lst ?_
        refine xa_cons ?_ ?_ (hs := by rfl)
        · refine xo_val ?_
          exact xe_int
        exact xa_nil
      exact xo_var 0 (hN := by rfl) (hv := by first | exact Or.inl rfl | exact Or.inr (Or.inl rfl) | exact Or.inr (Or.inr rfl)) (hd := by decide) (hcd := by decide)
    exact xa_nil
  refine xss_cons ?_ ?_
  · refine xs_for (gs := [3]) hp (by rfl) ?_ ?_ ?_ (hs := by intro _; rfl)
    · refine xi_range1 (by rfl) T.z_range ?_ (hs := by rfl)
      refine xa_cons ?_ ?_ (hs := by rfl)
      · exact xo_var 1 (hN := by rfl) (hv := by first | exact Or.inl rfl | exact Or.inr (Or.inl rfl) | exact Or.inr (Or.inr rfl)) (hd := by decide) (hcd := by decide)
      exact xa_nil
    · exact xg_name 3 S.nd (hR := by decide) (hi := by rfl) (hx := by first | exact Or.inl rfl | exact Or.inr rfl) (hf := by first | exact .inl rfl | exact .inr rfl | assumption)
    refine xss_cons ?_ ?_
    · refine xs_set 4 S.nd ?_ (hR := by decide) (hi := by rfl) (hx := by first | exact Or.inl rfl | exact Or.inr rfl) (hs := by rfl) (hf := by first | exact .inl rfl | exact .inr rfl | assumption)
      refine xe_ix ?_ ?_ (hs := by intro _ _; rfl)
      · exact xo_var 2 (hN := by rfl) (hv := by first | exact Or.inl rfl | exact Or.inr (Or.inl rfl) | exact Or.inr (Or.inr rfl)) (hd := by decide) (hcd := by decide)
      exact xo_var 3 (hN := by rfl) (hv := by first | exact Or.inl rfl | exact Or.inr (Or.inl rfl) | exact Or.inr (Or.inr rfl)) (hd := by decide) (hcd := by decide)
    refine xss_one ?_
    refine xs_append 2 ?_ (hN := by rfl) (hv := by first | exact Or.inl rfl | exact Or.inr (Or.inl rfl) | exact Or.inr (Or.inr rfl)) (hd := by decide) (hcd := by decide) (hfew := by rfl) (hline := by rfl) (hs := by rfl) (hsw := by rfl)
    refine xo_val ?_
    refine xe_lc (own := [("n", 5)]) (gs := [5]) (by rfl) S.nd ?_ (blkOk_by (N := N_law_parted) (sc := defScope s_law_parted) (own := [("n", 5)]) (by decide +kernel)) ?_ ?_ ?_ (hR := by decide) (hgs := by decide) (hs := by intro _; rfl)
    · refine xi_range1 (by rfl) T.z_range ?_ (hs := by rfl)
      refine xa_cons ?_ ?_ (hs := by rfl)
      · refine xo_val ?_
        refine xe_op op_addX so_add ?_ ?_
        · exact xo_var 0 (hN := by rfl) (hv := by first | exact Or.inl rfl | exact Or.inr (Or.inl rfl) | exact Or.inr (Or.inr rfl)) (hd := by decide) (hcd := by decide)
        refine xo_val ?_
        exact xe_int
      exact xa_nil
    · intro _ _ _ _ _
      exact xg_name 5 S.nd (hR := by decide) (hi := by rfl) (hx := by first | exact Or.inl rfl | exact Or.inr rfl) (hf := by first | exact .inl rfl | exact .inr rfl | assumption)
    · intro _ _ _ _ _
      exact xts_nil
    intro _ _ _ _ _
    refine xe_zmax (by rfl) (by rfl) T.z_max ?_ (he := by rfl) (hpl := by rfl)
    refine xa_cons ?_ ?_ (hs := by rfl)
    · refine xo_val ?_
      refine xe_lc (own := [("p", 6)]) (gs := [6]) (by rfl) S.nd ?_ (blkOk_by (own := [("p", 6)]) (by rfl)) ?_ ?_ ?_ (hR := by decide) (hgs := by decide) (hs := by intro _; rfl)
      · refine xi_range1 (by rfl) T.z_range ?_ (hs := by rfl)
        refine xa_cons ?_ ?_ (hs := by rfl)
        · refine xo_val ?_
          refine xe_op op_addX so_add ?_ ?_
          · exact xo_var 5 (hN := by rfl) (hv := by first | exact Or.inl rfl | exact Or.inr (Or.inl rfl) | exact Or.inr (Or.inr rfl)) (hd := by decide) (hcd := by decide)
          refine xo_val ?_
          exact xe_int
        exact xa_nil
      · intro _ _ _ _ _
        exact xg_name 6 S.nd (hR := by decide) (hi := by rfl) (hx := by first | exact Or.inl rfl | exact Or.inr rfl) (hf := by first | exact .inl rfl | exact .inr rfl | assumption)
      · intro _ _ _ _ _
        exact xts_nil
      intro _ _ _ _ _
      refine xe_op op_mul so_mulI ?_ ?_
      · refine xo_val ?_
        refine xe_callH (ps := ["many", "few"]) H_law_choose (hr.mono (by decide)) (by rfl) passB ?_ (hdb := by decide) (he := by rfl) (hpl := by rfl)
        refine xa_cons ?_ ?_ (hs := by rfl)
        · refine xo_val ?_
          exact xe_var 5 (hi := by decide) (hN := by rfl) (hv := by first | exact Or.inl rfl | exact Or.inr (Or.inl rfl) | exact Or.inr (Or.inr rfl)) (hd := by decide) (hcd := by decide)
        refine xa_cons ?_ ?_ (hs := by rfl)
        · refine xo_val ?_
          exact xe_var 6 (hi := by decide) (hN := by rfl) (hv := by first | exact Or.inl rfl | exact Or.inr (Or.inl rfl) | exact Or.inr (Or.inr rfl)) (hd := by decide) (hcd := by decide)
        exact xa_nil
      refine xo_val ?_
      refine xe_ix ?_ ?_ (hs := by intro _ _; rfl)
      · exact xo_var 4 (hN := by rfl) (hv := by first | exact Or.inl rfl | exact Or.inr (Or.inl rfl) | exact Or.inr (Or.inr rfl)) (hd := by decide) (hcd := by decide)
      refine xo_val ?_
      refine xe_op op_sub so_sub ?_ ?_
      · exact xo_var 5 (hN := by rfl) (hv := by first | exact Or.inl rfl | exact Or.inr (Or.inl rfl) | exact Or.inr (Or.inr rfl)) (hd := by decide) (hcd := by decide)
      exact xo_var 6 (hN := by rfl) (hv := by first | exact Or.inl rfl | exact Or.inr (Or.inl rfl) | exact Or.inr (Or.inr rfl)) (hd := by decide) (hcd := by decide)
    exact xa_nil
  refine xss_one ?_
  refine xs_ret ?_
  exact xe_move 2 (hi := by decide) (hN := by rfl) (hv := by first | exact Or.inl rfl | exact Or.inr (Or.inl rfl) | exact Or.inr (Or.inr rfl)) (hd := by decide) (hcd := by decide)
theorem sc_law_count : FnScope N_law_count ["box", "least"] (defScope s_law_count) := ⟨rfl, rfl, rfl, by decide +kernel, rfl, by decide +kernel, by decide +kernel⟩
theorem ok_law_count (T : Txt K mg) : Has P w K mg base "_law_count" s_law_count ["box", "least"] 2 [0] m_law_count := by
  have S := sc_law_count
  refine has_mk T.a_law_count S (fun _ _ _ _ _ _ us hl => match us, hl with | [_, _], _ => rfl) ?_
  intro f cdv A outer s H E hr
  have hx : ∀ σ, PassesAt (L2.CX P w) (cxOf (L2.CX P w) P w K mg base N_law_count "_law_count" (defScope s_law_count) f cdv A outer s H E) σ (WE (fun cls d _ H => E cls d H) σ) := passAt (takes_of rfl rfl rfl rfl)
  have hp : PassesOwn (model P w) (cxOf (L2.CX P w) P w K mg base N_law_count "_law_count" (defScope s_law_count) f cdv A outer s H E).A (cxOf (L2.CX P w) P w K mg base N_law_count "_law_count" (defScope s_law_count) f cdv A outer s H E).env (cxOf (L2.CX P w) P w K mg base N_law_count "_law_count" (defScope s_law_count) f cdv A outer s H E).xe := passes_of rfl
  have H_law_take := ok_law_take (P := P) (w := w) (base := base) T
  show XSs _ _ _ _ _
  refine xss_cons ?_ ?_
  · refine xs_par2 2 3 (by rfl) S.nd ?_ (hR := by decide) (hi := by rfl) (hj := by rfl) (hij := by decide) (hx := by rfl) (hy := by rfl) (hw := by rfl) (hs := by rfl)
    refine xd_cons ?_ ?_ (hs := by rfl)
    · refine xe_callH (ps := ["box", "many"]) H_law_take (hr.mono (by decide)) (by rfl) hx ?_ (hdb := by decide) (he := by rfl) (hpl := by rfl)
      refine xa_cons ?_ ?_ (hs := by rfl)
      · exact xo_var 0 (hN := by rfl) (hv := by first | exact Or.inl rfl | exact Or.inr (Or.inl rfl) | exact Or.inr (Or.inr rfl)) (hd := by decide) (hcd := by decide)
      refine xa_cons ?_ ?_ (hs := by rfl)
      · refine xo_val ?_
        exact xe_int
      exact xa_nil
    refine xd_cons ?_ ?_ (hs := by rfl)
    · refine xe_callH (ps := ["box", "many"]) H_law_take (hr.mono (by decide)) (by rfl) hx ?_ (hdb := by decide) (he := by rfl) (hpl := by rfl)
      refine xa_cons ?_ ?_ (hs := by rfl)
      · exact xo_var 0 (hN := by rfl) (hv := by first | exact Or.inl rfl | exact Or.inr (Or.inl rfl) | exact Or.inr (Or.inr rfl)) (hd := by decide) (hcd := by decide)
      refine xa_cons ?_ ?_ (hs := by rfl)
      · refine xo_val ?_
        refine xe_op op_sub so_sub ?_ ?_
        · refine xo_val ?_
          exact xe_int
        exact xo_var 1 (hN := by rfl) (hv := by first | exact Or.inl rfl | exact Or.inr (Or.inl rfl) | exact Or.inr (Or.inr rfl)) (hd := by decide) (hcd := by decide)
      exact xa_nil
    exact xd_nil
  refine xss_one ?_
  refine xs_ret ?_
  refine xe_if ?_ ?_ ?_
  · refine xt_cmp (op_eqX hr.units) so_eq ?_ ?_ (nomark _)
    · exact xo_var 2 (hN := by rfl) (hv := by first | exact Or.inl rfl | exact Or.inr (Or.inl rfl) | exact Or.inr (Or.inr rfl)) (hd := by decide) (hcd := by decide)
    refine xo_val ?_
    exact xe_int
  · exact xe_var 1 (hi := by decide) (hN := by rfl) (hv := by first | exact Or.inl rfl | exact Or.inr (Or.inl rfl) | exact Or.inr (Or.inr rfl)) (hd := by decide) (hcd := by decide)
  refine xe_if ?_ ?_ ?_
  · refine xt_cmp (op_eqX hr.units) so_eq ?_ ?_ (nomark _)
    · exact xo_var 2 (hN := by rfl) (hv := by first | exact Or.inl rfl | exact Or.inr (Or.inl rfl) | exact Or.inr (Or.inr rfl)) (hd := by decide) (hcd := by decide)
    refine xo_val ?_
    exact xe_int
  · exact xe_int
  refine xe_op op_addX so_add ?_ ?_
  · exact xo_var 1 (hN := by rfl) (hv := by first | exact Or.inl rfl | exact Or.inr (Or.inl rfl) | exact Or.inr (Or.inr rfl)) (hd := by decide) (hcd := by decide)
  exact xo_var 3 (hN := by rfl) (hv := by first | exact Or.inl rfl | exact Or.inr (Or.inl rfl) | exact Or.inr (Or.inr rfl)) (hd := by decide) (hcd := by decide)
theorem sc_law_counts : FnScope N_law_counts ["box", "least"] (defScope s_law_counts) := ⟨rfl, rfl, rfl, by decide +kernel, rfl, by decide +kernel, by decide +kernel⟩
theorem ok_law_counts (T : Txt K mg) : Has P w K mg base "_law_counts" s_law_counts ["box", "least"] 3 [0] m_law_counts := by
  have S := sc_law_counts
  refine has_mk T.a_law_counts S (fun _ _ _ _ _ _ us hl => match us, hl with | [_, _], _ => rfl) ?_
  intro f cdv A outer s H E hr
  have hx : ∀ σ, PassesAt (L2.CX P w) (cxOf (L2.CX P w) P w K mg base N_law_counts "_law_counts" (defScope s_law_counts) f cdv A outer s H E) σ (WE (fun cls d _ H => E cls d H) σ) := passAt (takes_of rfl rfl rfl rfl)
  have hp : PassesOwn (model P w) (cxOf (L2.CX P w) P w K mg base N_law_counts "_law_counts" (defScope s_law_counts) f cdv A outer s H E).A (cxOf (L2.CX P w) P w K mg base N_law_counts "_law_counts" (defScope s_law_counts) f cdv A outer s H E).env (cxOf (L2.CX P w) P w K mg base N_law_counts "_law_counts" (defScope s_law_counts) f cdv A outer s H E).xe := passes_of rfl
  have H_law_take := ok_law_take (P := P) (w := w) (base := base) T
  have H_law_count := ok_law_count (P := P) (w := w) (base := base) T
  show XSs _ _ _ _ _
  refine xss_cons ?_ ?_
  · refine xs_par2 2 3 (by rfl) S.nd ?_ (hR := by decide) (hi := by rfl) (hj := by rfl) (hij := by decide) (hx := by rfl) (hy := by rfl) (hw := by rfl) (hs := by rfl)
    refine xd_cons ?_ ?_ (hs := by rfl)
    · refine xe_op op_addX so_add ?_ ?_
      · refine xo_val ?_
        exact xe_int
      refine xo_val ?_
      refine xe_callH (ps := ["box", "many"]) H_law_take (hr.mono (by decide)) (by rfl) hx ?_ (hdb := by decide) (he := by rfl) (hpl := by rfl)
      refine xa_cons ?_ ?_ (hs := by rfl)
      · exact xo_var 0 (hN := by rfl) (hv := by first | exact Or.inl rfl | exact Or.inr (Or.inl rfl) | exact Or.inr (Or.inr rfl)) (hd := by decide) (hcd := by decide)
      refine xa_cons ?_ ?_ (hs := by rfl)
      · refine xo_val ?_
        exact xe_int
      exact xa_nil
    refine xd_cons ?_ ?_ (hs := by rfl)
    · refine xe_cmp (op_eqX hr.units) so_eq ?_ ?_ (nomark _)
      · refine xo_val ?_
        refine xe_callH (ps := ["box", "many"]) H_law_take (hr.mono (by decide)) (by rfl) hx ?_ (hdb := by decide) (he := by rfl) (hpl := by rfl)
        refine xa_cons ?_ ?_ (hs := by rfl)
        · exact xo_var 0 (hN := by rfl) (hv := by first | exact Or.inl rfl | exact Or.inr (Or.inl rfl) | exact Or.inr (Or.inr rfl)) (hd := by decide) (hcd := by decide)
        refine xa_cons ?_ ?_ (hs := by rfl)
        · refine xo_val ?_
          exact xe_int
        exact xa_nil
      refine xo_val ?_
      exact xe_int
    exact xd_nil
  refine xss_cons ?_ ?_
  · refine xs_par2 4 5 (by rfl) S.nd ?_ (hR := by decide) (hi := by rfl) (hj := by rfl) (hij := by decide) (hx := by rfl) (hy := by rfl) (hw := by rfl) (hs := by rfl)
    refine xd_cons ?_ ?_ (hs := by rfl)
    · refine xe_callH (ps := ["box", "least"]) H_law_count (hr.mono (by decide)) (by rfl) hx ?_ (hdb := by decide) (he := by rfl) (hpl := by rfl)
      refine xa_cons ?_ ?_ (hs := by rfl)
      · exact xo_var 0 (hN := by rfl) (hv := by first | exact Or.inl rfl | exact Or.inr (Or.inl rfl) | exact Or.inr (Or.inr rfl)) (hd := by decide) (hcd := by decide)
      refine xa_cons ?_ ?_ (hs := by rfl)
      · refine xo_val ?_
        exact xe_var 1 (hi := by decide) (hN := by rfl) (hv := by first | exact Or.inl rfl | exact Or.inr (Or.inl rfl) | exact Or.inr (Or.inr rfl)) (hd := by decide) (hcd := by decide)
      exact xa_nil
    refine xd_cons ?_ ?_ (hs := by rfl)
    · refine xe_callH (ps := ["box", "many"]) H_law_take (hr.mono (by decide)) (by rfl) hx ?_ (hdb := by decide) (he := by rfl) (hpl := by rfl)
      refine xa_cons ?_ ?_ (hs := by rfl)
      · exact xo_var 0 (hN := by rfl) (hv := by first | exact Or.inl rfl | exact Or.inr (Or.inl rfl) | exact Or.inr (Or.inr rfl)) (hd := by decide) (hcd := by decide)
      refine xa_cons ?_ ?_ (hs := by rfl)
      · refine xo_val ?_
        exact xe_int
      exact xa_nil
    exact xd_nil
  refine xss_cons ?_ ?_
  · refine xs_if ?_ ?_ ?_
    · refine xt_truth ?_ (he := by intro _; rfl)
      exact xo_var 3 (hN := by rfl) (hv := by first | exact Or.inl rfl | exact Or.inr (Or.inl rfl) | exact Or.inr (Or.inr rfl)) (hd := by decide) (hcd := by decide)
    · refine xss_one ?_
      refine xs_ret ?_
      refine xe_op op_rep so_repL ?_ ?_
      · refine xo_val ?_
        refine xe_lst ?_
        refine xa_cons ?_ ?_ (hs := by rfl)
        · refine xo_val ?_
          exact xe_var 4 (hi := by decide) (hN := by rfl) (hv := by first | exact Or.inl rfl | exact Or.inr (Or.inl rfl) | exact Or.inr (Or.inr rfl)) (hd := by decide) (hcd := by decide)
        exact xa_nil
      exact xo_var 2 (hN := by rfl) (hv := by first | exact Or.inl rfl | exact Or.inr (Or.inl rfl) | exact Or.inr (Or.inr rfl)) (hd := by decide) (hcd := by decide)
    exact xss_nil
  refine xss_cons ?_ ?_
  · refine xs_setLc (own := [("k", 8)]) (gs := [8]) 6 (by rfl) S.nd ?_ (blkOk_by (N := N_law_counts) (sc := defScope s_law_counts) (own := [("k", 8)]) (by decide +kernel)) ?_ ?_ ?_ (sw_true rfl rfl rfl (by decide +kernel)) (hy := by rfl) (hyl := by rfl) (hRi := by decide) (hR := by decide) (hgs := by decide) (hs := by intro _; rfl)
    · refine xi_range1 (by rfl) T.z_range ?_ (hs := by rfl)
      refine xa_cons ?_ ?_ (hs := by rfl)
      · exact xo_var 2 (hN := by rfl) (hv := by first | exact Or.inl rfl | exact Or.inr (Or.inl rfl) | exact Or.inr (Or.inr rfl)) (hd := by decide) (hcd := by decide)
      exact xa_nil
    · intro _ _ _ _ _
      exact xg_name 8 S.nd (hR := by decide) (hi := by rfl) (hx := by first | exact Or.inl rfl | exact Or.inr rfl) (hf := by first | exact .inl rfl | exact .inr rfl | assumption)
    · intro _ _ _ _ _
      exact xts_nil
    intro _ _ _ _ _
    refine xe_callH (ps := ["box", "least"]) H_law_count (hr.mono (by decide)) (by rfl) passB ?_ (hdb := by decide) (he := by rfl) (hpl := by rfl)
    refine xa_cons ?_ ?_ (hs := by rfl)
    · exact xo_var 0 (hN := by rfl) (hv := by first | exact Or.inl rfl | exact Or.inr (Or.inl rfl) | exact Or.inr (Or.inr rfl)) (hd := by decide) (hcd := by decide)
    refine xa_cons ?_ ?_ (hs := by rfl)
    · refine xo_val ?_
      exact xe_var 1 (hi := by decide) (hN := by rfl) (hv := by first | exact Or.inl rfl | exact Or.inr (Or.inl rfl) | exact Or.inr (Or.inr rfl)) (hd := by decide) (hcd := by decide)
    exact xa_nil
  refine xss_cons ?_ ?_
  · refine xs_if ?_ ?_ ?_
    · refine xw_dt ?_
      refine xw_and ?_ ?_
      · refine xt_cmp op_gt so_gt ?_ ?_ (nomark _)
        · exact xo_var 2 (hN := by rfl) (hv := by first | exact Or.inl rfl | exact Or.inr (Or.inl rfl) | exact Or.inr (Or.inr rfl)) (hd := by decide) (hcd := by decide)
        refine xo_val ?_
        exact xe_int
      refine xw_and1 ?_
      refine xt_cmp op_lt so_lt ?_ ?_ (nomark _)
      · exact xo_var 5 (hN := by rfl) (hv := by first | exact Or.inl rfl | exact Or.inr (Or.inl rfl) | exact Or.inr (Or.inr rfl)) (hd := by decide) (hcd := by decide)
      exact xo_var 2 (hN := by rfl) (hv := by first | exact Or.inl rfl | exact Or.inr (Or.inl rfl) | exact Or.inr (Or.inr rfl)) (hd := by decide) (hcd := by decide)
    · refine xss_cons ?_ ?_
      · refine xs_set 7 S.nd ?_ (hR := by decide) (hi := by rfl) (hx := by first | exact Or.inl rfl | exact Or.inr rfl) (hs := by rfl) (hf := by first | exact .inl rfl | exact .inr rfl | assumption)
        refine xe_zmin (by rfl) (by rfl) T.z_min ?_ (he := by rfl) (hpl := by rfl)
        refine xa_cons ?_ ?_ (hs := by rfl)
        · exact xo_var 6 (hN := by rfl) (hv := by first | exact Or.inl rfl | exact Or.inr (Or.inl rfl) | exact Or.inr (Or.inr rfl)) (hd := by decide) (hcd := by decide)
        exact xa_nil
      refine xss_one ?_
      refine xs_setIx 6 ?_ ?_ (hN := by rfl) (hv := by first | exact Or.inl rfl | exact Or.inr (Or.inl rfl) | exact Or.inr (Or.inr rfl)) (hd := by decide) (hcd := by decide) (hs := by rfl) (hw := by rfl) (hq := by rfl) (hsub := by intro _; rfl)
      · refine xo_val ?_
        refine xe_zmax (by rfl) (by rfl) T.z_max ?_ (he := by rfl) (hpl := by rfl)
        refine xa_cons ?_ ?_ (hs := by rfl)
        · exact xo_var 1 (hN := by rfl) (hv := by first | exact Or.inl rfl | exact Or.inr (Or.inl rfl) | exact Or.inr (Or.inr rfl)) (hd := by decide) (hcd := by decide)
        refine xa_cons ?_ ?_ (hs := by rfl)
        · refine xo_val ?_
          refine xe_op op_sub so_sub ?_ ?_
          · exact xo_var 7 (hN := by rfl) (hv := by first | exact Or.inl rfl | exact Or.inr (Or.inl rfl) | exact Or.inr (Or.inr rfl)) (hd := by decide) (hcd := by decide)
          refine xo_val ?_
          exact xe_int
        exact xa_nil
      exact xo_var 5 (hN := by rfl) (hv := by first | exact Or.inl rfl | exact Or.inr (Or.inl rfl) | exact Or.inr (Or.inr rfl)) (hd := by decide) (hcd := by decide)
    exact xss_nil
  refine xss_one ?_
  refine xs_ret ?_
  exact xe_move 6 (hi := by decide) (hN := by rfl) (hv := by first | exact Or.inl rfl | exact Or.inr (Or.inl rfl) | exact Or.inr (Or.inr rfl)) (hd := by decide) (hcd := by decide)
theorem sc_law_gather_told : FnScope N_law_gather_told ["way", "kinds", "answers"] (defScope s_law_gather_told) := ⟨rfl, rfl, rfl, by decide +kernel, rfl, by decide +kernel, by decide +kernel⟩
theorem ok_law_gather_told (T : Txt K mg) : Has P w K mg base "_law_gather_told" s_law_gather_told ["way", "kinds", "answers"] 7 [] m_law_gather_told := by
  have S := sc_law_gather_told
  refine has_mk T.a_law_gather_told S (fun _ _ _ _ _ _ us hl => match us, hl with | [_, _, _], _ => rfl) ?_
  intro f cdv A outer s H E hr
  have hx : ∀ σ, PassesAt (L2.CX P w) (cxOf (L2.CX P w) P w K mg base N_law_gather_told "_law_gather_told" (defScope s_law_gather_told) f cdv A outer s H E) σ (WE (fun cls d _ H => E cls d H) σ) := passAt (takes_of rfl rfl rfl rfl)
  have hp : PassesOwn (model P w) (cxOf (L2.CX P w) P w K mg base N_law_gather_told "_law_gather_told" (defScope s_law_gather_told) f cdv A outer s H E).A (cxOf (L2.CX P w) P w K mg base N_law_gather_told "_law_gather_told" (defScope s_law_gather_told) f cdv A outer s H E).env (cxOf (L2.CX P w) P w K mg base N_law_gather_told "_law_gather_told" (defScope s_law_gather_told) f cdv A outer s H E).xe := passes_of rfl
  have H_gathered := ok_gathered (P := P) (w := w) (base := base) T
  show XSs _ _ _ _ _
  refine xss_cons ?_ ?_
  · refine xs_set 3 S.nd ?_ (hR := by decide) (hi := by rfl) (hx := by first | exact Or.inl rfl | exact Or.inr rfl) (hs := by rfl) (hf := by first | exact .inl rfl | exact .inr rfl | assumption)
    refine xe_if ?_ ?_ ?_
    · refine xt_cmp (op_eqX hr.units) so_eq ?_ ?_ (nomark _)
      · exact xo_var 0 (hN := by rfl) (hv := by first | exact Or.inl rfl | exact Or.inr (Or.inl rfl) | exact Or.inr (Or.inr rfl)) (hd := by decide) (hcd := by decide)
      refine xo_val ?_
      exact xe_int
    · refine xe_t call_tuple_of sc_tuple (by rfl) T.z_tuple PyProof.Rows.boot_tuple ?_ (hn := by decide) (hdb := by decide) (he := by rfl) (hpl := by rfl)
      refine xa_cons ?_ ?_ (hs := by rfl)
      · exact xo_var 1 (hN := by rfl) (hv := by first | exact Or.inl rfl | exact Or.inr (Or.inl rfl) | exact Or.inr (Or.inr rfl)) (hd := by decide) (hcd := by decide)
      exact xa_nil
    exact xe_var 1 (hi := by decide) (hN := by rfl) (hv := by first | exact Or.inl rfl | exact Or.inr (Or.inl rfl) | exact Or.inr (Or.inr rfl)) (hd := by decide) (hcd := by decide)
  refine xss_one ?_
  refine xs_ret ?_
  refine xe_if ?_ ?_ ?_
  · refine xt_cmp op_gt so_gt ?_ ?_ (nomark _)
    · exact xo_var 0 (hN := by rfl) (hv := by first | exact Or.inl rfl | exact Or.inr (Or.inl rfl) | exact Or.inr (Or.inr rfl)) (hd := by decide) (hcd := by decide)
    refine xo_val ?_
    exact xe_int
  · refine xe_callKH0 (ps := ["kinds", "answers"]) H_gathered (hr.mono (by decide)) (by rfl) hx (ks := ["answers", "kinds"]) (pm := [1, 0]) (fun _ _ _ _ _ _ us ws hu hw => match us, ws, hu, hw with | [], [_, _], _, _ => ⟨rfl, rfl⟩) ?_ (hall := by rfl) (hks := by rfl) (hdb := by decide) (hpl := by rfl)
    refine xk_cons ?_ ?_
    · refine xo_val ?_
      exact xe_var 2 (hi := by decide) (hN := by rfl) (hv := by first | exact Or.inl rfl | exact Or.inr (Or.inl rfl) | exact Or.inr (Or.inr rfl)) (hd := by decide) (hcd := by decide)
    refine xk_cons ?_ ?_
    · refine xo_val ?_
      exact xe_var 3 (hi := by decide) (hN := by rfl) (hv := by first | exact Or.inl rfl | exact Or.inr (Or.inl rfl) | exact Or.inr (Or.inr rfl)) (hd := by decide) (hcd := by decide)
    exact xk_nil
  refine xe_callH (ps := ["kinds", "answers"]) H_gathered (hr.mono (by decide)) (by rfl) hx ?_ (hdb := by decide) (he := by rfl) (hpl := by rfl)
  refine xa_cons ?_ ?_ (hs := by rfl)
  · refine xo_val ?_
    exact xe_var 3 (hi := by decide) (hN := by rfl) (hv := by first | exact Or.inl rfl | exact Or.inr (Or.inl rfl) | exact Or.inr (Or.inr rfl)) (hd := by decide) (hcd := by decide)
  refine xa_cons ?_ ?_ (hs := by rfl)
  · refine xo_val ?_
    exact xe_var 2 (hi := by decide) (hN := by rfl) (hv := by first | exact Or.inl rfl | exact Or.inr (Or.inl rfl) | exact Or.inr (Or.inr rfl)) (hd := by decide) (hcd := by decide)
  exact xa_nil
theorem sc_law_spread_told : FnScope N_law_spread_told ["way", "kinds", "answers"] (defScope s_law_spread_told) := ⟨rfl, rfl, rfl, by decide +kernel, rfl, by decide +kernel, by decide +kernel⟩
theorem ok_law_spread_told (T : Txt K mg) : Has P w K mg base "_law_spread_told" s_law_spread_told ["way", "kinds", "answers"] 7 [] m_law_spread_told := by
  have S := sc_law_spread_told
  refine has_mk T.a_law_spread_told S (fun _ _ _ _ _ _ us hl => match us, hl with | [_, _, _], _ => rfl) ?_
  intro f cdv A outer s H E hr
  have hx : ∀ σ, PassesAt (L2.CX P w) (cxOf (L2.CX P w) P w K mg base N_law_spread_told "_law_spread_told" (defScope s_law_spread_told) f cdv A outer s H E) σ (WE (fun cls d _ H => E cls d H) σ) := passAt (takes_of rfl rfl rfl rfl)
  have hp : PassesOwn (model P w) (cxOf (L2.CX P w) P w K mg base N_law_spread_told "_law_spread_told" (defScope s_law_spread_told) f cdv A outer s H E).A (cxOf (L2.CX P w) P w K mg base N_law_spread_told "_law_spread_told" (defScope s_law_spread_told) f cdv A outer s H E).env (cxOf (L2.CX P w) P w K mg base N_law_spread_told "_law_spread_told" (defScope s_law_spread_told) f cdv A outer s H E).xe := passes_of rfl
  have H_spread := ok_spread (P := P) (w := w) (base := base) T
  show XSs _ _ _ _ _
  refine xss_cons ?_ ?_
  · refine xs_set 3 S.nd ?_ (hR := by decide) (hi := by rfl) (hx := by first | exact Or.inl rfl | exact Or.inr rfl) (hs := by rfl) (hf := by first | exact .inl rfl | exact .inr rfl | assumption)
    refine xe_if ?_ ?_ ?_
    · refine xt_cmp (op_eqX hr.units) so_eq ?_ ?_ (nomark _)
      · exact xo_var 0 (hN := by rfl) (hv := by first | exact Or.inl rfl | exact Or.inr (Or.inl rfl) | exact Or.inr (Or.inr rfl)) (hd := by decide) (hcd := by decide)
      refine xo_val ?_
      exact xe_int
    · refine xe_t call_tuple_of sc_tuple (by rfl) T.z_tuple PyProof.Rows.boot_tuple ?_ (hn := by decide) (hdb := by decide) (he := by rfl) (hpl := by rfl)
      refine xa_cons ?_ ?_ (hs := by rfl)
      · exact xo_var 2 (hN := by rfl) (hv := by first | exact Or.inl rfl | exact Or.inr (Or.inl rfl) | exact Or.inr (Or.inr rfl)) (hd := by decide) (hcd := by decide)
      exact xa_nil
    exact xe_var 2 (hi := by decide) (hN := by rfl) (hv := by first | exact Or.inl rfl | exact Or.inr (Or.inl rfl) | exact Or.inr (Or.inr rfl)) (hd := by decide) (hcd := by decide)
  refine xss_one ?_
  refine xs_ret ?_
  refine xe_if ?_ ?_ ?_
  · refine xt_cmp op_gt so_gt ?_ ?_ (nomark _)
    · exact xo_var 0 (hN := by rfl) (hv := by first | exact Or.inl rfl | exact Or.inr (Or.inl rfl) | exact Or.inr (Or.inr rfl)) (hd := by decide) (hcd := by decide)
    refine xo_val ?_
    exact xe_int
  · refine xe_callKH0 (ps := ["kinds", "answers"]) H_spread (hr.mono (by decide)) (by rfl) hx (ks := ["answers", "kinds"]) (pm := [1, 0]) (fun _ _ _ _ _ _ us ws hu hw => match us, ws, hu, hw with | [], [_, _], _, _ => ⟨rfl, rfl⟩) ?_ (hall := by rfl) (hks := by rfl) (hdb := by decide) (hpl := by rfl)
    refine xk_cons ?_ ?_
    · refine xo_val ?_
      exact xe_var 3 (hi := by decide) (hN := by rfl) (hv := by first | exact Or.inl rfl | exact Or.inr (Or.inl rfl) | exact Or.inr (Or.inr rfl)) (hd := by decide) (hcd := by decide)
    refine xk_cons ?_ ?_
    · refine xo_val ?_
      exact xe_var 1 (hi := by decide) (hN := by rfl) (hv := by first | exact Or.inl rfl | exact Or.inr (Or.inl rfl) | exact Or.inr (Or.inr rfl)) (hd := by decide) (hcd := by decide)
    exact xk_nil
  refine xe_callH (ps := ["kinds", "answers"]) H_spread (hr.mono (by decide)) (by rfl) hx ?_ (hdb := by decide) (he := by rfl) (hpl := by rfl)
  refine xa_cons ?_ ?_ (hs := by rfl)
  · refine xo_val ?_
    exact xe_var 1 (hi := by decide) (hN := by rfl) (hv := by first | exact Or.inl rfl | exact Or.inr (Or.inl rfl) | exact Or.inr (Or.inr rfl)) (hd := by decide) (hcd := by decide)
  refine xa_cons ?_ ?_ (hs := by rfl)
  · refine xo_val ?_
    exact xe_var 3 (hi := by decide) (hN := by rfl) (hv := by first | exact Or.inl rfl | exact Or.inr (Or.inl rfl) | exact Or.inr (Or.inr rfl)) (hd := by decide) (hcd := by decide)
  exact xa_nil
theorem sc_law_line_right : FnScope N_law_line_right ["kinds", "answers", "number"] (defScope s_law_line_right) := ⟨rfl, rfl, rfl, by decide +kernel, rfl, by decide +kernel, by decide +kernel⟩
theorem ok_law_line_right (T : Txt K mg) : Has P w K mg base "_law_line_right" s_law_line_right ["kinds", "answers", "number"] 6 [] m_law_line_right := by
  have S := sc_law_line_right
  refine has_mk T.a_law_line_right S (fun _ _ _ _ _ _ us hl => match us, hl with | [_, _, _], _ => rfl) ?_
  intro f cdv A outer s H E hr
  have hx : ∀ σ, PassesAt (L2.CX P w) (cxOf (L2.CX P w) P w K mg base N_law_line_right "_law_line_right" (defScope s_law_line_right) f cdv A outer s H E) σ (WE (fun cls d _ H => E cls d H) σ) := passAt (takes_of rfl rfl rfl rfl)
  have hp : PassesOwn (model P w) (cxOf (L2.CX P w) P w K mg base N_law_line_right "_law_line_right" (defScope s_law_line_right) f cdv A outer s H E).A (cxOf (L2.CX P w) P w K mg base N_law_line_right "_law_line_right" (defScope s_law_line_right) f cdv A outer s H E).env (cxOf (L2.CX P w) P w K mg base N_law_line_right "_law_line_right" (defScope s_law_line_right) f cdv A outer s H E).xe := passes_of rfl
  have H_can_tell := ok_can_tell (P := P) (w := w) (base := base) T
  have H_law_same := ok_law_same (P := P) (w := w) (base := base) T 2
  show XSs _ _ _ _ _
  refine xss_cons ?_ ?_
  · refine xs_par2 3 4 (by rfl) S.nd ?_ (hR := by decide) (hi := by rfl) (hj := by rfl) (hij := by decide) (hx := by rfl) (hy := by rfl) (hw := by rfl) (hs := by rfl)
    refine xd_cons ?_ ?_ (hs := by rfl)
    · refine xe_callH (ps := ["row", "own", "other"]) H_can_tell (hr.mono (by decide)) (by rfl) hx ?_ (hdb := by decide) (he := by rfl) (hpl := by rfl)
      refine xa_cons ?_ ?_ (hs := by rfl)
      · refine xo_val ?_
        refine xe_lst ?_
        refine xa_cons ?_ ?_ (hs := by rfl)
        · refine xo_val ?_
          exact xe_var 2 (hi := by decide) (hN := by rfl) (hv := by first | exact Or.inl rfl | exact Or.inr (Or.inl rfl) | exact Or.inr (Or.inr rfl)) (hd := by decide) (hcd := by decide)
        exact xa_nil
      refine xa_cons ?_ ?_ (hs := by rfl)
      · refine xo_val ?_
        exact xe_var 0 (hi := by decide) (hN := by rfl) (hv := by first | exact Or.inl rfl | exact Or.inr (Or.inl rfl) | exact Or.inr (Or.inr rfl)) (hd := by decide) (hcd := by decide)
      refine xa_cons ?_ ?_ (hs := by rfl)
      · refine xo_val ?_
        exact xe_var 1 (hi := by decide) (hN := by rfl) (hv := by first | exact Or.inl rfl | exact Or.inr (Or.inl rfl) | exact Or.inr (Or.inr rfl)) (hd := by decide) (hcd := by decide)
      exact xa_nil
    refine xd_cons ?_ ?_ (hs := by rfl)
    · refine xe_callKH0 (ps := ["row", "own", "other"]) H_can_tell (hr.mono (by decide)) (by rfl) hx (ks := ["other", "own", "row"]) (pm := [2, 1, 0]) (fun _ _ _ _ _ _ us ws hu hw => match us, ws, hu, hw with | [], [_, _, _], _, _ => ⟨rfl, rfl⟩) ?_ (hall := by rfl) (hks := by rfl) (hdb := by decide) (hpl := by rfl)
      refine xk_cons ?_ ?_
      · refine xo_val ?_
        exact xe_var 1 (hi := by decide) (hN := by rfl) (hv := by first | exact Or.inl rfl | exact Or.inr (Or.inl rfl) | exact Or.inr (Or.inr rfl)) (hd := by decide) (hcd := by decide)
      refine xk_cons ?_ ?_
      · refine xo_val ?_
        exact xe_var 0 (hi := by decide) (hN := by rfl) (hv := by first | exact Or.inl rfl | exact Or.inr (Or.inl rfl) | exact Or.inr (Or.inr rfl)) (hd := by decide) (hcd := by decide)
      refine xk_cons ?_ ?_
      · refine xo_val ?_
        refine xe_lst ?_
        refine xa_cons ?_ ?_ (hs := by rfl)
        · refine xo_val ?_
          refine xe_op op_addX so_add ?_ ?_
          · exact xo_var 2 (hN := by rfl) (hv := by first | exact Or.inl rfl | exact Or.inr (Or.inl rfl) | exact Or.inr (Or.inr rfl)) (hd := by decide) (hcd := by decide)
          refine xo_val ?_
          exact xe_int
        exact xa_nil
      exact xk_nil
    exact xd_nil
  refine xss_one ?_
  refine xs_ret ?_
  refine xe_and ?_ ?_
  · refine xe_callH (ps := ["told", "due"]) H_law_same (hr.mono (by decide)) (by rfl) hx ?_ (hdb := by decide) (he := by rfl) (hpl := by rfl)
    refine xa_cons ?_ ?_ (hs := by rfl)
    · refine xo_val ?_
      exact xe_var 3 (hi := by decide) (hN := by rfl) (hv := by first | exact Or.inl rfl | exact Or.inr (Or.inl rfl) | exact Or.inr (Or.inr rfl)) (hd := by decide) (hcd := by decide)
    refine xa_cons ?_ ?_ (hs := by rfl)
    · refine xo_val ?_
      exact xe_bl
    exact xa_nil
  refine xe_one ?_
  refine xe_callH (ps := ["told", "due"]) H_law_same (hr.mono (by decide)) (by rfl) hx ?_ (hdb := by decide) (he := by rfl) (hpl := by rfl)
  refine xa_cons ?_ ?_ (hs := by rfl)
  · refine xo_val ?_
    exact xe_var 4 (hi := by decide) (hN := by rfl) (hv := by first | exact Or.inl rfl | exact Or.inr (Or.inl rfl) | exact Or.inr (Or.inr rfl)) (hd := by decide) (hcd := by decide)
  refine xa_cons ?_ ?_ (hs := by rfl)
  · refine xo_val ?_
    exact xe_bl
  exact xa_nil
theorem sc_law_gather_right : FnScope N_law_gather_right ["box", "best"] (defScope s_law_gather_right) := ⟨rfl, rfl, rfl, by decide +kernel, rfl, by decide +kernel, by decide +kernel⟩
theorem ok_law_gather_right (T : Txt K mg) : Has P w K mg base "_law_gather_right" s_law_gather_right ["box", "best"] 8 [0] m_law_gather_right := by
  have S := sc_law_gather_right
  refine has_mk T.a_law_gather_right S (fun _ _ _ _ _ _ us hl => match us, hl with | [_, _], _ => rfl) ?_
  intro f cdv A outer s H E hr
  have hx : ∀ σ, PassesAt (L2.CX P w) (cxOf (L2.CX P w) P w K mg base N_law_gather_right "_law_gather_right" (defScope s_law_gather_right) f cdv A outer s H E) σ (WE (fun cls d _ H => E cls d H) σ) := passAt (takes_of rfl rfl rfl rfl)
  have hp : PassesOwn (model P w) (cxOf (L2.CX P w) P w K mg base N_law_gather_right "_law_gather_right" (defScope s_law_gather_right) f cdv A outer s H E).A (cxOf (L2.CX P w) P w K mg base N_law_gather_right "_law_gather_right" (defScope s_law_gather_right) f cdv A outer s H E).env (cxOf (L2.CX P w) P w K mg base N_law_gather_right "_law_gather_right" (defScope s_law_gather_right) f cdv A outer s H E).xe := passes_of rfl
  have H_law_take := ok_law_take (P := P) (w := w) (base := base) T
  have H_law_count := ok_law_count (P := P) (w := w) (base := base) T
  have H_law_counts := ok_law_counts (P := P) (w := w) (base := base) T
  have H_law_gather_told := ok_law_gather_told (P := P) (w := w) (base := base) T
  have H_law_same := ok_law_same (P := P) (w := w) (base := base) T 2
  have H_law_line_right := ok_law_line_right (P := P) (w := w) (base := base) T
  show XSs _ _ _ _ _
  refine xss_cons ?_ ?_
  · refine xs_parT [2, 3, 4] (by rfl) ?_ (pgs_cons (pg_name (i := 2) S.nd rfl (by first | exact Or.inl rfl | exact Or.inr rfl)) (pgs_cons (pg_name (i := 3) S.nd rfl (by first | exact Or.inl rfl | exact Or.inr rfl)) (pgs_cons (pg_name (i := 4) S.nd rfl (by first | exact Or.inl rfl | exact Or.inr rfl)) pgs_nil))) (hR := by decide) (hlen := by rfl) (hn := by rfl) (hst := by rfl) (hz := by intro _ _; show _ ≤ 16777216; decide) (hs := by rfl) (hw := by rfl) (hq := by rfl)
    refine xd_cons ?_ ?_ (hs := by rfl)
    · refine xe_callH (ps := ["box", "least"]) H_law_counts (hr.mono (by decide)) (by rfl) hx ?_ (hdb := by decide) (he := by rfl) (hpl := by rfl)
      refine xa_cons ?_ ?_ (hs := by rfl)
      · exact xo_var 0 (hN := by rfl) (hv := by first | exact Or.inl rfl | exact Or.inr (Or.inl rfl) | exact Or.inr (Or.inr rfl)) (hd := by decide) (hcd := by decide)
      refine xa_cons ?_ ?_ (hs := by rfl)
      · refine xo_val ?_
        exact xe_int
      exact xa_nil
    refine xd_cons ?_ ?_ (hs := by rfl)
    · refine xe_callH (ps := ["box", "least"]) H_law_count (hr.mono (by decide)) (by rfl) hx ?_ (hdb := by decide) (he := by rfl) (hpl := by rfl)
      refine xa_cons ?_ ?_ (hs := by rfl)
      · exact xo_var 0 (hN := by rfl) (hv := by first | exact Or.inl rfl | exact Or.inr (Or.inl rfl) | exact Or.inr (Or.inr rfl)) (hd := by decide) (hcd := by decide)
      refine xa_cons ?_ ?_ (hs := by rfl)
      · refine xo_val ?_
        exact xe_int
      exact xa_nil
    refine xd_cons ?_ ?_ (hs := by rfl)
    · refine xe_lst ?_
      refine xa_cons ?_ ?_ (hs := by rfl)
      · refine xo_val ?_
        refine xe_callH (ps := ["box", "many"]) H_law_take (hr.mono (by decide)) (by rfl) hx ?_ (hdb := by decide) (he := by rfl) (hpl := by rfl)
        refine xa_cons ?_ ?_ (hs := by rfl)
        · exact xo_var 0 (hN := by rfl) (hv := by first | exact Or.inl rfl | exact Or.inr (Or.inl rfl) | exact Or.inr (Or.inr rfl)) (hd := by decide) (hcd := by decide)
        refine xa_cons ?_ ?_ (hs := by rfl)
        · refine xo_val ?_
          exact xe_int
        exact xa_nil
      refine xa_cons ?_ ?_ (hs := by rfl)
      · refine xo_val ?_
        refine xe_callH (ps := ["box", "many"]) H_law_take (hr.mono (by decide)) (by rfl) hx ?_ (hdb := by decide) (he := by rfl) (hpl := by rfl)
        refine xa_cons ?_ ?_ (hs := by rfl)
        · exact xo_var 0 (hN := by rfl) (hv := by first | exact Or.inl rfl | exact Or.inr (Or.inl rfl) | exact Or.inr (Or.inr rfl)) (hd := by decide) (hcd := by decide)
        refine xa_cons ?_ ?_ (hs := by rfl)
        · refine xo_val ?_
          exact xe_int
        exact xa_nil
      exact xa_nil
    exact xd_nil
  refine xss_cons ?_ ?_
  · refine xs_parT [5, 6] (by rfl) ?_ (pgs_cons (pg_name (i := 5) S.nd rfl (by first | exact Or.inl rfl | exact Or.inr rfl)) (pgs_cons (pg_name (i := 6) S.nd rfl (by first | exact Or.inl rfl | exact Or.inr rfl)) pgs_nil)) (hR := by decide) (hlen := by rfl) (hn := by rfl) (hst := by rfl) (hz := by intro _ _; show _ ≤ 16777216; decide) (hs := by rfl) (hw := by rfl) (hq := by rfl)
    refine xd_cons ?_ ?_ (hs := by rfl)
    · refine xe_callH (ps := ["box", "many"]) H_law_take (hr.mono (by decide)) (by rfl) hx ?_ (hdb := by decide) (he := by rfl) (hpl := by rfl)
      refine xa_cons ?_ ?_ (hs := by rfl)
      · exact xo_var 0 (hN := by rfl) (hv := by first | exact Or.inl rfl | exact Or.inr (Or.inl rfl) | exact Or.inr (Or.inr rfl)) (hd := by decide) (hcd := by decide)
      refine xa_cons ?_ ?_ (hs := by rfl)
      · refine xo_val ?_
        refine xe_b call_lenX sc_len (by rfl) T.z_len PySem.boot_len ?_ (hn := by decide) (hdb := by decide) (he := by rfl) (hpl := by rfl)
        refine xa_cons ?_ ?_ (hs := by rfl)
        · exact xo_var 2 (hN := by rfl) (hv := by first | exact Or.inl rfl | exact Or.inr (Or.inl rfl) | exact Or.inr (Or.inr rfl)) (hd := by decide) (hcd := by decide)
        exact xa_nil
      exact xa_nil
    refine xd_cons ?_ ?_ (hs := by rfl)
    · refine xe_callH (ps := ["box", "least"]) H_law_count (hr.mono (by decide)) (by rfl) hx ?_ (hdb := by decide) (he := by rfl) (hpl := by rfl)
      refine xa_cons ?_ ?_ (hs := by rfl)
      · exact xo_var 0 (hN := by rfl) (hv := by first | exact Or.inl rfl | exact Or.inr (Or.inl rfl) | exact Or.inr (Or.inr rfl)) (hd := by decide) (hcd := by decide)
      refine xa_cons ?_ ?_ (hs := by rfl)
      · refine xo_val ?_
        exact xe_int
      exact xa_nil
    exact xd_nil
  refine xss_cons ?_ ?_
  · refine xs_set 7 S.nd ?_ (hR := by decide) (hi := by rfl) (hx := by first | exact Or.inl rfl | exact Or.inr rfl) (hs := by rfl) (hf := by first | exact .inl rfl | exact .inr rfl | assumption)
    refine xe_t call_tuple_of sc_tuple (by rfl) T.z_tuple PyProof.Rows.boot_tuple ?_ (hn := by decide) (hdb := by decide) (he := by rfl) (hpl := by rfl)
    refine xa_cons ?_ ?_ (hs := by rfl)
    · refine xo_val ?_
      refine xe_lc (own := [("one", 10)]) (gs := [10]) (by rfl) S.nd ?_ (blkOk_by (N := N_law_gather_right) (sc := defScope s_law_gather_right) (own := [("one", 10)]) (by decide +kernel)) ?_ ?_ ?_ (hR := by decide) (hgs := by decide) (hs := by intro _; rfl)
      · refine xi_sq ?_
        exact xe_var 2 (hi := by decide) (hN := by rfl) (hv := by first | exact Or.inl rfl | exact Or.inr (Or.inl rfl) | exact Or.inr (Or.inr rfl)) (hd := by decide) (hcd := by decide)
      · intro _ _ _ _ _
        exact xg_name 10 S.nd (hR := by decide) (hi := by rfl) (hx := by first | exact Or.inl rfl | exact Or.inr rfl) (hf := by first | exact .inl rfl | exact .inr rfl | assumption)
      · intro _ _ _ _ _
        exact xts_nil
      intro _ _ _ _ _
      refine xe_ix ?_ ?_ (hs := by intro _ _; rfl)
      · refine xo_val ?_
        refine xe_ix ?_ ?_ (hs := by intro _ _; rfl)
        · exact xo_var 1 (hN := by rfl) (hv := by first | exact Or.inl rfl | exact Or.inr (Or.inl rfl) | exact Or.inr (Or.inr rfl)) (hd := by decide) (hcd := by decide)
        refine xo_val ?_
        refine xe_op op_addX so_add ?_ ?_
        · exact xo_var 3 (hN := by rfl) (hv := by first | exact Or.inl rfl | exact Or.inr (Or.inl rfl) | exact Or.inr (Or.inr rfl)) (hd := by decide) (hcd := by decide)
        refine xo_val ?_
        exact xe_int
      exact xo_var 10 (hN := by rfl) (hv := by first | exact Or.inl rfl | exact Or.inr (Or.inl rfl) | exact Or.inr (Or.inr rfl)) (hd := by decide) (hcd := by decide)
    exact xa_nil
  refine xss_cons ?_ ?_
  · refine xs_set 8 S.nd ?_ (hR := by decide) (hi := by rfl) (hx := by first | exact Or.inl rfl | exact Or.inr rfl) (hs := by rfl) (hf := by first | exact .inl rfl | exact .inr rfl | assumption)
    refine xe_t call_list_of sc_list (by rfl) T.z_list PyProof.Rows.boot_list ?_ (hn := by decide) (hdb := by decide) (he := by rfl) (hpl := by rfl)
    refine xa_cons ?_ ?_ (hs := by rfl)
    · exact xo_var 2 (hN := by rfl) (hv := by first | exact Or.inl rfl | exact Or.inr (Or.inl rfl) | exact Or.inr (Or.inr rfl)) (hd := by decide) (hcd := by decide)
    exact xa_nil
  refine xss_cons ?_ ?_
  · refine xs_set 9 S.nd ?_ (hR := by decide) (hi := by rfl) (hx := by first | exact Or.inl rfl | exact Or.inr rfl) (hs := by rfl) (hf := by first | exact .inl rfl | exact .inr rfl | assumption)
    refine xe_callHB (ps := ["way", "kinds", "answers"]) H_law_gather_told (hr.mono (by decide)) (by rfl) hx ?_ (hdb := by decide) (he := by rfl) (hpl := by rfl)
    refine xa_cons ?_ ?_ (hs := by rfl)
    · refine xo_val ?_
      refine xe_ix ?_ ?_ (hs := by intro _ _; rfl)
      · exact xo_var 4 (hN := by rfl) (hv := by first | exact Or.inl rfl | exact Or.inr (Or.inl rfl) | exact Or.inr (Or.inr rfl)) (hd := by decide) (hcd := by decide)
      refine xo_val ?_
      exact xe_int
    refine xa_cons ?_ ?_ (hs := by rfl)
    · exact xo_var 8 (hN := by rfl) (hv := by first | exact Or.inl rfl | exact Or.inr (Or.inl rfl) | exact Or.inr (Or.inr rfl)) (hd := by decide) (hcd := by decide)
    refine xa_cons ?_ ?_ (hs := by rfl)
    · exact xo_var 3 (hN := by rfl) (hv := by first | exact Or.inl rfl | exact Or.inr (Or.inl rfl) | exact Or.inr (Or.inr rfl)) (hd := by decide) (hcd := by decide)
    exact xa_nil
  refine xss_cons ?_ ?_
  · refine xs_if ?_ ?_ ?_
    · refine xw_dt ?_
      refine xw_or ?_ ?_
      · refine xt_not ?_
        refine xt_truth ?_ (he := by intro _; rfl)
        refine xo_val ?_
        refine xe_callH (ps := ["told", "due"]) H_law_same (hr.mono (by decide)) (by rfl) hx ?_ (hdb := by decide) (he := by rfl) (hpl := by rfl)
        refine xa_cons ?_ ?_ (hs := by rfl)
        · refine xo_val ?_
          exact xe_var 9 (hi := by decide) (hN := by rfl) (hv := by first | exact Or.inl rfl | exact Or.inr (Or.inl rfl) | exact Or.inr (Or.inr rfl)) (hd := by decide) (hcd := by decide)
        refine xa_cons ?_ ?_ (hs := by rfl)
        · refine xo_val ?_
          exact xe_var 7 (hi := by decide) (hN := by rfl) (hv := by first | exact Or.inl rfl | exact Or.inr (Or.inl rfl) | exact Or.inr (Or.inr rfl)) (hd := by decide) (hcd := by decide)
        exact xa_nil
      refine xw_or1 ?_
      refine xt_cmp (op_neX hr.units) so_ne ?_ ?_ (nomark _)
      · exact xo_var 8 (hN := by rfl) (hv := by first | exact Or.inl rfl | exact Or.inr (Or.inl rfl) | exact Or.inr (Or.inr rfl)) (hd := by decide) (hcd := by decide)
      exact xo_var 2 (hN := by rfl) (hv := by first | exact Or.inl rfl | exact Or.inr (Or.inl rfl) | exact Or.inr (Or.inr rfl)) (hd := by decide) (hcd := by decide)
    · refine xss_one ?_
      refine xs_ret ?_
      exact xe_bl
    exact xss_nil
  refine xss_cons ?_ ?_
  · refine xs_setIx 8 ?_ ?_ (hN := by rfl) (hv := by first | exact Or.inl rfl | exact Or.inr (Or.inl rfl) | exact Or.inr (Or.inr rfl)) (hd := by decide) (hcd := by decide) (hs := by rfl) (hw := by rfl) (hq := by rfl) (hsub := by intro _; rfl)
    · refine xo_val ?_
      refine xe_op op_sub so_sub ?_ ?_
      · refine xo_val ?_
        exact xe_int
      refine xo_val ?_
      refine xe_ix ?_ ?_ (hs := by intro _ _; rfl)
      · exact xo_var 8 (hN := by rfl) (hv := by first | exact Or.inl rfl | exact Or.inr (Or.inl rfl) | exact Or.inr (Or.inr rfl)) (hd := by decide) (hcd := by decide)
      refine xo_val ?_
      exact xe_int
    refine xo_val ?_
    exact xe_int
  refine xss_cons ?_ ?_
  · refine xs_if ?_ ?_ ?_
    · refine xt_not ?_
      refine xt_truth ?_ (he := by intro _; rfl)
      refine xo_val ?_
      refine xe_callH (ps := ["told", "due"]) H_law_same (hr.mono (by decide)) (by rfl) hx ?_ (hdb := by decide) (he := by rfl) (hpl := by rfl)
      refine xa_cons ?_ ?_ (hs := by rfl)
      · refine xo_val ?_
        refine xe_callHB (ps := ["way", "kinds", "answers"]) H_law_gather_told (hr.mono (by decide)) (by rfl) hx ?_ (hdb := by decide) (he := by rfl) (hpl := by rfl)
        refine xa_cons ?_ ?_ (hs := by rfl)
        · refine xo_val ?_
          refine xe_ix ?_ ?_ (hs := by intro _ _; rfl)
          · exact xo_var 4 (hN := by rfl) (hv := by first | exact Or.inl rfl | exact Or.inr (Or.inl rfl) | exact Or.inr (Or.inr rfl)) (hd := by decide) (hcd := by decide)
          refine xo_val ?_
          exact xe_int
        refine xa_cons ?_ ?_ (hs := by rfl)
        · exact xo_var 8 (hN := by rfl) (hv := by first | exact Or.inl rfl | exact Or.inr (Or.inl rfl) | exact Or.inr (Or.inr rfl)) (hd := by decide) (hcd := by decide)
        refine xa_cons ?_ ?_ (hs := by rfl)
        · exact xo_var 6 (hN := by rfl) (hv := by first | exact Or.inl rfl | exact Or.inr (Or.inl rfl) | exact Or.inr (Or.inr rfl)) (hd := by decide) (hcd := by decide)
        exact xa_nil
      refine xa_cons ?_ ?_ (hs := by rfl)
      · refine xo_val ?_
        refine xe_t call_tuple_of sc_tuple (by rfl) T.z_tuple PyProof.Rows.boot_tuple ?_ (hn := by decide) (hdb := by decide) (he := by rfl) (hpl := by rfl)
        refine xa_cons ?_ ?_ (hs := by rfl)
        · refine xo_val ?_
          refine xe_lc (own := [("one", 10)]) (gs := [10]) (by rfl) S.nd ?_ (blkOk_by (N := N_law_gather_right) (sc := defScope s_law_gather_right) (own := [("one", 10)]) (by decide +kernel)) ?_ ?_ ?_ (hR := by decide) (hgs := by decide) (hs := by intro _; rfl)
          · refine xi_sq ?_
            exact xe_var 8 (hi := by decide) (hN := by rfl) (hv := by first | exact Or.inl rfl | exact Or.inr (Or.inl rfl) | exact Or.inr (Or.inr rfl)) (hd := by decide) (hcd := by decide)
          · intro _ _ _ _ _
            exact xg_name 10 S.nd (hR := by decide) (hi := by rfl) (hx := by first | exact Or.inl rfl | exact Or.inr rfl) (hf := by first | exact .inl rfl | exact .inr rfl | assumption)
          · intro _ _ _ _ _
            exact xts_nil
          intro _ _ _ _ _
          refine xe_ix ?_ ?_ (hs := by intro _ _; rfl)
          · refine xo_val ?_
            refine xe_ix ?_ ?_ (hs := by intro _ _; rfl)
            · exact xo_var 1 (hN := by rfl) (hv := by first | exact Or.inl rfl | exact Or.inr (Or.inl rfl) | exact Or.inr (Or.inr rfl)) (hd := by decide) (hcd := by decide)
            refine xo_val ?_
            refine xe_op op_addX so_add ?_ ?_
            · exact xo_var 6 (hN := by rfl) (hv := by first | exact Or.inl rfl | exact Or.inr (Or.inl rfl) | exact Or.inr (Or.inr rfl)) (hd := by decide) (hcd := by decide)
            refine xo_val ?_
            exact xe_int
          exact xo_var 10 (hN := by rfl) (hv := by first | exact Or.inl rfl | exact Or.inr (Or.inl rfl) | exact Or.inr (Or.inr rfl)) (hd := by decide) (hcd := by decide)
        exact xa_nil
      exact xa_nil
    · refine xss_one ?_
      refine xs_ret ?_
      exact xe_bl
    exact xss_nil
  refine xss_cons ?_ ?_
  · refine xs_if ?_ ?_ ?_
    · refine xt_not ?_
      refine xt_truth ?_ (he := by intro _; rfl)
      refine xo_val ?_
      refine xe_callH (ps := ["told", "due"]) H_law_same (hr.mono (by decide)) (by rfl) hx ?_ (hdb := by decide) (he := by rfl) (hpl := by rfl)
      refine xa_cons ?_ ?_ (hs := by rfl)
      · refine xo_val ?_
        refine xe_callHB (ps := ["way", "kinds", "answers"]) H_law_gather_told (hr.mono (by decide)) (by rfl) hx ?_ (hdb := by decide) (he := by rfl) (hpl := by rfl)
        refine xa_cons ?_ ?_ (hs := by rfl)
        · refine xo_val ?_
          refine xe_ix ?_ ?_ (hs := by intro _ _; rfl)
          · exact xo_var 4 (hN := by rfl) (hv := by first | exact Or.inl rfl | exact Or.inr (Or.inl rfl) | exact Or.inr (Or.inr rfl)) (hd := by decide) (hcd := by decide)
          refine xo_val ?_
          exact xe_int
        refine xa_cons ?_ ?_ (hs := by rfl)
        · refine xo_val ?_
          refine xe_t call_list_of sc_list (by rfl) T.z_list PyProof.Rows.boot_list ?_ (hn := by decide) (hdb := by decide) (he := by rfl) (hpl := by rfl)
          refine xa_cons ?_ ?_ (hs := by rfl)
          · exact xo_var 2 (hN := by rfl) (hv := by first | exact Or.inl rfl | exact Or.inr (Or.inl rfl) | exact Or.inr (Or.inr rfl)) (hd := by decide) (hcd := by decide)
          exact xa_nil
        refine xa_cons ?_ ?_ (hs := by rfl)
        · exact xo_var 3 (hN := by rfl) (hv := by first | exact Or.inl rfl | exact Or.inr (Or.inl rfl) | exact Or.inr (Or.inr rfl)) (hd := by decide) (hcd := by decide)
        exact xa_nil
      refine xa_cons ?_ ?_ (hs := by rfl)
      · refine xo_val ?_
        exact xe_var 7 (hi := by decide) (hN := by rfl) (hv := by first | exact Or.inl rfl | exact Or.inr (Or.inl rfl) | exact Or.inr (Or.inr rfl)) (hd := by decide) (hcd := by decide)
      exact xa_nil
    · refine xss_one ?_
      refine xs_ret ?_
      exact xe_bl
    exact xss_nil
  refine xss_one ?_
  refine xs_ret ?_
  refine xe_callH (ps := ["kinds", "answers", "number"]) H_law_line_right (hr.mono (by decide)) (by rfl) hx ?_ (hdb := by decide) (he := by rfl) (hpl := by rfl)
  refine xa_cons ?_ ?_ (hs := by rfl)
  · refine xo_val ?_
    refine xe_ix ?_ ?_ (hs := by intro _ _; rfl)
    · exact xo_var 2 (hN := by rfl) (hv := by first | exact Or.inl rfl | exact Or.inr (Or.inl rfl) | exact Or.inr (Or.inr rfl)) (hd := by decide) (hcd := by decide)
    exact xo_var 5 (hN := by rfl) (hv := by first | exact Or.inl rfl | exact Or.inr (Or.inl rfl) | exact Or.inr (Or.inr rfl)) (hd := by decide) (hcd := by decide)
  refine xa_cons ?_ ?_ (hs := by rfl)
  · refine xo_val ?_
    exact xe_var 3 (hi := by decide) (hN := by rfl) (hv := by first | exact Or.inl rfl | exact Or.inr (Or.inl rfl) | exact Or.inr (Or.inr rfl)) (hd := by decide) (hcd := by decide)
  refine xa_cons ?_ ?_ (hs := by rfl)
  · refine xo_val ?_
    refine xe_ix ?_ ?_ (hs := by intro _ _; rfl)
    · exact xo_var 7 (hN := by rfl) (hv := by first | exact Or.inl rfl | exact Or.inr (Or.inl rfl) | exact Or.inr (Or.inr rfl)) (hd := by decide) (hcd := by decide)
    exact xo_var 5 (hN := by rfl) (hv := by first | exact Or.inl rfl | exact Or.inr (Or.inl rfl) | exact Or.inr (Or.inr rfl)) (hd := by decide) (hcd := by decide)
  exact xa_nil
theorem sc_law_spread_right : FnScope N_law_spread_right ["box", "best"] (defScope s_law_spread_right) := ⟨rfl, rfl, rfl, by decide +kernel, rfl, by decide +kernel, by decide +kernel⟩
theorem ok_law_spread_right (T : Txt K mg) : Has P w K mg base "_law_spread_right" s_law_spread_right ["box", "best"] 8 [0] m_law_spread_right := by
  have S := sc_law_spread_right
  refine has_mk T.a_law_spread_right S (fun _ _ _ _ _ _ us hl => match us, hl with | [_, _], _ => rfl) ?_
  intro f cdv A outer s H E hr
  have hx : ∀ σ, PassesAt (L2.CX P w) (cxOf (L2.CX P w) P w K mg base N_law_spread_right "_law_spread_right" (defScope s_law_spread_right) f cdv A outer s H E) σ (WE (fun cls d _ H => E cls d H) σ) := passAt (takes_of rfl rfl rfl rfl)
  have hp : PassesOwn (model P w) (cxOf (L2.CX P w) P w K mg base N_law_spread_right "_law_spread_right" (defScope s_law_spread_right) f cdv A outer s H E).A (cxOf (L2.CX P w) P w K mg base N_law_spread_right "_law_spread_right" (defScope s_law_spread_right) f cdv A outer s H E).env (cxOf (L2.CX P w) P w K mg base N_law_spread_right "_law_spread_right" (defScope s_law_spread_right) f cdv A outer s H E).xe := passes_of rfl
  have H_law_take := ok_law_take (P := P) (w := w) (base := base) T
  have H_law_counts := ok_law_counts (P := P) (w := w) (base := base) T
  have H_law_count := ok_law_count (P := P) (w := w) (base := base) T
  have H_law_spread_told := ok_law_spread_told (P := P) (w := w) (base := base) T
  have H_law_same := ok_law_same (P := P) (w := w) (base := base) T 2
  have H_law_line_right := ok_law_line_right (P := P) (w := w) (base := base) T
  show XSs _ _ _ _ _
  refine xss_cons ?_ ?_
  · refine xs_par3 2 3 4 (by rfl) S.nd ?_ (hR := by decide) (hi := by rfl) (hj := by rfl) (hl := by rfl) (hij := by decide) (hil := by decide) (hjl := by decide) (hx := by rfl) (hy := by rfl) (hz := by rfl) (hw := by rfl) (hs := by rfl)
    refine xd_cons ?_ ?_ (hs := by rfl)
    · refine xe_callH (ps := ["box", "least"]) H_law_count (hr.mono (by decide)) (by rfl) hx ?_ (hdb := by decide) (he := by rfl) (hpl := by rfl)
      refine xa_cons ?_ ?_ (hs := by rfl)
      · exact xo_var 0 (hN := by rfl) (hv := by first | exact Or.inl rfl | exact Or.inr (Or.inl rfl) | exact Or.inr (Or.inr rfl)) (hd := by decide) (hcd := by decide)
      refine xa_cons ?_ ?_ (hs := by rfl)
      · refine xo_val ?_
        exact xe_int
      exact xa_nil
    refine xd_cons ?_ ?_ (hs := by rfl)
    · refine xe_callH (ps := ["box", "least"]) H_law_counts (hr.mono (by decide)) (by rfl) hx ?_ (hdb := by decide) (he := by rfl) (hpl := by rfl)
      refine xa_cons ?_ ?_ (hs := by rfl)
      · exact xo_var 0 (hN := by rfl) (hv := by first | exact Or.inl rfl | exact Or.inr (Or.inl rfl) | exact Or.inr (Or.inr rfl)) (hd := by decide) (hcd := by decide)
      refine xa_cons ?_ ?_ (hs := by rfl)
      · refine xo_val ?_
        exact xe_int
      exact xa_nil
    refine xd_cons ?_ ?_ (hs := by rfl)
    · refine xe_lst ?_
      refine xa_cons ?_ ?_ (hs := by rfl)
      · refine xo_val ?_
        refine xe_callH (ps := ["box", "many"]) H_law_take (hr.mono (by decide)) (by rfl) hx ?_ (hdb := by decide) (he := by rfl) (hpl := by rfl)
        refine xa_cons ?_ ?_ (hs := by rfl)
        · exact xo_var 0 (hN := by rfl) (hv := by first | exact Or.inl rfl | exact Or.inr (Or.inl rfl) | exact Or.inr (Or.inr rfl)) (hd := by decide) (hcd := by decide)
        refine xa_cons ?_ ?_ (hs := by rfl)
        · refine xo_val ?_
          exact xe_int
        exact xa_nil
      refine xa_cons ?_ ?_ (hs := by rfl)
      · refine xo_val ?_
        refine xe_callH (ps := ["box", "many"]) H_law_take (hr.mono (by decide)) (by rfl) hx ?_ (hdb := by decide) (he := by rfl) (hpl := by rfl)
        refine xa_cons ?_ ?_ (hs := by rfl)
        · exact xo_var 0 (hN := by rfl) (hv := by first | exact Or.inl rfl | exact Or.inr (Or.inl rfl) | exact Or.inr (Or.inr rfl)) (hd := by decide) (hcd := by decide)
        refine xa_cons ?_ ?_ (hs := by rfl)
        · refine xo_val ?_
          exact xe_int
        exact xa_nil
      exact xa_nil
    exact xd_nil
  refine xss_cons ?_ ?_
  · refine xs_set 5 S.nd ?_ (hR := by decide) (hi := by rfl) (hx := by first | exact Or.inl rfl | exact Or.inr rfl) (hs := by rfl) (hf := by first | exact .inl rfl | exact .inr rfl | assumption)
    refine xe_callH (ps := ["box", "least"]) H_law_count (hr.mono (by decide)) (by rfl) hx ?_ (hdb := by decide) (he := by rfl) (hpl := by rfl)
    refine xa_cons ?_ ?_ (hs := by rfl)
    · exact xo_var 0 (hN := by rfl) (hv := by first | exact Or.inl rfl | exact Or.inr (Or.inl rfl) | exact Or.inr (Or.inr rfl)) (hd := by decide) (hcd := by decide)
    refine xa_cons ?_ ?_ (hs := by rfl)
    · refine xo_val ?_
      exact xe_int
    exact xa_nil
  refine xss_cons ?_ ?_
  · refine xs_set 6 S.nd ?_ (hR := by decide) (hi := by rfl) (hx := by first | exact Or.inl rfl | exact Or.inr rfl) (hs := by rfl) (hf := by first | exact .inl rfl | exact .inr rfl | assumption)
    refine xe_ix ?_ ?_ (hs := by intro _ _; rfl)
    · refine xo_val ?_
      refine xe_ix ?_ ?_ (hs := by intro _ _; rfl)
      · exact xo_var 1 (hN := by rfl) (hv := by first | exact Or.inl rfl | exact Or.inr (Or.inl rfl) | exact Or.inr (Or.inr rfl)) (hd := by decide) (hcd := by decide)
      refine xo_val ?_
      refine xe_op op_addX so_add ?_ ?_
      · refine xo_val ?_
        refine xe_zmin (by rfl) (by rfl) T.z_min ?_ (he := by rfl) (hpl := by rfl)
        refine xa_cons ?_ ?_ (hs := by rfl)
        · exact xo_var 3 (hN := by rfl) (hv := by first | exact Or.inl rfl | exact Or.inr (Or.inl rfl) | exact Or.inr (Or.inr rfl)) (hd := by decide) (hcd := by decide)
        exact xa_nil
      refine xo_val ?_
      exact xe_int
    exact xo_var 2 (hN := by rfl) (hv := by first | exact Or.inl rfl | exact Or.inr (Or.inl rfl) | exact Or.inr (Or.inr rfl)) (hd := by decide) (hcd := by decide)
  refine xss_cons ?_ ?_
  · refine xs_set 7 S.nd ?_ (hR := by decide) (hi := by rfl) (hx := by first | exact Or.inl rfl | exact Or.inr rfl) (hs := by rfl) (hf := by first | exact .inl rfl | exact .inr rfl | assumption)
    refine xe_t call_list_of sc_list (by rfl) T.z_list PyProof.Rows.boot_list ?_ (hn := by decide) (hdb := by decide) (he := by rfl) (hpl := by rfl)
    refine xa_cons ?_ ?_ (hs := by rfl)
    · exact xo_var 3 (hN := by rfl) (hv := by first | exact Or.inl rfl | exact Or.inr (Or.inl rfl) | exact Or.inr (Or.inr rfl)) (hd := by decide) (hcd := by decide)
    exact xa_nil
  refine xss_cons ?_ ?_
  · refine xs_set 8 S.nd ?_ (hR := by decide) (hi := by rfl) (hx := by first | exact Or.inl rfl | exact Or.inr rfl) (hs := by rfl) (hf := by first | exact .inl rfl | exact .inr rfl | assumption)
    refine xe_callHB (ps := ["way", "kinds", "answers"]) H_law_spread_told (hr.mono (by decide)) (by rfl) hx ?_ (hdb := by decide) (he := by rfl) (hpl := by rfl)
    refine xa_cons ?_ ?_ (hs := by rfl)
    · refine xo_val ?_
      refine xe_ix ?_ ?_ (hs := by intro _ _; rfl)
      · exact xo_var 4 (hN := by rfl) (hv := by first | exact Or.inl rfl | exact Or.inr (Or.inl rfl) | exact Or.inr (Or.inr rfl)) (hd := by decide) (hcd := by decide)
      refine xo_val ?_
      exact xe_int
    refine xa_cons ?_ ?_ (hs := by rfl)
    · exact xo_var 2 (hN := by rfl) (hv := by first | exact Or.inl rfl | exact Or.inr (Or.inl rfl) | exact Or.inr (Or.inr rfl)) (hd := by decide) (hcd := by decide)
    refine xa_cons ?_ ?_ (hs := by rfl)
    · exact xo_var 7 (hN := by rfl) (hv := by first | exact Or.inl rfl | exact Or.inr (Or.inl rfl) | exact Or.inr (Or.inr rfl)) (hd := by decide) (hcd := by decide)
    exact xa_nil
  refine xss_cons ?_ ?_
  · refine xs_if ?_ ?_ ?_
    · refine xw_dt ?_
      refine xw_or ?_ ?_
      · refine xt_not ?_
        refine xt_truth ?_ (he := by intro _; rfl)
        refine xo_val ?_
        refine xe_callH (ps := ["told", "due"]) H_law_same (hr.mono (by decide)) (by rfl) hx ?_ (hdb := by decide) (he := by rfl) (hpl := by rfl)
        refine xa_cons ?_ ?_ (hs := by rfl)
        · refine xo_val ?_
          exact xe_var 8 (hi := by decide) (hN := by rfl) (hv := by first | exact Or.inl rfl | exact Or.inr (Or.inl rfl) | exact Or.inr (Or.inr rfl)) (hd := by decide) (hcd := by decide)
        refine xa_cons ?_ ?_ (hs := by rfl)
        · refine xo_val ?_
          exact xe_var 6 (hi := by decide) (hN := by rfl) (hv := by first | exact Or.inl rfl | exact Or.inr (Or.inl rfl) | exact Or.inr (Or.inr rfl)) (hd := by decide) (hcd := by decide)
        exact xa_nil
      refine xw_or1 ?_
      refine xt_cmp (op_neX hr.units) so_ne ?_ ?_ (nomark _)
      · exact xo_var 7 (hN := by rfl) (hv := by first | exact Or.inl rfl | exact Or.inr (Or.inl rfl) | exact Or.inr (Or.inr rfl)) (hd := by decide) (hcd := by decide)
      exact xo_var 3 (hN := by rfl) (hv := by first | exact Or.inl rfl | exact Or.inr (Or.inl rfl) | exact Or.inr (Or.inr rfl)) (hd := by decide) (hcd := by decide)
    · refine xss_one ?_
      refine xs_ret ?_
      exact xe_bl
    exact xss_nil
  refine xss_cons ?_ ?_
  · refine xs_setIx 7 ?_ ?_ (hN := by rfl) (hv := by first | exact Or.inl rfl | exact Or.inr (Or.inl rfl) | exact Or.inr (Or.inr rfl)) (hd := by decide) (hcd := by decide) (hs := by rfl) (hw := by rfl) (hq := by rfl) (hsub := by intro _; rfl)
    · refine xo_val ?_
      refine xe_op op_sub so_sub ?_ ?_
      · refine xo_val ?_
        exact xe_int
      refine xo_val ?_
      refine xe_ix ?_ ?_ (hs := by intro _ _; rfl)
      · exact xo_var 7 (hN := by rfl) (hv := by first | exact Or.inl rfl | exact Or.inr (Or.inl rfl) | exact Or.inr (Or.inr rfl)) (hd := by decide) (hcd := by decide)
      refine xo_val ?_
      exact xe_int
    refine xo_val ?_
    exact xe_int
  refine xss_cons ?_ ?_
  · refine xs_if ?_ ?_ ?_
    · refine xt_not ?_
      refine xt_truth ?_ (he := by intro _; rfl)
      refine xo_val ?_
      refine xe_callH (ps := ["told", "due"]) H_law_same (hr.mono (by decide)) (by rfl) hx ?_ (hdb := by decide) (he := by rfl) (hpl := by rfl)
      refine xa_cons ?_ ?_ (hs := by rfl)
      · refine xo_val ?_
        refine xe_callHB (ps := ["way", "kinds", "answers"]) H_law_spread_told (hr.mono (by decide)) (by rfl) hx ?_ (hdb := by decide) (he := by rfl) (hpl := by rfl)
        refine xa_cons ?_ ?_ (hs := by rfl)
        · refine xo_val ?_
          refine xe_ix ?_ ?_ (hs := by intro _ _; rfl)
          · exact xo_var 4 (hN := by rfl) (hv := by first | exact Or.inl rfl | exact Or.inr (Or.inl rfl) | exact Or.inr (Or.inr rfl)) (hd := by decide) (hcd := by decide)
          refine xo_val ?_
          exact xe_int
        refine xa_cons ?_ ?_ (hs := by rfl)
        · exact xo_var 5 (hN := by rfl) (hv := by first | exact Or.inl rfl | exact Or.inr (Or.inl rfl) | exact Or.inr (Or.inr rfl)) (hd := by decide) (hcd := by decide)
        refine xa_cons ?_ ?_ (hs := by rfl)
        · exact xo_var 7 (hN := by rfl) (hv := by first | exact Or.inl rfl | exact Or.inr (Or.inl rfl) | exact Or.inr (Or.inr rfl)) (hd := by decide) (hcd := by decide)
        exact xa_nil
      refine xa_cons ?_ ?_ (hs := by rfl)
      · refine xo_val ?_
        refine xe_ix ?_ ?_ (hs := by intro _ _; rfl)
        · refine xo_val ?_
          refine xe_ix ?_ ?_ (hs := by intro _ _; rfl)
          · exact xo_var 1 (hN := by rfl) (hv := by first | exact Or.inl rfl | exact Or.inr (Or.inl rfl) | exact Or.inr (Or.inr rfl)) (hd := by decide) (hcd := by decide)
          refine xo_val ?_
          refine xe_op op_addX so_add ?_ ?_
          · refine xo_val ?_
            refine xe_zmin (by rfl) (by rfl) T.z_min ?_ (he := by rfl) (hpl := by rfl)
            refine xa_cons ?_ ?_ (hs := by rfl)
            · exact xo_var 7 (hN := by rfl) (hv := by first | exact Or.inl rfl | exact Or.inr (Or.inl rfl) | exact Or.inr (Or.inr rfl)) (hd := by decide) (hcd := by decide)
            exact xa_nil
          refine xo_val ?_
          exact xe_int
        exact xo_var 5 (hN := by rfl) (hv := by first | exact Or.inl rfl | exact Or.inr (Or.inl rfl) | exact Or.inr (Or.inr rfl)) (hd := by decide) (hcd := by decide)
      exact xa_nil
    · refine xss_one ?_
      refine xs_ret ?_
      exact xe_bl
    exact xss_nil
  refine xss_cons ?_ ?_
  · refine xs_if ?_ ?_ ?_
    · refine xt_not ?_
      refine xt_truth ?_ (he := by intro _; rfl)
      refine xo_val ?_
      refine xe_callH (ps := ["told", "due"]) H_law_same (hr.mono (by decide)) (by rfl) hx ?_ (hdb := by decide) (he := by rfl) (hpl := by rfl)
      refine xa_cons ?_ ?_ (hs := by rfl)
      · refine xo_val ?_
        refine xe_callHB (ps := ["way", "kinds", "answers"]) H_law_spread_told (hr.mono (by decide)) (by rfl) hx ?_ (hdb := by decide) (he := by rfl) (hpl := by rfl)
        refine xa_cons ?_ ?_ (hs := by rfl)
        · refine xo_val ?_
          refine xe_ix ?_ ?_ (hs := by intro _ _; rfl)
          · exact xo_var 4 (hN := by rfl) (hv := by first | exact Or.inl rfl | exact Or.inr (Or.inl rfl) | exact Or.inr (Or.inr rfl)) (hd := by decide) (hcd := by decide)
          refine xo_val ?_
          exact xe_int
        refine xa_cons ?_ ?_ (hs := by rfl)
        · exact xo_var 2 (hN := by rfl) (hv := by first | exact Or.inl rfl | exact Or.inr (Or.inl rfl) | exact Or.inr (Or.inr rfl)) (hd := by decide) (hcd := by decide)
        refine xa_cons ?_ ?_ (hs := by rfl)
        · refine xo_val ?_
          refine xe_t call_list_of sc_list (by rfl) T.z_list PyProof.Rows.boot_list ?_ (hn := by decide) (hdb := by decide) (he := by rfl) (hpl := by rfl)
          refine xa_cons ?_ ?_ (hs := by rfl)
          · exact xo_var 3 (hN := by rfl) (hv := by first | exact Or.inl rfl | exact Or.inr (Or.inl rfl) | exact Or.inr (Or.inr rfl)) (hd := by decide) (hcd := by decide)
          exact xa_nil
        exact xa_nil
      refine xa_cons ?_ ?_ (hs := by rfl)
      · refine xo_val ?_
        exact xe_var 6 (hi := by decide) (hN := by rfl) (hv := by first | exact Or.inl rfl | exact Or.inr (Or.inl rfl) | exact Or.inr (Or.inr rfl)) (hd := by decide) (hcd := by decide)
      exact xa_nil
    · refine xss_one ?_
      refine xs_ret ?_
      exact xe_bl
    exact xss_nil
  refine xss_one ?_
  refine xs_ret ?_
  refine xe_callH (ps := ["kinds", "answers", "number"]) H_law_line_right (hr.mono (by decide)) (by rfl) hx ?_ (hdb := by decide) (he := by rfl) (hpl := by rfl)
  refine xa_cons ?_ ?_ (hs := by rfl)
  · refine xo_val ?_
    exact xe_var 2 (hi := by decide) (hN := by rfl) (hv := by first | exact Or.inl rfl | exact Or.inr (Or.inl rfl) | exact Or.inr (Or.inr rfl)) (hd := by decide) (hcd := by decide)
  refine xa_cons ?_ ?_ (hs := by rfl)
  · refine xo_val ?_
    refine xe_zmin (by rfl) (by rfl) T.z_min ?_ (he := by rfl) (hpl := by rfl)
    refine xa_cons ?_ ?_ (hs := by rfl)
    · exact xo_var 3 (hN := by rfl) (hv := by first | exact Or.inl rfl | exact Or.inr (Or.inl rfl) | exact Or.inr (Or.inr rfl)) (hd := by decide) (hcd := by decide)
    exact xa_nil
  refine xa_cons ?_ ?_ (hs := by rfl)
  · refine xo_val ?_
    exact xe_var 6 (hi := by decide) (hN := by rfl) (hv := by first | exact Or.inl rfl | exact Or.inr (Or.inl rfl) | exact Or.inr (Or.inr rfl)) (hd := by decide) (hcd := by decide)
  exact xa_nil
theorem sc_law : FnScope N_law ["script"] (defScope s_law) := ⟨rfl, rfl, rfl, by decide +kernel, rfl, by decide +kernel, by decide +kernel⟩
theorem ok_law (T : Txt K mg) : Has P w K mg base "law" s_law ["script"] 9 [] m_law := by
  have S := sc_law
  refine has_mk T.a_law S (fun _ _ _ _ _ _ us hl => match us, hl with | [_], _ => rfl) ?_
  intro f cdv A outer s H E hr
  have hx : ∀ σ, PassesAt (L2.CX P w) (cxOf (L2.CX P w) P w K mg base N_law "law" (defScope s_law) f cdv A outer s H E) σ (WE (fun cls d _ H => E cls d H) σ) := passAt (takes_of rfl rfl rfl rfl)
  have hp : PassesOwn (model P w) (cxOf (L2.CX P w) P w K mg base N_law "law" (defScope s_law) f cdv A outer s H E).A (cxOf (L2.CX P w) P w K mg base N_law "law" (defScope s_law) f cdv A outer s H E).env (cxOf (L2.CX P w) P w K mg base N_law "law" (defScope s_law) f cdv A outer s H E).xe := passes_of rfl
  have H_law_parted := ok_law_parted (P := P) (w := w) (base := base) T
  have H_law_box := ok_law_box (P := P) (w := w) (base := base) T
  have H_law_cell := ok_law_cell (P := P) (w := w) (base := base) T
  have H_law_gather_right := ok_law_gather_right (P := P) (w := w) (base := base) T
  have H_law_spread_right := ok_law_spread_right (P := P) (w := w) (base := base) T
  show XSs _ _ _ _ _
  refine xss_cons ?_ ?_
  · refine xs_set 1 S.nd ?_ (hR := by decide) (hi := by rfl) (hx := by first | exact Or.inl rfl | exact Or.inr rfl) (hs := by rfl) (hf := by first | exact .inl rfl | exact .inr rfl | assumption)
    refine xe_callH (ps := ["most", "parts"]) H_law_parted (hr.mono (by decide)) (by rfl) hx ?_ (hdb := by decide) (he := by rfl) (hpl := by rfl)
    refine xa_cons ?_ ?_ (hs := by rfl)
    · refine xo_val ?_
      exact xe_int
    refine xa_cons ?_ ?_ (hs := by rfl)
    · refine xo_val ?_
      exact xe_int
    exact xa_nil
  refine xss_cons ?_ ?_
  · refine xs_for (gs := [2]) hp (by rfl) ?_ ?_ ?_ (hs := by intro _; rfl)
    · refine xi_range1 (by rfl) T.z_range ?_ (hs := by rfl)
      refine xa_cons ?_ ?_ (hs := by rfl)
      · refine xo_val ?_
        refine xe_zmax (by rfl) (by rfl) T.z_max ?_ (he := by rfl) (hpl := by rfl)
        refine xa_cons ?_ ?_ (hs := by rfl)
        · refine xo_val ?_
          exact xe_int
        refine xa_cons ?_ ?_ (hs := by rfl)
        · refine xo_val ?_
          refine xe_zmin (by rfl) (by rfl) T.z_min ?_ (he := by rfl) (hpl := by rfl)
          refine xa_cons ?_ ?_ (hs := by rfl)
          · refine xo_val ?_
            exact xe_int
          refine xa_cons ?_ ?_ (hs := by rfl)
          · refine xo_val ?_
            refine xe_b call_lenX sc_len (by rfl) T.z_len PySem.boot_len ?_ (hn := by decide) (hdb := by decide) (he := by rfl) (hpl := by rfl)
            refine xa_cons ?_ ?_ (hs := by rfl)
            · exact xo_var 0 (hN := by rfl) (hv := by first | exact Or.inl rfl | exact Or.inr (Or.inl rfl) | exact Or.inr (Or.inr rfl)) (hd := by decide) (hcd := by decide)
            exact xa_nil
          exact xa_nil
        exact xa_nil
      exact xa_nil
    · exact xg_name 2 S.nd (hR := by decide) (hi := by rfl) (hx := by first | exact Or.inl rfl | exact Or.inr rfl) (hf := by first | exact .inl rfl | exact .inr rfl | assumption)
    refine xss_cons ?_ ?_
    · refine xs_set 3 S.nd ?_ (hR := by decide) (hi := by rfl) (hx := by first | exact Or.inl rfl | exact Or.inr rfl) (hs := by rfl) (hf := by first | exact .inl rfl | exact .inr rfl | assumption)
      refine xe_callH (ps := ["great"]) H_law_box (hr.mono (by decide)) (by rfl) hx ?_ (hdb := by decide) (he := by rfl) (hpl := by rfl)
      refine xa_cons ?_ ?_ (hs := by rfl)
      · refine xo_val ?_
        refine xe_callH (ps := ["script", "k"]) H_law_cell (hr.mono (by decide)) (by rfl) hx ?_ (hdb := by decide) (he := by rfl) (hpl := by rfl)
        refine xa_cons ?_ ?_ (hs := by rfl)
        · refine xo_val ?_
          exact xe_var 0 (hi := by decide) (hN := by rfl) (hv := by first | exact Or.inl rfl | exact Or.inr (Or.inl rfl) | exact Or.inr (Or.inr rfl)) (hd := by decide) (hcd := by decide)
        refine xa_cons ?_ ?_ (hs := by rfl)
        · refine xo_val ?_
          exact xe_var 2 (hi := by decide) (hN := by rfl) (hv := by first | exact Or.inl rfl | exact Or.inr (Or.inl rfl) | exact Or.inr (Or.inr rfl)) (hd := by decide) (hcd := by decide)
        exact xa_nil
      exact xa_nil
    refine xss_one ?_
    refine xs_if ?_ ?_ ?_
    · refine xw_dt ?_
      refine xw_or ?_ ?_
      · refine xt_not ?_
        refine xt_truth ?_ (he := by intro _; rfl)
        refine xo_val ?_
        refine xe_callH (ps := ["box", "best"]) H_law_gather_right (hr.mono (by decide)) (by rfl) hx ?_ (hdb := by decide) (he := by rfl) (hpl := by rfl)
        refine xa_cons ?_ ?_ (hs := by rfl)
        · exact xo_var 3 (hN := by rfl) (hv := by first | exact Or.inl rfl | exact Or.inr (Or.inl rfl) | exact Or.inr (Or.inr rfl)) (hd := by decide) (hcd := by decide)
        refine xa_cons ?_ ?_ (hs := by rfl)
        · refine xo_val ?_
          exact xe_var 1 (hi := by decide) (hN := by rfl) (hv := by first | exact Or.inl rfl | exact Or.inr (Or.inl rfl) | exact Or.inr (Or.inr rfl)) (hd := by decide) (hcd := by decide)
        exact xa_nil
      refine xw_or1 ?_
      refine xt_not ?_
      refine xt_truth ?_ (he := by intro _; rfl)
      refine xo_val ?_
      refine xe_callH (ps := ["box", "best"]) H_law_spread_right (hr.mono (by decide)) (by rfl) hx ?_ (hdb := by decide) (he := by rfl) (hpl := by rfl)
      refine xa_cons ?_ ?_ (hs := by rfl)
      · exact xo_var 3 (hN := by rfl) (hv := by first | exact Or.inl rfl | exact Or.inr (Or.inl rfl) | exact Or.inr (Or.inr rfl)) (hd := by decide) (hcd := by decide)
      refine xa_cons ?_ ?_ (hs := by rfl)
      · refine xo_val ?_
        exact xe_var 1 (hi := by decide) (hN := by rfl) (hv := by first | exact Or.inl rfl | exact Or.inr (Or.inl rfl) | exact Or.inr (Or.inr rfl)) (hd := by decide) (hcd := by decide)
      exact xa_nil
    · refine xss_one ?_
      refine xs_ret ?_
      exact xe_bl
    exact xss_nil
  refine xss_one ?_
  refine xs_ret ?_
  exact xe_bl
end
end Wk
namespace Wk
open PySem PySem.Spec PyProof.Rows L2 VL
def IsBox (n : Nat) (b : List D) : Prop := ∃ (g : Int) (big : Bool) (m c : Int), b = [.int g, .bl big, .int m, .int c] ∧ 0 ≤ g ∧ 0 ≤ m ∧ m < 2147483629 ∧ 0 ≤ c ∧ c ≤ n
theorem IsBox.mono {n k : Nat} {b : List D} (h : IsBox n b) (e : n ≤ k) : IsBox k b := by
  obtain ⟨g, big, m, c, a1, a2, a3, a4, a5, a6⟩ := h
  exact ⟨g, big, m, c, a1, a2, a3, a4, a5, by omega⟩
theorem take_z {n : Nat} {b : List D} {many : Int} (hb : IsBox n b) (h0 : 0 < many) (h1 : many < 1000) (hn : n < 100000) :
    ∃ d b', z_law_take [.o b, .f (.int many)] = some (.f (.int d), [.o b']) ∧ 0 ≤ d ∧ d < many ∧ IsBox (n + 1) b' := by
  obtain ⟨g, big, m, c, rfl, g0, m0, m1, c0, c1⟩ := hb
  have h2 : many < 1073741824 := by omega
  have p1 : ∀ x : Int, CMul 15486277 x := fun x => .inl ⟨by decide, by decide⟩
  have p2 : ∀ x : Int, CMul x 48271 := fun x => .inr ⟨by decide, by decide⟩
  have p3 : ∀ x : Int, CMul 104729 x := fun x => .inl ⟨by decide, by decide⟩
  have q1 : CPow (m + 15486277 * (c + 1) + 179424673) 5 := ⟨by decide, by decide, by omega⟩
  have q2 : ∀ x : Int, 0 ≤ x → x < 2147483647 → CPow (x * 48271 + 104729 * (c + 1)) 3 := fun x a1 a2 => ⟨by decide, by decide, by omega⟩
  unfold z_law_take
  by_cases hc : big = true ∧ 0 < g
  · obtain ⟨rfl, hg⟩ := hc
    simp [zBody, zSeq, zIfS, zAnd', zOr', zNot', zTru, zOp, zUn, zoVar, zoVal, zB', zCmp, zII, reqz, zC, zVar, zMove, fzz, lookz, D.s, zIx, atI, ixN, truthz, boolz, zSet, zSetIx, zRet, zB, zInt, zaCons, zaNil, lookAllz, allVz, zMod, zFdiv, zPow, zAdd, zMulI, zSub', zNeg, CDiv, isOz, isValz, argIz, outs, zNext, zIf, zPar, zdCons, zdNil, storeAllz, zLst, zTup, zEq, eqS, zIsN, isNonD, zIsB, zNot, zAnd, zOr, zLen, zChain, zIsi, D.ty, isB, isAny, zRetN, zDrop, zAsg, zgTup, zgCons, zgNil, zgName, hg, h0, h2]
    exact ⟨_, _, ⟨rfl, rfl⟩, Int.emod_nonneg _ (by omega), Int.emod_lt_of_pos _ h0, _, _, _, _, rfl, Int.ediv_nonneg g0 (by omega), m0, m1, c0, by omega⟩
  · have hc' : big = true → ¬ 0 < g := fun a b => hc ⟨a, b⟩
    have e1 := Int.emod_nonneg ((m + 15486277 * (c + 1) + 179424673) ^ 5) (show (2147483647 : Int) ≠ 0 by decide)
    have e2 := Int.emod_lt_of_pos ((m + 15486277 * (c + 1) + 179424673) ^ 5) (show (0 : Int) < 2147483647 by decide)
    have q3 := q2 _ e1 e2
    cases big with
    | true =>
      have hg : ¬ 0 < g := hc' rfl
      simp [zBody, zSeq, zIfS, zAnd', zOr', zNot', zTru, zOp, zUn, zoVar, zoVal, zB', zCmp, zII, reqz, zC, zVar, zMove, fzz, lookz, D.s, zIx, atI, ixN, truthz, boolz, zSet, zSetIx, zRet, zB, zInt, zaCons, zaNil, lookAllz, allVz, zMod, zFdiv, zPow, zAdd, zMulI, zSub', zNeg, CDiv, isOz, isValz, argIz, outs, zNext, zIf, zPar, zdCons, zdNil, storeAllz, zLst, zTup, zEq, eqS, zIsN, isNonD, zIsB, zNot, zAnd, zOr, zLen, zChain, zIsi, D.ty, isB, isAny, zRetN, zDrop, zAsg, zgTup, zgCons, zgNil, zgName, hg, h0, h2, p1, p2, p3, q1, q3]
      exact ⟨_, _, ⟨rfl, rfl⟩, Int.emod_nonneg _ (by omega), Int.emod_lt_of_pos _ h0, _, _, _, _, rfl, g0, m0, m1, by omega, by omega⟩
    | false =>
      simp [zBody, zSeq, zIfS, zAnd', zOr', zNot', zTru, zOp, zUn, zoVar, zoVal, zB', zCmp, zII, reqz, zC, zVar, zMove, fzz, lookz, D.s, zIx, atI, ixN, truthz, boolz, zSet, zSetIx, zRet, zB, zInt, zaCons, zaNil, lookAllz, allVz, zMod, zFdiv, zPow, zAdd, zMulI, zSub', zNeg, CDiv, isOz, isValz, argIz, outs, zNext, zIf, zPar, zdCons, zdNil, storeAllz, zLst, zTup, zEq, eqS, zIsN, isNonD, zIsB, zNot, zAnd, zOr, zLen, zChain, zIsi, D.ty, isB, isAny, zRetN, zDrop, zAsg, zgTup, zgCons, zgNil, zgName, h0, h2, p1, p2, p3, q1, q3]
      exact ⟨_, _, ⟨rfl, rfl⟩, Int.emod_nonneg _ (by omega), Int.emod_lt_of_pos _ h0, _, _, _, _, rfl, g0, m0, m1, by omega, by omega⟩
theorem count_z {n : Nat} {b : List D} {least : Int} (hb : IsBox n b) (h0 : 0 ≤ least) (h1 : least ≤ 1) (hn : n < 99990) :
    ∃ v b', z_law_count [.o b, .f (.int least)] = some (.f (.int v), [.o b']) ∧ least ≤ v ∧ v ≤ 8 ∧ IsBox (n + 2) b' := by
  obtain ⟨d1, b1, e1, l1, u1, B1⟩ := take_z (many := 4) hb (by decide) (by decide) (by omega)
  obtain ⟨d2, b2, e2, l2, u2, B2⟩ := take_z (many := 9 - least) B1 (by omega) (by omega) (by omega)
  unfold z_law_count
  by_cases w0 : d1 = 0
  · subst w0
    refine ⟨least, b2, ?_, by omega, by omega, B2⟩
    simp [zBody, zSeq, zIfS, zAnd', zOr', zNot', zTru, zOp, zUn, zoVar, zoVal, zB', zCmp, zII, reqz, zC, zVar, zMove, fzz, lookz, D.s, zIx, atI, ixN, truthz, boolz, zSet, zSetIx, zRet, zB, zInt, zaCons, zaNil, lookAllz, allVz, zMod, zFdiv, zPow, zAdd, zMulI, zSub', zNeg, CDiv, isOz, isValz, argIz, outs, zNext, zIf, zPar, zdCons, zdNil, storeAllz, zLst, zTup, zEq, eqS, zIsN, isNonD, zIsB, zNot, zAnd, zOr, zLen, zChain, zIsi, D.ty, isB, isAny, zRetN, zDrop, zAsg, zgTup, zgCons, zgNil, zgName, zCall, callAz, posA, refsA, ownAll, dvA, setL, DV.own, e1, e2]
  · by_cases w1 : d1 = 1
    · subst w1
      refine ⟨8, b2, ?_, by omega, by omega, B2⟩
      simp [zBody, zSeq, zIfS, zAnd', zOr', zNot', zTru, zOp, zUn, zoVar, zoVal, zB', zCmp, zII, reqz, zC, zVar, zMove, fzz, lookz, D.s, zIx, atI, ixN, truthz, boolz, zSet, zSetIx, zRet, zB, zInt, zaCons, zaNil, lookAllz, allVz, zMod, zFdiv, zPow, zAdd, zMulI, zSub', zNeg, CDiv, isOz, isValz, argIz, outs, zNext, zIf, zPar, zdCons, zdNil, storeAllz, zLst, zTup, zEq, eqS, zIsN, isNonD, zIsB, zNot, zAnd, zOr, zLen, zChain, zIsi, D.ty, isB, isAny, zRetN, zDrop, zAsg, zgTup, zgCons, zgNil, zgName, zCall, callAz, posA, refsA, ownAll, dvA, setL, DV.own, e1, e2]
    · refine ⟨least + d2, b2, ?_, by omega, by omega, B2⟩
      simp [zBody, zSeq, zIfS, zAnd', zOr', zNot', zTru, zOp, zUn, zoVar, zoVal, zB', zCmp, zII, reqz, zC, zVar, zMove, fzz, lookz, D.s, zIx, atI, ixN, truthz, boolz, zSet, zSetIx, zRet, zB, zInt, zaCons, zaNil, lookAllz, allVz, zMod, zFdiv, zPow, zAdd, zMulI, zSub', zNeg, CDiv, isOz, isValz, argIz, outs, zNext, zIf, zPar, zdCons, zdNil, storeAllz, zLst, zTup, zEq, eqS, zIsN, isNonD, zIsB, zNot, zAnd, zOr, zLen, zChain, zIsi, D.ty, isB, isAny, zRetN, zDrop, zAsg, zgTup, zgCons, zgNil, zgName, zCall, callAz, posA, refsA, ownAll, dvA, setL, DV.own, e1, e2, w0, w1]
end Wk
namespace Wk
open PySem PySem.Spec PyProof.Rows L2 VL
def isI : Option (DV × List DV) → Int → Bool
  | some (.f (.int i), []), n => decide (i = n)
  | _, _ => false
theorem isI_eq {x : Option (DV × List DV)} {n : Int} (h : isI x n = true) : x = some (.f (.int n), []) := by
  unfold isI at h
  split at h
  · rw [of_decide_eq_true h]
  · cases h
def isT : Option (DV × List DV) → Bool
  | some (.f (.bl true), []) => true
  | _ => false
theorem isT_eq {x : Option (DV × List DV)} (h : isT x = true) : x = some (.f (.bl true), []) := by
  unfold isT at h
  split at h
  · rfl
  · cases h
def bestT : List (List Nat) := [[1, 0, 0, 0, 0, 0, 0, 0, 0], [1, 1, 1, 1, 1, 1, 1, 1, 1], [1, 1, 2, 3, 6, 10, 20, 35, 70], [1, 1, 2, 6, 12, 30, 90, 210, 560], [1, 1, 2, 6, 24, 60, 180, 630, 2520], [1, 1, 2, 6, 24, 120, 360, 1260, 5040], [1, 1, 2, 6, 24, 120, 720, 2520, 10080], [1, 1, 2, 6, 24, 120, 720, 5040, 20160], [1, 1, 2, 6, 24, 120, 720, 5040, 40320], [1, 1, 2, 6, 24, 120, 720, 5040, 40320], [1, 1, 2, 6, 24, 120, 720, 5040, 40320]]
def bst (a v : Nat) : Int := ((bestT.getD a []).getD v 0 : Nat)
def bsi (a v : Int) : Int := bst (a.toNat + 2) v.toNat
theorem num_all : ∀ v : Fin 9, ∀ a : Fin 9, isI (z_number_of [.f (.int (v.val : Nat)), .f (.int (a.val : Nat))]) (bst (a.val + 2) v.val) = true := by decide +kernel
theorem num_z {v a : Int} (v0 : 0 ≤ v) (v1 : v ≤ 8) (a0 : 0 ≤ a) (a1 : a ≤ 8) : z_number_of [.f (.int v), .f (.int a)] = some (.f (.int (bsi a v)), []) := by
  have h := isI_eq (num_all ⟨v.toNat, by omega⟩ ⟨a.toNat, by omega⟩)
  have e1 : ((v.toNat : Nat) : Int) = v := Int.toNat_of_nonneg v0
  have e2 : ((a.toNat : Nat) : Int) = a := Int.toNat_of_nonneg a0
  dsimp only at h
  rw [e1, e2] at h
  exact h
def bestL : List D := bestT.map fun r => .lst (r.map fun n => .int (n : Nat))
theorem parted_z : z_law_parted [.f (.int 8), .f (.int 10)] = some (.o bestL, []) := by kernel_rfl
theorem best_at {a : Int} (a0 : 0 ≤ a) (a1 : a ≤ 8) : atI bestL (a + 2) = some (.lst ((bestT.getD (a.toNat + 2) []).map fun n => .int (n : Nat))) := by
  have : a = 0 ∨ a = 1 ∨ a = 2 ∨ a = 3 ∨ a = 4 ∨ a = 5 ∨ a = 6 ∨ a = 7 ∨ a = 8 := by omega
  rcases this with rfl | rfl | rfl | rfl | rfl | rfl | rfl | rfl | rfl <;> rfl
theorem row_at {a v : Int} (a0 : 0 ≤ a) (a1 : a ≤ 8) (v0 : 0 ≤ v) (v1 : v ≤ 8) : atI ((bestT.getD (a.toNat + 2) []).map fun (n : Nat) => D.int (n : Nat)) v = some (.int (bsi a v)) := by
  have ha : a = 0 ∨ a = 1 ∨ a = 2 ∨ a = 3 ∨ a = 4 ∨ a = 5 ∨ a = 6 ∨ a = 7 ∨ a = 8 := by omega
  have hv : v = 0 ∨ v = 1 ∨ v = 2 ∨ v = 3 ∨ v = 4 ∨ v = 5 ∨ v = 6 ∨ v = 7 ∨ v = 8 := by omega
  rcases ha with rfl | rfl | rfl | rfl | rfl | rfl | rfl | rfl | rfl <;> rcases hv with rfl | rfl | rfl | rfl | rfl | rfl | rfl | rfl | rfl <;> rfl
theorem same_i (i : Int) : z_law_same 2 [.f (.int i), .f (.int i)] = some (.f (.bl true), []) := by
  simp [z_law_same, z_law_same_body, zBody, zSeq, zIfS, zAnd', zOr', zNot', zTru, zOp, zUn, zoVar, zoVal, zB', zCmp, zII, reqz, zC, zVar, zMove, fzz, lookz, D.s, zIx, atI, ixN, truthz, boolz, zSet, zSetIx, zRet, zB, zInt, zaCons, zaNil, lookAllz, allVz, zMod, zFdiv, zPow, zAdd, zMulI, zSub', zNeg, CDiv, isOz, isValz, argIz, outs, zNext, zIf, zPar, zdCons, zdNil, storeAllz, zLst, zTup, zEq, eqS, zIsN, isNonD, zIsB, zNot, zAnd, zOr, zLen, zChain, zIsi, D.ty, isB, isAny, zRetN, zDrop, zAsg, zgTup, zgCons, zgNil, zgName]
theorem same_i1 (i : Int) : z_law_same 1 [.f (.int i), .f (.int i)] = some (.f (.bl true), []) := by
  simp [z_law_same, z_law_same_body, zBody, zSeq, zIfS, zAnd', zOr', zNot', zTru, zOp, zUn, zoVar, zoVal, zB', zCmp, zII, reqz, zC, zVar, zMove, fzz, lookz, D.s, zIx, atI, ixN, truthz, boolz, zSet, zSetIx, zRet, zB, zInt, zaCons, zaNil, lookAllz, allVz, zMod, zFdiv, zPow, zAdd, zMulI, zSub', zNeg, CDiv, isOz, isValz, argIz, outs, zNext, zIf, zPar, zdCons, zdNil, storeAllz, zLst, zTup, zEq, eqS, zIsN, isNonD, zIsB, zNot, zAnd, zOr, zLen, zChain, zIsi, D.ty, isB, isAny, zRetN, zDrop, zAsg, zgTup, zgCons, zgNil, zgName]
theorem between_z {v l m : Int} (h0 : l ≤ v) (h1 : v ≤ m) : z_is_between [.f (.int v), .f (.int l), .f (.int m)] = some (.f (.bl true), []) := by
  have e : z_is_whole [.f (.int v)] = some (.f (.bl true), []) := by simp [z_is_whole, zBody, zSeq, zIfS, zAnd', zOr', zNot', zTru, zOp, zUn, zoVar, zoVal, zB', zCmp, zII, reqz, zC, zVar, zMove, fzz, lookz, D.s, zIx, atI, ixN, truthz, boolz, zSet, zSetIx, zRet, zB, zInt, zaCons, zaNil, lookAllz, allVz, zMod, zFdiv, zPow, zAdd, zMulI, zSub', zNeg, CDiv, isOz, isValz, argIz, outs, zNext, zIf, zPar, zdCons, zdNil, storeAllz, zLst, zTup, zEq, eqS, zIsN, isNonD, zIsB, zNot, zAnd, zOr, zLen, zChain, zIsi, D.ty, isB, isAny, zRetN, zDrop, zAsg, zgTup, zgCons, zgNil, zgName]
  simp [z_is_between, zBody, zSeq, zIfS, zAnd', zOr', zNot', zTru, zOp, zUn, zoVar, zoVal, zB', zCmp, zII, reqz, zC, zVar, zMove, fzz, lookz, D.s, zIx, atI, ixN, truthz, boolz, zSet, zSetIx, zRet, zB, zInt, zaCons, zaNil, lookAllz, allVz, zMod, zFdiv, zPow, zAdd, zMulI, zSub', zNeg, CDiv, isOz, isValz, argIz, outs, zNext, zIf, zPar, zdCons, zdNil, storeAllz, zLst, zTup, zEq, eqS, zIsN, isNonD, zIsB, zNot, zAnd, zOr, zLen, zChain, zIsi, D.ty, isB, isAny, zRetN, zDrop, zAsg, zgTup, zgCons, zgNil, zgName, zCall, callAz, posA, refsA, ownAll, dvA, setL, DV.own, e, h0, h1]
def Short (l m : Int) (vs : List Int) : Prop := (∃ a, vs = [a] ∧ l ≤ a ∧ a ≤ m) ∨ (∃ a b, vs = [a, b] ∧ l ≤ a ∧ a ≤ m ∧ l ≤ b ∧ b ≤ m) ∨ (∃ a b c, vs = [a, b, c] ∧ l ≤ a ∧ a ≤ m ∧ l ≤ b ∧ b ≤ m ∧ l ≤ c ∧ c ≤ m) ∨ (∃ a b c d, vs = [a, b, c, d] ∧ l ≤ a ∧ a ≤ m ∧ l ≤ b ∧ b ≤ m ∧ l ≤ c ∧ c ≤ m ∧ l ≤ d ∧ d ≤ m)
theorem counts_ok {l : Int} {vs : List Int} (h : Short l 8 vs) : z_are_counts [.f (.lst (vs.map D.int)), .f (.int l)] = some (.f (.bl true), []) ∧ z_are_counts [.f (.tup (vs.map D.int)), .f (.int l)] = some (.f (.bl true), []) := by
  have e1 : ∀ ds, z_is_list [.f (.lst ds)] = some (.f (.bl true), []) := fun ds => by simp [z_is_list, zBody, zSeq, zIfS, zAnd', zOr', zNot', zTru, zOp, zUn, zoVar, zoVal, zB', zCmp, zII, reqz, zC, zVar, zMove, fzz, lookz, D.s, zIx, atI, ixN, truthz, boolz, zSet, zSetIx, zRet, zB, zInt, zaCons, zaNil, lookAllz, allVz, zMod, zFdiv, zPow, zAdd, zMulI, zSub', zNeg, CDiv, isOz, isValz, argIz, outs, zNext, zIf, zPar, zdCons, zdNil, storeAllz, zLst, zTup, zEq, eqS, zIsN, isNonD, zIsB, zNot, zAnd, zOr, zLen, zChain, zIsi, D.ty, isB, isAny, zRetN, zDrop, zAsg, zgTup, zgCons, zgNil, zgName, zTup, allVz, sizeLine]
  have e2 : ∀ ds, z_is_list [.f (.tup ds)] = some (.f (.bl true), []) := fun ds => by simp [z_is_list, zBody, zSeq, zIfS, zAnd', zOr', zNot', zTru, zOp, zUn, zoVar, zoVal, zB', zCmp, zII, reqz, zC, zVar, zMove, fzz, lookz, D.s, zIx, atI, ixN, truthz, boolz, zSet, zSetIx, zRet, zB, zInt, zaCons, zaNil, lookAllz, allVz, zMod, zFdiv, zPow, zAdd, zMulI, zSub', zNeg, CDiv, isOz, isValz, argIz, outs, zNext, zIf, zPar, zdCons, zdNil, storeAllz, zLst, zTup, zEq, eqS, zIsN, isNonD, zIsB, zNot, zAnd, zOr, zLen, zChain, zIsi, D.ty, isB, isAny, zRetN, zDrop, zAsg, zgTup, zgCons, zgNil, zgName, zTup, allVz, sizeLine]
  rcases h with ⟨a, rfl, p1, p2⟩ | ⟨a, b, rfl, p1, p2, p3, p4⟩ | ⟨a, b, c, rfl, p1, p2, p3, p4, p5, p6⟩ | ⟨a, b, c, d, rfl, p1, p2, p3, p4, p5, p6, p7, p8⟩
  · have q1 := between_z p1 p2
    constructor <;> simp [z_are_counts, z_are_between, zBody, zSeq, zIfS, zAnd', zOr', zNot', zTru, zOp, zUn, zoVar, zoVal, zB', zCmp, zII, reqz, zC, zVar, zMove, fzz, lookz, D.s, zIx, atI, ixN, truthz, boolz, zSet, zSetIx, zRet, zB, zInt, zaCons, zaNil, lookAllz, allVz, zMod, zFdiv, zPow, zAdd, zMulI, zSub', zNeg, CDiv, isOz, isValz, argIz, outs, zNext, zIf, zPar, zdCons, zdNil, storeAllz, zLst, zTup, zEq, eqS, zIsN, isNonD, zIsB, zNot, zAnd, zOr, zLen, zChain, zIsi, D.ty, isB, isAny, zRetN, zDrop, zAsg, zgTup, zgCons, zgNil, zgName, zCall, callAz, posA, refsA, ownAll, dvA, setL, DV.own, zLc, ziSq, isSqz, lcz, wipeE, back, keepF, zYes, sizeLine, zAllB, blsD, zCallK, permL, zTuple, zList, zCallB, callBz, dvB, flatR, flat, flats, zMin, zMax, intsD, minI, maxI, ziRange1, one1, rangeD, zSl, zpNone, zpSome, zSum, zAbs, e1, e2, q1]
  · have q1 := between_z p1 p2
    have q2 := between_z p3 p4
    constructor <;> simp [z_are_counts, z_are_between, zBody, zSeq, zIfS, zAnd', zOr', zNot', zTru, zOp, zUn, zoVar, zoVal, zB', zCmp, zII, reqz, zC, zVar, zMove, fzz, lookz, D.s, zIx, atI, ixN, truthz, boolz, zSet, zSetIx, zRet, zB, zInt, zaCons, zaNil, lookAllz, allVz, zMod, zFdiv, zPow, zAdd, zMulI, zSub', zNeg, CDiv, isOz, isValz, argIz, outs, zNext, zIf, zPar, zdCons, zdNil, storeAllz, zLst, zTup, zEq, eqS, zIsN, isNonD, zIsB, zNot, zAnd, zOr, zLen, zChain, zIsi, D.ty, isB, isAny, zRetN, zDrop, zAsg, zgTup, zgCons, zgNil, zgName, zCall, callAz, posA, refsA, ownAll, dvA, setL, DV.own, zLc, ziSq, isSqz, lcz, wipeE, back, keepF, zYes, sizeLine, zAllB, blsD, zCallK, permL, zTuple, zList, zCallB, callBz, dvB, flatR, flat, flats, zMin, zMax, intsD, minI, maxI, ziRange1, one1, rangeD, zSl, zpNone, zpSome, zSum, zAbs, e1, e2, q1, q2]
  · have q1 := between_z p1 p2
    have q2 := between_z p3 p4
    have q3 := between_z p5 p6
    constructor <;> simp [z_are_counts, z_are_between, zBody, zSeq, zIfS, zAnd', zOr', zNot', zTru, zOp, zUn, zoVar, zoVal, zB', zCmp, zII, reqz, zC, zVar, zMove, fzz, lookz, D.s, zIx, atI, ixN, truthz, boolz, zSet, zSetIx, zRet, zB, zInt, zaCons, zaNil, lookAllz, allVz, zMod, zFdiv, zPow, zAdd, zMulI, zSub', zNeg, CDiv, isOz, isValz, argIz, outs, zNext, zIf, zPar, zdCons, zdNil, storeAllz, zLst, zTup, zEq, eqS, zIsN, isNonD, zIsB, zNot, zAnd, zOr, zLen, zChain, zIsi, D.ty, isB, isAny, zRetN, zDrop, zAsg, zgTup, zgCons, zgNil, zgName, zCall, callAz, posA, refsA, ownAll, dvA, setL, DV.own, zLc, ziSq, isSqz, lcz, wipeE, back, keepF, zYes, sizeLine, zAllB, blsD, zCallK, permL, zTuple, zList, zCallB, callBz, dvB, flatR, flat, flats, zMin, zMax, intsD, minI, maxI, ziRange1, one1, rangeD, zSl, zpNone, zpSome, zSum, zAbs, e1, e2, q1, q2, q3]
  · have q1 := between_z p1 p2
    have q2 := between_z p3 p4
    have q3 := between_z p5 p6
    have q4 := between_z p7 p8
    constructor <;> simp [z_are_counts, z_are_between, zBody, zSeq, zIfS, zAnd', zOr', zNot', zTru, zOp, zUn, zoVar, zoVal, zB', zCmp, zII, reqz, zC, zVar, zMove, fzz, lookz, D.s, zIx, atI, ixN, truthz, boolz, zSet, zSetIx, zRet, zB, zInt, zaCons, zaNil, lookAllz, allVz, zMod, zFdiv, zPow, zAdd, zMulI, zSub', zNeg, CDiv, isOz, isValz, argIz, outs, zNext, zIf, zPar, zdCons, zdNil, storeAllz, zLst, zTup, zEq, eqS, zIsN, isNonD, zIsB, zNot, zAnd, zOr, zLen, zChain, zIsi, D.ty, isB, isAny, zRetN, zDrop, zAsg, zgTup, zgCons, zgNil, zgName, zCall, callAz, posA, refsA, ownAll, dvA, setL, DV.own, zLc, ziSq, isSqz, lcz, wipeE, back, keepF, zYes, sizeLine, zAllB, blsD, zCallK, permL, zTuple, zList, zCallB, callBz, dvB, flatR, flat, flats, zMin, zMax, intsD, minI, maxI, ziRange1, one1, rangeD, zSl, zpNone, zpSome, zSum, zAbs, e1, e2, q1, q2, q3, q4]
theorem chk_gather {vs : List Int} {a : Int} (h : Short 1 8 vs) (a0 : 0 ≤ a) (a1 : a ≤ 8) : z_check_gather [.f (.lst (vs.map D.int)), .f (.int a)] = some (.f .non, []) ∧ z_check_gather [.f (.tup (vs.map D.int)), .f (.int a)] = some (.f .non, []) := by
  obtain ⟨c1, c2⟩ := counts_ok h
  have b := between_z a0 a1
  constructor <;> simp [z_check_gather, zBody, zSeq, zIfS, zAnd', zOr', zNot', zTru, zOp, zUn, zoVar, zoVal, zB', zCmp, zII, reqz, zC, zVar, zMove, fzz, lookz, D.s, zIx, atI, ixN, truthz, boolz, zSet, zSetIx, zRet, zB, zInt, zaCons, zaNil, lookAllz, allVz, zMod, zFdiv, zPow, zAdd, zMulI, zSub', zNeg, CDiv, isOz, isValz, argIz, outs, zNext, zIf, zPar, zdCons, zdNil, storeAllz, zLst, zTup, zEq, eqS, zIsN, isNonD, zIsB, zNot, zAnd, zOr, zLen, zChain, zIsi, D.ty, isB, isAny, zRetN, zDrop, zAsg, zgTup, zgCons, zgNil, zgName, zCall, callAz, posA, refsA, ownAll, dvA, setL, DV.own, zLc, ziSq, isSqz, lcz, wipeE, back, keepF, zYes, sizeLine, zAllB, blsD, zCallK, permL, zTuple, zList, zCallB, callBz, dvB, flatR, flat, flats, zMin, zMax, intsD, minI, maxI, ziRange1, one1, rangeD, zSl, zpNone, zpSome, zSum, zAbs, c1, c2, b]
theorem chk_spread {vs : List Int} {a : Int} (h : Short 0 8 vs) (a0 : 1 ≤ a) (a1 : a ≤ 8) : z_check_spread [.f (.int a), .f (.lst (vs.map D.int))] = some (.f .non, []) ∧ z_check_spread [.f (.int a), .f (.tup (vs.map D.int))] = some (.f .non, []) := by
  obtain ⟨c1, c2⟩ := counts_ok h
  have b := between_z a0 a1
  constructor <;> simp [z_check_spread, zBody, zSeq, zIfS, zAnd', zOr', zNot', zTru, zOp, zUn, zoVar, zoVal, zB', zCmp, zII, reqz, zC, zVar, zMove, fzz, lookz, D.s, zIx, atI, ixN, truthz, boolz, zSet, zSetIx, zRet, zB, zInt, zaCons, zaNil, lookAllz, allVz, zMod, zFdiv, zPow, zAdd, zMulI, zSub', zNeg, CDiv, isOz, isValz, argIz, outs, zNext, zIf, zPar, zdCons, zdNil, storeAllz, zLst, zTup, zEq, eqS, zIsN, isNonD, zIsB, zNot, zAnd, zOr, zLen, zChain, zIsi, D.ty, isB, isAny, zRetN, zDrop, zAsg, zgTup, zgCons, zgNil, zgName, zCall, callAz, posA, refsA, ownAll, dvA, setL, DV.own, zLc, ziSq, isSqz, lcz, wipeE, back, keepF, zYes, sizeLine, zAllB, blsD, zCallK, permL, zTuple, zList, zCallB, callBz, dvB, flatR, flat, flats, zMin, zMax, intsD, minI, maxI, ziRange1, one1, rangeD, zSl, zpNone, zpSome, zSum, zAbs, c1, c2, b]
theorem gathered_z {vs : List Int} {a : Int} (h : Short 1 8 vs) (a0 : 0 ≤ a) (a1 : a ≤ 8) : z_gathered [.f (.lst (vs.map D.int)), .f (.int a)] = some (.f (.tup (vs.map fun v => .int (bsi a v))), []) ∧ z_gathered [.f (.tup (vs.map D.int)), .f (.int a)] = some (.f (.tup (vs.map fun v => .int (bsi a v))), []) := by
  obtain ⟨c1, c2⟩ := chk_gather h a0 a1
  rcases h with ⟨a, rfl, p1, p2⟩ | ⟨a, b, rfl, p1, p2, p3, p4⟩ | ⟨a, b, c, rfl, p1, p2, p3, p4, p5, p6⟩ | ⟨a, b, c, d, rfl, p1, p2, p3, p4, p5, p6, p7, p8⟩
  · have q1 := num_z (Int.le_trans (by decide) p1) p2 a0 a1
    simp only [List.map_cons, List.map_nil] at c1 c2 ⊢
    constructor <;> simp [z_gathered, zBody, zSeq, zIfS, zAnd', zOr', zNot', zTru, zOp, zUn, zoVar, zoVal, zB', zCmp, zII, reqz, zC, zVar, zMove, fzz, lookz, D.s, zIx, atI, ixN, truthz, boolz, zSet, zSetIx, zRet, zB, zInt, zaCons, zaNil, lookAllz, allVz, zMod, zFdiv, zPow, zAdd, zMulI, zSub', zNeg, CDiv, isOz, isValz, argIz, outs, zNext, zIf, zPar, zdCons, zdNil, storeAllz, zLst, zTup, zEq, eqS, zIsN, isNonD, zIsB, zNot, zAnd, zOr, zLen, zChain, zIsi, D.ty, isB, isAny, zRetN, zDrop, zAsg, zgTup, zgCons, zgNil, zgName, zCall, callAz, posA, refsA, ownAll, dvA, setL, DV.own, zLc, ziSq, isSqz, lcz, wipeE, back, keepF, zYes, sizeLine, zAllB, blsD, zCallK, permL, zTuple, zList, zCallB, callBz, dvB, flatR, flat, flats, zMin, zMax, intsD, minI, maxI, ziRange1, one1, rangeD, zSl, zpNone, zpSome, zSum, zAbs, c1, c2, q1]
  · have q1 := num_z (Int.le_trans (by decide) p1) p2 a0 a1
    have q2 := num_z (Int.le_trans (by decide) p3) p4 a0 a1
    simp only [List.map_cons, List.map_nil] at c1 c2 ⊢
    constructor <;> simp [z_gathered, zBody, zSeq, zIfS, zAnd', zOr', zNot', zTru, zOp, zUn, zoVar, zoVal, zB', zCmp, zII, reqz, zC, zVar, zMove, fzz, lookz, D.s, zIx, atI, ixN, truthz, boolz, zSet, zSetIx, zRet, zB, zInt, zaCons, zaNil, lookAllz, allVz, zMod, zFdiv, zPow, zAdd, zMulI, zSub', zNeg, CDiv, isOz, isValz, argIz, outs, zNext, zIf, zPar, zdCons, zdNil, storeAllz, zLst, zTup, zEq, eqS, zIsN, isNonD, zIsB, zNot, zAnd, zOr, zLen, zChain, zIsi, D.ty, isB, isAny, zRetN, zDrop, zAsg, zgTup, zgCons, zgNil, zgName, zCall, callAz, posA, refsA, ownAll, dvA, setL, DV.own, zLc, ziSq, isSqz, lcz, wipeE, back, keepF, zYes, sizeLine, zAllB, blsD, zCallK, permL, zTuple, zList, zCallB, callBz, dvB, flatR, flat, flats, zMin, zMax, intsD, minI, maxI, ziRange1, one1, rangeD, zSl, zpNone, zpSome, zSum, zAbs, c1, c2, q1, q2]
  · have q1 := num_z (Int.le_trans (by decide) p1) p2 a0 a1
    have q2 := num_z (Int.le_trans (by decide) p3) p4 a0 a1
    have q3 := num_z (Int.le_trans (by decide) p5) p6 a0 a1
    simp only [List.map_cons, List.map_nil] at c1 c2 ⊢
    constructor <;> simp [z_gathered, zBody, zSeq, zIfS, zAnd', zOr', zNot', zTru, zOp, zUn, zoVar, zoVal, zB', zCmp, zII, reqz, zC, zVar, zMove, fzz, lookz, D.s, zIx, atI, ixN, truthz, boolz, zSet, zSetIx, zRet, zB, zInt, zaCons, zaNil, lookAllz, allVz, zMod, zFdiv, zPow, zAdd, zMulI, zSub', zNeg, CDiv, isOz, isValz, argIz, outs, zNext, zIf, zPar, zdCons, zdNil, storeAllz, zLst, zTup, zEq, eqS, zIsN, isNonD, zIsB, zNot, zAnd, zOr, zLen, zChain, zIsi, D.ty, isB, isAny, zRetN, zDrop, zAsg, zgTup, zgCons, zgNil, zgName, zCall, callAz, posA, refsA, ownAll, dvA, setL, DV.own, zLc, ziSq, isSqz, lcz, wipeE, back, keepF, zYes, sizeLine, zAllB, blsD, zCallK, permL, zTuple, zList, zCallB, callBz, dvB, flatR, flat, flats, zMin, zMax, intsD, minI, maxI, ziRange1, one1, rangeD, zSl, zpNone, zpSome, zSum, zAbs, c1, c2, q1, q2, q3]
  · have q1 := num_z (Int.le_trans (by decide) p1) p2 a0 a1
    have q2 := num_z (Int.le_trans (by decide) p3) p4 a0 a1
    have q3 := num_z (Int.le_trans (by decide) p5) p6 a0 a1
    have q4 := num_z (Int.le_trans (by decide) p7) p8 a0 a1
    simp only [List.map_cons, List.map_nil] at c1 c2 ⊢
    constructor <;> simp [z_gathered, zBody, zSeq, zIfS, zAnd', zOr', zNot', zTru, zOp, zUn, zoVar, zoVal, zB', zCmp, zII, reqz, zC, zVar, zMove, fzz, lookz, D.s, zIx, atI, ixN, truthz, boolz, zSet, zSetIx, zRet, zB, zInt, zaCons, zaNil, lookAllz, allVz, zMod, zFdiv, zPow, zAdd, zMulI, zSub', zNeg, CDiv, isOz, isValz, argIz, outs, zNext, zIf, zPar, zdCons, zdNil, storeAllz, zLst, zTup, zEq, eqS, zIsN, isNonD, zIsB, zNot, zAnd, zOr, zLen, zChain, zIsi, D.ty, isB, isAny, zRetN, zDrop, zAsg, zgTup, zgCons, zgNil, zgName, zCall, callAz, posA, refsA, ownAll, dvA, setL, DV.own, zLc, ziSq, isSqz, lcz, wipeE, back, keepF, zYes, sizeLine, zAllB, blsD, zCallK, permL, zTuple, zList, zCallB, callBz, dvB, flatR, flat, flats, zMin, zMax, intsD, minI, maxI, ziRange1, one1, rangeD, zSl, zpNone, zpSome, zSum, zAbs, c1, c2, q1, q2, q3, q4]
theorem gtold_z {vs : List Int} {a w : Int} (h : Short 1 8 vs) (a0 : 0 ≤ a) (a1 : a ≤ 8) : z_law_gather_told [.f (.int w), .f (.lst (vs.map D.int)), .f (.int a)] = some (.f (.tup (vs.map fun v => .int (bsi a v))), []) := by
  obtain ⟨c1, c2⟩ := gathered_z h a0 a1
  by_cases w1 : w = 1
  · subst w1
    simp [z_law_gather_told, zBody, zSeq, zIfS, zAnd', zOr', zNot', zTru, zOp, zUn, zoVar, zoVal, zB', zCmp, zII, reqz, zC, zVar, zMove, fzz, lookz, D.s, zIx, atI, ixN, truthz, boolz, zSet, zSetIx, zRet, zB, zInt, zaCons, zaNil, lookAllz, allVz, zMod, zFdiv, zPow, zAdd, zMulI, zSub', zNeg, CDiv, isOz, isValz, argIz, outs, zNext, zIf, zPar, zdCons, zdNil, storeAllz, zLst, zTup, zEq, eqS, zIsN, isNonD, zIsB, zNot, zAnd, zOr, zLen, zChain, zIsi, D.ty, isB, isAny, zRetN, zDrop, zAsg, zgTup, zgCons, zgNil, zgName, zCall, callAz, posA, refsA, ownAll, dvA, setL, DV.own, zLc, ziSq, isSqz, lcz, wipeE, back, keepF, zYes, sizeLine, zAllB, blsD, zCallK, permL, zTuple, zList, zCallB, callBz, dvB, flatR, flat, flats, zMin, zMax, intsD, minI, maxI, ziRange1, one1, rangeD, zSl, zpNone, zpSome, zSum, zAbs, c1, c2]
  · by_cases w2 : 1 < w
    · simp [z_law_gather_told, zBody, zSeq, zIfS, zAnd', zOr', zNot', zTru, zOp, zUn, zoVar, zoVal, zB', zCmp, zII, reqz, zC, zVar, zMove, fzz, lookz, D.s, zIx, atI, ixN, truthz, boolz, zSet, zSetIx, zRet, zB, zInt, zaCons, zaNil, lookAllz, allVz, zMod, zFdiv, zPow, zAdd, zMulI, zSub', zNeg, CDiv, isOz, isValz, argIz, outs, zNext, zIf, zPar, zdCons, zdNil, storeAllz, zLst, zTup, zEq, eqS, zIsN, isNonD, zIsB, zNot, zAnd, zOr, zLen, zChain, zIsi, D.ty, isB, isAny, zRetN, zDrop, zAsg, zgTup, zgCons, zgNil, zgName, zCall, callAz, posA, refsA, ownAll, dvA, setL, DV.own, zLc, ziSq, isSqz, lcz, wipeE, back, keepF, zYes, sizeLine, zAllB, blsD, zCallK, permL, zTuple, zList, zCallB, callBz, dvB, flatR, flat, flats, zMin, zMax, intsD, minI, maxI, ziRange1, one1, rangeD, zSl, zpNone, zpSome, zSum, zAbs, c1, c2, w1, w2]
    · simp [z_law_gather_told, zBody, zSeq, zIfS, zAnd', zOr', zNot', zTru, zOp, zUn, zoVar, zoVal, zB', zCmp, zII, reqz, zC, zVar, zMove, fzz, lookz, D.s, zIx, atI, ixN, truthz, boolz, zSet, zSetIx, zRet, zB, zInt, zaCons, zaNil, lookAllz, allVz, zMod, zFdiv, zPow, zAdd, zMulI, zSub', zNeg, CDiv, isOz, isValz, argIz, outs, zNext, zIf, zPar, zdCons, zdNil, storeAllz, zLst, zTup, zEq, eqS, zIsN, isNonD, zIsB, zNot, zAnd, zOr, zLen, zChain, zIsi, D.ty, isB, isAny, zRetN, zDrop, zAsg, zgTup, zgCons, zgNil, zgName, zCall, callAz, posA, refsA, ownAll, dvA, setL, DV.own, zLc, ziSq, isSqz, lcz, wipeE, back, keepF, zYes, sizeLine, zAllB, blsD, zCallK, permL, zTuple, zList, zCallB, callBz, dvB, flatR, flat, flats, zMin, zMax, intsD, minI, maxI, ziRange1, one1, rangeD, zSl, zpNone, zpSome, zSum, zAbs, c1, c2, w1, w2]
/-- the least of them -/
def leastI (vs : List Int) : Int := match vs with | [] => 0 | v :: vs => minI v vs
theorem min_z {vs : List Int} (h : vs ≠ []) : zMin [.lst (vs.map D.int)] = some (.f (.int (leastI vs))) ∧ zMin [.tup (vs.map D.int)] = some (.f (.int (leastI vs))) := by
  have e : ∀ xs : List Int, intsD (xs.map D.int) = some xs := fun xs => by
    induction xs with
    | nil => rfl
    | cons x xs ih => simp [intsD, D.s, ih]
  cases vs with
  | nil => exact absurd rfl h
  | cons v vs => constructor <;> simp only [zMin, e, leastI]
theorem short_min {l m : Int} {vs : List Int} (h : Short l m vs) : vs ≠ [] ∧ l ≤ leastI vs ∧ leastI vs ≤ m := by
  rcases h with ⟨a, rfl, p1, p2⟩ | ⟨a, b, rfl, p1, p2, p3, p4⟩ | ⟨a, b, c, rfl, p1, p2, p3, p4, p5, p6⟩ | ⟨a, b, c, d, rfl, p1, p2, p3, p4, p5, p6, p7, p8⟩ <;> refine ⟨by simp, ?_, ?_⟩ <;> simp only [leastI, minI] <;> (repeat' split) <;> omega
theorem spread_z {vs : List Int} {k : Int} (h : Short 0 8 vs) (k0 : 1 ≤ k) (k1 : k ≤ 8) : z_spread [.f (.int k), .f (.lst (vs.map D.int))] = some (.f (.int (bsi (leastI vs) k)), []) ∧ z_spread [.f (.int k), .f (.tup (vs.map D.int))] = some (.f (.int (bsi (leastI vs) k)), []) := by
  obtain ⟨c1, c2⟩ := chk_spread h k0 k1
  obtain ⟨n0, m0, m1⟩ := short_min h
  obtain ⟨e1, e2⟩ := min_z n0
  have q := num_z (Int.le_trans (by decide) k0) k1 m0 m1
  constructor
  · simp [z_spread, zBody, zSeq, zIfS, zAnd', zOr', zNot', zTru, zOp, zUn, zoVar, zoVal, zB', zCmp, zII, reqz, zC, zVar, zMove, fzz, lookz, D.s, zIx, atI, ixN, truthz, boolz, zSet, zSetIx, zRet, zB, zInt, zaCons, zaNil, lookAllz, allVz, zMod, zFdiv, zPow, zAdd, zMulI, zSub', zNeg, CDiv, isOz, isValz, argIz, outs, zNext, zIf, zPar, zdCons, zdNil, storeAllz, zLst, zTup, zEq, eqS, zIsN, isNonD, zIsB, zNot, zAnd, zOr, zLen, zChain, zIsi, D.ty, isB, isAny, zRetN, zDrop, zAsg, zgTup, zgCons, zgNil, zgName, zCall, callAz, posA, refsA, ownAll, dvA, setL, DV.own, c1, c2, e1, e2, q]
  · simp [z_spread, zBody, zSeq, zIfS, zAnd', zOr', zNot', zTru, zOp, zUn, zoVar, zoVal, zB', zCmp, zII, reqz, zC, zVar, zMove, fzz, lookz, D.s, zIx, atI, ixN, truthz, boolz, zSet, zSetIx, zRet, zB, zInt, zaCons, zaNil, lookAllz, allVz, zMod, zFdiv, zPow, zAdd, zMulI, zSub', zNeg, CDiv, isOz, isValz, argIz, outs, zNext, zIf, zPar, zdCons, zdNil, storeAllz, zLst, zTup, zEq, eqS, zIsN, isNonD, zIsB, zNot, zAnd, zOr, zLen, zChain, zIsi, D.ty, isB, isAny, zRetN, zDrop, zAsg, zgTup, zgCons, zgNil, zgName, zCall, callAz, posA, refsA, ownAll, dvA, setL, DV.own, c1, c2, e1, e2, q]
theorem stold_z {vs : List Int} {k w : Int} (h : Short 0 8 vs) (k0 : 1 ≤ k) (k1 : k ≤ 8) : z_law_spread_told [.f (.int w), .f (.int k), .f (.lst (vs.map D.int))] = some (.f (.int (bsi (leastI vs) k)), []) := by
  obtain ⟨c1, c2⟩ := spread_z h k0 k1
  by_cases w1 : w = 1
  · subst w1
    simp [z_law_spread_told, zBody, zSeq, zIfS, zAnd', zOr', zNot', zTru, zOp, zUn, zoVar, zoVal, zB', zCmp, zII, reqz, zC, zVar, zMove, fzz, lookz, D.s, zIx, atI, ixN, truthz, boolz, zSet, zSetIx, zRet, zB, zInt, zaCons, zaNil, lookAllz, allVz, zMod, zFdiv, zPow, zAdd, zMulI, zSub', zNeg, CDiv, isOz, isValz, argIz, outs, zNext, zIf, zPar, zdCons, zdNil, storeAllz, zLst, zTup, zEq, eqS, zIsN, isNonD, zIsB, zNot, zAnd, zOr, zLen, zChain, zIsi, D.ty, isB, isAny, zRetN, zDrop, zAsg, zgTup, zgCons, zgNil, zgName, zCall, callAz, posA, refsA, ownAll, dvA, setL, DV.own, zLc, ziSq, isSqz, lcz, wipeE, back, keepF, zYes, sizeLine, zAllB, blsD, zCallK, permL, zTuple, zList, zCallB, callBz, dvB, flatR, flat, flats, zMin, zMax, intsD, minI, maxI, ziRange1, one1, rangeD, zSl, zpNone, zpSome, zSum, zAbs, c1, c2]
  · by_cases w2 : 1 < w
    · simp [z_law_spread_told, zBody, zSeq, zIfS, zAnd', zOr', zNot', zTru, zOp, zUn, zoVar, zoVal, zB', zCmp, zII, reqz, zC, zVar, zMove, fzz, lookz, D.s, zIx, atI, ixN, truthz, boolz, zSet, zSetIx, zRet, zB, zInt, zaCons, zaNil, lookAllz, allVz, zMod, zFdiv, zPow, zAdd, zMulI, zSub', zNeg, CDiv, isOz, isValz, argIz, outs, zNext, zIf, zPar, zdCons, zdNil, storeAllz, zLst, zTup, zEq, eqS, zIsN, isNonD, zIsB, zNot, zAnd, zOr, zLen, zChain, zIsi, D.ty, isB, isAny, zRetN, zDrop, zAsg, zgTup, zgCons, zgNil, zgName, zCall, callAz, posA, refsA, ownAll, dvA, setL, DV.own, zLc, ziSq, isSqz, lcz, wipeE, back, keepF, zYes, sizeLine, zAllB, blsD, zCallK, permL, zTuple, zList, zCallB, callBz, dvB, flatR, flat, flats, zMin, zMax, intsD, minI, maxI, ziRange1, one1, rangeD, zSl, zpNone, zpSome, zSum, zAbs, c1, c2, w1, w2]
    · simp [z_law_spread_told, zBody, zSeq, zIfS, zAnd', zOr', zNot', zTru, zOp, zUn, zoVar, zoVal, zB', zCmp, zII, reqz, zC, zVar, zMove, fzz, lookz, D.s, zIx, atI, ixN, truthz, boolz, zSet, zSetIx, zRet, zB, zInt, zaCons, zaNil, lookAllz, allVz, zMod, zFdiv, zPow, zAdd, zMulI, zSub', zNeg, CDiv, isOz, isValz, argIz, outs, zNext, zIf, zPar, zdCons, zdNil, storeAllz, zLst, zTup, zEq, eqS, zIsN, isNonD, zIsB, zNot, zAnd, zOr, zLen, zChain, zIsi, D.ty, isB, isAny, zRetN, zDrop, zAsg, zgTup, zgCons, zgNil, zgName, zCall, callAz, posA, refsA, ownAll, dvA, setL, DV.own, zLc, ziSq, isSqz, lcz, wipeE, back, keepF, zYes, sizeLine, zAllB, blsD, zCallK, permL, zTuple, zList, zCallB, callBz, dvB, flatR, flat, flats, zMin, zMax, intsD, minI, maxI, ziRange1, one1, rangeD, zSl, zpNone, zpSome, zSum, zAbs, c1, c2, w1, w2]
end Wk
namespace Wk
open PySem PySem.Spec PyProof.Rows L2 VL
theorem eqD_nil : zEqD false (.lst []) (.lst []) = some (.f (.bl true)) := by kernel_rfl
theorem eqD_refl {vs : List Int} (h : ∃ l m, Short l m vs) : zEqD true (.lst (vs.map D.int)) (.lst (vs.map D.int)) = some (.f (.bl false)) := by
  obtain ⟨l, m, h⟩ := h
  rcases h with ⟨a, rfl, p1, p2⟩ | ⟨a, b, rfl, p1, p2, p3, p4⟩ | ⟨a, b, c, rfl, p1, p2, p3, p4, p5, p6⟩ | ⟨a, b, c, d, rfl, p1, p2, p3, p4, p5, p6, p7, p8⟩ <;>
  simp [zEqD, D.py, pys, PyData.eqv, PyData.eqvAll, SeqAt.shaped, reqz, PyData.canLay0, PyData.canLayAll0, PyData.depth, PyData.depthAll]
theorem same_t {vs : List Int} (h : ∃ l m, Short l m vs) : z_law_same 2 [.f (.tup (vs.map D.int)), .f (.tup (vs.map D.int))] = some (.f (.bl true), []) := by
  obtain ⟨l, m, h⟩ := h
  have q := same_i1
  simp only [z_law_same] at q ⊢
  rcases h with ⟨a, rfl, p1, p2⟩ | ⟨a, b, rfl, p1, p2, p3, p4⟩ | ⟨a, b, c, rfl, p1, p2, p3, p4, p5, p6⟩ | ⟨a, b, c, d, rfl, p1, p2, p3, p4, p5, p6, p7, p8⟩
  · have q1 := q a
    rw [z_law_same_body]
    simp [zBody, zSeq, zIfS, zAnd', zOr', zNot', zTru, zOp, zUn, zoVar, zoVal, zB', zCmp, zII, reqz, zC, zVar, zMove, fzz, lookz, D.s, zIx, atI, ixN, truthz, boolz, zSet, zSetIx, zRet, zB, zInt, zaCons, zaNil, lookAllz, allVz, zMod, zFdiv, zPow, zAdd, zMulI, zSub', zNeg, CDiv, isOz, isValz, argIz, outs, zNext, zIf, zPar, zdCons, zdNil, storeAllz, zLst, zTup, zEq, eqS, zIsN, isNonD, zIsB, zNot, zAnd, zOr, zLen, zChain, zIsi, D.ty, isB, isAny, zRetN, zDrop, zAsg, zgTup, zgCons, zgNil, zgName, zCall, callAz, posA, refsA, ownAll, dvA, setL, DV.own, zLc, ziSq, isSqz, lcz, wipeE, back, keepF, zYes, sizeLine, zAllB, blsD, zCallK, permL, zTuple, zList, zCallB, callBz, dvB, flatR, flat, flats, zMin, zMax, intsD, minI, maxI, ziRange1, one1, rangeD, zSl, zpNone, zpSome, zSum, zAbs, eqD_nil, q1]
  · have q1 := q a
    have q2 := q b
    rw [z_law_same_body]
    simp [zBody, zSeq, zIfS, zAnd', zOr', zNot', zTru, zOp, zUn, zoVar, zoVal, zB', zCmp, zII, reqz, zC, zVar, zMove, fzz, lookz, D.s, zIx, atI, ixN, truthz, boolz, zSet, zSetIx, zRet, zB, zInt, zaCons, zaNil, lookAllz, allVz, zMod, zFdiv, zPow, zAdd, zMulI, zSub', zNeg, CDiv, isOz, isValz, argIz, outs, zNext, zIf, zPar, zdCons, zdNil, storeAllz, zLst, zTup, zEq, eqS, zIsN, isNonD, zIsB, zNot, zAnd, zOr, zLen, zChain, zIsi, D.ty, isB, isAny, zRetN, zDrop, zAsg, zgTup, zgCons, zgNil, zgName, zCall, callAz, posA, refsA, ownAll, dvA, setL, DV.own, zLc, ziSq, isSqz, lcz, wipeE, back, keepF, zYes, sizeLine, zAllB, blsD, zCallK, permL, zTuple, zList, zCallB, callBz, dvB, flatR, flat, flats, zMin, zMax, intsD, minI, maxI, ziRange1, one1, rangeD, zSl, zpNone, zpSome, zSum, zAbs, eqD_nil, q1, q2, List.range, List.range.loop]
  · have q1 := q a
    have q2 := q b
    have q3 := q c
    rw [z_law_same_body]
    simp [zBody, zSeq, zIfS, zAnd', zOr', zNot', zTru, zOp, zUn, zoVar, zoVal, zB', zCmp, zII, reqz, zC, zVar, zMove, fzz, lookz, D.s, zIx, atI, ixN, truthz, boolz, zSet, zSetIx, zRet, zB, zInt, zaCons, zaNil, lookAllz, allVz, zMod, zFdiv, zPow, zAdd, zMulI, zSub', zNeg, CDiv, isOz, isValz, argIz, outs, zNext, zIf, zPar, zdCons, zdNil, storeAllz, zLst, zTup, zEq, eqS, zIsN, isNonD, zIsB, zNot, zAnd, zOr, zLen, zChain, zIsi, D.ty, isB, isAny, zRetN, zDrop, zAsg, zgTup, zgCons, zgNil, zgName, zCall, callAz, posA, refsA, ownAll, dvA, setL, DV.own, zLc, ziSq, isSqz, lcz, wipeE, back, keepF, zYes, sizeLine, zAllB, blsD, zCallK, permL, zTuple, zList, zCallB, callBz, dvB, flatR, flat, flats, zMin, zMax, intsD, minI, maxI, ziRange1, one1, rangeD, zSl, zpNone, zpSome, zSum, zAbs, eqD_nil, q1, q2, q3, List.range, List.range.loop]
  · have q1 := q a
    have q2 := q b
    have q3 := q c
    have q4 := q d
    rw [z_law_same_body]
    simp [zBody, zSeq, zIfS, zAnd', zOr', zNot', zTru, zOp, zUn, zoVar, zoVal, zB', zCmp, zII, reqz, zC, zVar, zMove, fzz, lookz, D.s, zIx, atI, ixN, truthz, boolz, zSet, zSetIx, zRet, zB, zInt, zaCons, zaNil, lookAllz, allVz, zMod, zFdiv, zPow, zAdd, zMulI, zSub', zNeg, CDiv, isOz, isValz, argIz, outs, zNext, zIf, zPar, zdCons, zdNil, storeAllz, zLst, zTup, zEq, eqS, zIsN, isNonD, zIsB, zNot, zAnd, zOr, zLen, zChain, zIsi, D.ty, isB, isAny, zRetN, zDrop, zAsg, zgTup, zgCons, zgNil, zgName, zCall, callAz, posA, refsA, ownAll, dvA, setL, DV.own, zLc, ziSq, isSqz, lcz, wipeE, back, keepF, zYes, sizeLine, zAllB, blsD, zCallK, permL, zTuple, zList, zCallB, callBz, dvB, flatR, flat, flats, zMin, zMax, intsD, minI, maxI, ziRange1, one1, rangeD, zSl, zpNone, zpSome, zSum, zAbs, eqD_nil, q1, q2, q3, q4, List.range, List.range.loop]
end Wk
namespace Wk
open PySem PySem.Spec PyProof.Rows L2 VL
theorem take4 {n : Nat} {b : List D} (hb : IsBox n b) (hn : n < 90000) : ∃ d b', z_law_take [.o b, .f (.int 4)] = some (.f (.int d), [.o b']) ∧ 0 ≤ d ∧ d < 4 ∧ IsBox (n + 1) b' := take_z hb (by decide) (by decide) (by omega)
/-- k draws one after another -/
theorem draws_z {least : Int} (l0 : 0 ≤ least) (l1 : least ≤ 1) (many alike first place : DV) (many_own : True) : ∀ (k lo : Nat) (n : Nat) (b acc : List D), IsBox n b → n + 2 * k < 90000 → acc.length + k < 100 →
    ∃ (vs : List Int) (b' : List D), lcz [8] (zgName 8) zYes (zCall (z_law_count) [0] 2 (zaCons (zoVar 0) (zaCons (zoVal (zVar 1)) zaNil))) ((List.range' lo k).map fun (i : Nat) => D.int (0 + (i : Int))) acc [.o b, .f (.int least), many, alike, first, place, .u, .u, .u] =
      some (.o (acc ++ vs.map D.int), [.o b', .f (.int least), many, alike, first, place, .u, .u, .u]) ∧ vs.length = k ∧ (∀ v ∈ vs, least ≤ v ∧ v ≤ 8) ∧ IsBox (n + 2 * k) b'
  | 0, lo, n, b, acc, hb, _, _ => ⟨[], b, by simp [lcz], rfl, by simp, hb⟩
  | k + 1, lo, n, b, acc, hb, hn, hk => by
    obtain ⟨v, b1, e1, v0, v1, B1⟩ := count_z hb l0 l1 (by omega)
    obtain ⟨vs, b2, e2, h1, h2, h3⟩ := draws_z l0 l1 many alike first place trivial k (lo + 1) (n + 2) b1 (acc ++ [.int v]) B1 (by omega) (by rw [List.length_append, List.length_singleton]; omega)
    refine ⟨v :: vs, b2, ?_, by simp [h1], fun x hx => ?_, h3.mono (by omega)⟩
    · have q : acc.length < sizeLine := by show acc.length < 16777216; omega
      have q' : acc.length < 16777216 := by omega
      rw [List.range'_succ, List.map_cons, lcz]
      simp [zBody, zSeq, zIfS, zAnd', zOr', zNot', zTru, zOp, zUn, zoVar, zoVal, zB', zCmp, zII, reqz, zC, zVar, zMove, fzz, lookz, D.s, zIx, atI, ixN, truthz, boolz, zSet, zSetIx, zRet, zB, zInt, zaCons, zaNil, lookAllz, allVz, zMod, zFdiv, zPow, zAdd, zMulI, zSub', zNeg, CDiv, isOz, isValz, argIz, outs, zNext, zIf, zPar, zdCons, zdNil, storeAllz, zLst, zTup, zEq, eqS, zIsN, isNonD, zIsB, zNot, zAnd, zOr, zLen, zChain, zIsi, D.ty, isB, isAny, zRetN, zDrop, zAsg, zgTup, zgCons, zgNil, zgName, zCall, callAz, posA, refsA, ownAll, dvA, setL, DV.own, wipeE, back, keepF, zYes, e1, q, q']
      simpa using e2
    · rcases List.mem_cons.mp hx with rfl | hx
      · exact ⟨v0, v1⟩
      · exact h2 x hx
theorem short_of {l m : Int} {vs : List Int} (h : 1 ≤ vs.length) (h4 : vs.length ≤ 4) (hv : ∀ v ∈ vs, l ≤ v ∧ v ≤ m) : Short l m vs := by
  match vs, h, h4, hv with
  | [a], _, _, hv => exact .inl ⟨a, rfl, (hv a (by simp)).1, (hv a (by simp)).2⟩
  | [a, b], _, _, hv => exact .inr (.inl ⟨a, b, rfl, (hv a (by simp)).1, (hv a (by simp)).2, (hv b (by simp)).1, (hv b (by simp)).2⟩)
  | [a, b, c], _, _, hv => exact .inr (.inr (.inl ⟨a, b, c, rfl, (hv a (by simp)).1, (hv a (by simp)).2, (hv b (by simp)).1, (hv b (by simp)).2, (hv c (by simp)).1, (hv c (by simp)).2⟩))
  | [a, b, c, d], _, _, hv => exact .inr (.inr (.inr ⟨a, b, c, d, rfl, (hv a (by simp)).1, (hv a (by simp)).2, (hv b (by simp)).1, (hv b (by simp)).2, (hv c (by simp)).1, (hv c (by simp)).2, (hv d (by simp)).1, (hv d (by simp)).2⟩))
  | _ :: _ :: _ :: _ :: _ :: _, _, h4, _ => simp at h4
theorem counts_z {n : Nat} {b : List D} {least : Int} (hb : IsBox n b) (l0 : 0 ≤ least) (l1 : least ≤ 1) (hn : n < 80000) :
    ∃ vs b', z_law_counts [.o b, .f (.int least)] = some (.o (vs.map D.int), [.o b']) ∧ Short least 8 vs ∧ IsBox (n + 20) b' := by
  obtain ⟨d1, b1, e1, x1, y1, B1⟩ := take4 hb (by omega)
  obtain ⟨d2, b2, e2, x2, y2, B2⟩ := take4 B1 (by omega)
  obtain ⟨v, b3, e3, x3, y3, B3⟩ := count_z B2 l0 l1 (by omega)
  obtain ⟨d4, b4, e4, x4, y4, B4⟩ := take4 B3 (by omega)
  by_cases w : d2 = 0
  · subst w
    have hd : d1 = 0 ∨ d1 = 1 ∨ d1 = 2 ∨ d1 = 3 := by omega
    refine ⟨List.replicate (1 + d1).toNat v, b4, ?_, short_of ?_ ?_ ?_, B4.mono (by omega)⟩
    · unfold z_law_counts
      rcases hd with rfl | rfl | rfl | rfl <;>
      simp [zBody, zSeq, zIfS, zAnd', zOr', zNot', zTru, zOp, zUn, zoVar, zoVal, zB', zCmp, zII, reqz, zC, zVar, zMove, fzz, lookz, D.s, zIx, atI, ixN, truthz, boolz, zSet, zSetIx, zRet, zB, zInt, zaCons, zaNil, lookAllz, allVz, zMod, zFdiv, zPow, zAdd, zMulI, zSub', zNeg, CDiv, isOz, isValz, argIz, outs, zNext, zIf, zPar, zdCons, zdNil, storeAllz, zLst, zTup, zEq, eqS, zIsN, isNonD, zIsB, zNot, zAnd, zOr, zLen, zChain, zIsi, D.ty, isB, isAny, zRetN, zDrop, zAsg, zgTup, zgCons, zgNil, zgName, zCall, callAz, posA, refsA, ownAll, dvA, setL, DV.own, zLc, ziSq, isSqz, lcz, wipeE, back, keepF, zYes, sizeLine, zAllB, blsD, zCallK, permL, zTuple, zList, zCallB, callBz, dvB, flatR, flat, flats, zMin, zMax, intsD, minI, maxI, ziRange1, one1, rangeD, zSl, zpNone, zpSome, zSum, zAbs, e1, e2, e3, e4, zRepL] <;> decide
    · rw [List.length_replicate]; omega
    · rw [List.length_replicate]; omega
    · intro x hx
      rw [(List.mem_replicate.mp hx).2]
      exact ⟨x3, y3⟩
  · obtain ⟨vs, b5, e5, z1, z2, B5⟩ := draws_z l0 l1 (.f (.int (1 + d1))) (.f (.bl false)) (.f (.int v)) (.f (.int d4)) trivial (1 + d1).toNat 0 _ b4 [] B4 (by omega) (by simp; omega)
    have hs : Short least 8 vs := short_of (by omega) (by omega) z2
    have er : rangeD 0 (1 + d1).toNat = (List.range' 0 (1 + d1).toNat).map fun (i : Nat) => D.int (0 + (i : Int)) := by unfold rangeD; rw [List.range_eq_range']
    have hr : -(2 ^ 62) ≤ 1 + d1 ∧ 1 + d1 < 2 ^ 62 := by constructor <;> omega
    rw [List.nil_append] at e5
    have hlc : zLc [8] (ziRange1 (zaCons (zoVar 2) zaNil)) (zgName 8) zYes (zCall (z_law_count) [0] 2 (zaCons (zoVar 0) (zaCons (zoVal (zVar 1)) zaNil))) [.o b4, .f (.int least), .f (.int (1 + d1)), .f (.bl false), .f (.int v), .f (.int d4), .u, .u, .u] =
        some (.o (vs.map D.int), [.o b5, .f (.int least), .f (.int (1 + d1)), .f (.bl false), .f (.int v), .f (.int d4), .u, .u, .u]) := by
      have e0 : ziRange1 (zaCons (zoVar 2) zaNil) [.o b4, .f (.int least), .f (.int (1 + d1)), .f (.bl false), .f (.int v), .f (.int d4), .u, .u, .u] = some (rangeD 0 (1 + d1).toNat, [.o b4, .f (.int least), .f (.int (1 + d1)), .f (.bl false), .f (.int v), .f (.int d4), .u, .u, .u]) := by
        have r1 := hr.1
        have r2 := hr.2
        simp [ziRange1, zBody, zSeq, zIfS, zAnd', zOr', zNot', zTru, zOp, zUn, zoVar, zoVal, zB', zCmp, zII, reqz, zC, zVar, zMove, fzz, lookz, D.s, zIx, atI, ixN, truthz, boolz, zSet, zSetIx, zRet, zB, zInt, zaCons, zaNil, lookAllz, allVz, zMod, zFdiv, zPow, zAdd, zMulI, zSub', zNeg, CDiv, isOz, isValz, argIz, outs, zNext, zIf, zPar, zdCons, zdNil, storeAllz, zLst, zTup, zEq, eqS, zIsN, isNonD, zIsB, zNot, zAnd, zOr, zLen, zChain, zIsi, D.ty, isB, isAny, zRetN, zDrop, zAsg, zgTup, zgCons, zgNil, zgName, one1]
        omega
      unfold zLc
      rw [e0]
      rw [er]
      exact e5
    obtain ⟨ne, m0, m1⟩ := short_min hs
    obtain ⟨mn, _⟩ := min_z ne
    by_cases c : 0 < d1 ∧ d4 < 1 + d1
    · obtain ⟨c1, c2⟩ := c
      have c0 : 1 < 1 + d1 := by omega
      have a1 : (vs.length : Int) = 1 + d1 := by rw [z1]; exact Int.toNat_of_nonneg (by omega)
      have hlt : d4 < (vs.length : Int) := by omega
      refine ⟨vs.set d4.toNat (if leastI vs - 1 > least then leastI vs - 1 else least), b5, ?_, short_of (by rw [List.length_set]; omega) (by rw [List.length_set]; omega) ?_, B5.mono (by omega)⟩
      · unfold z_law_counts
        generalize zLc [8] (ziRange1 (zaCons (zoVar 2) zaNil)) (zgName 8) zYes (zCall (z_law_count) [0] 2 (zaCons (zoVar 0) (zaCons (zoVal (zVar 1)) zaNil))) = L at hlc ⊢
        generalize zMin = MN at mn ⊢
        simp [zBody, zSeq, zIfS, zAnd', zOr', zNot', zTru, zOp, zUn, zoVar, zoVal, zB', zCmp, zII, reqz, zC, zVar, zMove, fzz, lookz, D.s, zIx, atI, ixN, truthz, boolz, zSet, zSetIx, zRet, zB, zInt, zaCons, zaNil, lookAllz, allVz, zMod, zFdiv, zPow, zAdd, zMulI, zSub', zNeg, CDiv, isOz, isValz, argIz, outs, zNext, zIf, zPar, zdCons, zdNil, storeAllz, zLst, zTup, zEq, eqS, zIsN, isNonD, zIsB, zNot, zAnd, zOr, zLen, zChain, zIsi, D.ty, isB, isAny, zRetN, zDrop, zAsg, zgTup, zgCons, zgNil, zgName, zCall, callAz, posA, refsA, ownAll, dvA, setL, DV.own, e1, e2, e3, e4, w, hlc, c0, c1, c2, mn, zMax, hlt, x4, List.map_set]
      · intro x hx
        rcases List.mem_or_eq_of_mem_set hx with hx | rfl
        · exact z2 x hx
        · split <;> constructor <;> omega
    · refine ⟨vs, b5, ?_, hs, B5.mono (by omega)⟩
      have c' : 0 < d1 → ¬ d4 < 1 + d1 := fun a b => c ⟨a, b⟩
      unfold z_law_counts
      generalize zLc [8] (ziRange1 (zaCons (zoVar 2) zaNil)) (zgName 8) zYes (zCall (z_law_count) [0] 2 (zaCons (zoVar 0) (zaCons (zoVal (zVar 1)) zaNil))) = L at hlc ⊢
      by_cases c1 : 0 < d1
      · have c2 := c' c1
        have c0 : 1 < 1 + d1 := by omega
        simp [zBody, zSeq, zIfS, zAnd', zOr', zNot', zTru, zOp, zUn, zoVar, zoVal, zB', zCmp, zII, reqz, zC, zVar, zMove, fzz, lookz, D.s, zIx, atI, ixN, truthz, boolz, zSet, zSetIx, zRet, zB, zInt, zaCons, zaNil, lookAllz, allVz, zMod, zFdiv, zPow, zAdd, zMulI, zSub', zNeg, CDiv, isOz, isValz, argIz, outs, zNext, zIf, zPar, zdCons, zdNil, storeAllz, zLst, zTup, zEq, eqS, zIsN, isNonD, zIsB, zNot, zAnd, zOr, zLen, zChain, zIsi, D.ty, isB, isAny, zRetN, zDrop, zAsg, zgTup, zgCons, zgNil, zgName, zCall, callAz, posA, refsA, ownAll, dvA, setL, DV.own, e1, e2, e3, e4, w, hlc, c0, c1, c2]
      · have c0 : ¬ 1 < 1 + d1 := by omega
        simp [zBody, zSeq, zIfS, zAnd', zOr', zNot', zTru, zOp, zUn, zoVar, zoVal, zB', zCmp, zII, reqz, zC, zVar, zMove, fzz, lookz, D.s, zIx, atI, ixN, truthz, boolz, zSet, zSetIx, zRet, zB, zInt, zaCons, zaNil, lookAllz, allVz, zMod, zFdiv, zPow, zAdd, zMulI, zSub', zNeg, CDiv, isOz, isValz, argIz, outs, zNext, zIf, zPar, zdCons, zdNil, storeAllz, zLst, zTup, zEq, eqS, zIsN, isNonD, zIsB, zNot, zAnd, zOr, zLen, zChain, zIsi, D.ty, isB, isAny, zRetN, zDrop, zAsg, zgTup, zgCons, zgNil, zgName, zCall, callAz, posA, refsA, ownAll, dvA, setL, DV.own, e1, e2, e3, e4, w, hlc, c0, c1]
end Wk
namespace Wk
open PySem PySem.Spec PyProof.Rows L2 VL
theorem line_1_0 : isT (z_law_line_right [.f (.int 1), .f (.int 0), .f (.int (bsi 0 1))]) = true := by decide +kernel
theorem line_1_1 : isT (z_law_line_right [.f (.int 1), .f (.int 1), .f (.int (bsi 1 1))]) = true := by decide +kernel
theorem line_1_2 : isT (z_law_line_right [.f (.int 1), .f (.int 2), .f (.int (bsi 2 1))]) = true := by decide +kernel
theorem line_1_3 : isT (z_law_line_right [.f (.int 1), .f (.int 3), .f (.int (bsi 3 1))]) = true := by decide +kernel
theorem line_1_4 : isT (z_law_line_right [.f (.int 1), .f (.int 4), .f (.int (bsi 4 1))]) = true := by decide +kernel
theorem line_1_5 : isT (z_law_line_right [.f (.int 1), .f (.int 5), .f (.int (bsi 5 1))]) = true := by decide +kernel
theorem line_1_6 : isT (z_law_line_right [.f (.int 1), .f (.int 6), .f (.int (bsi 6 1))]) = true := by decide +kernel
theorem line_1_7 : isT (z_law_line_right [.f (.int 1), .f (.int 7), .f (.int (bsi 7 1))]) = true := by decide +kernel
theorem line_1_8 : isT (z_law_line_right [.f (.int 1), .f (.int 8), .f (.int (bsi 8 1))]) = true := by decide +kernel
theorem line_2_0 : isT (z_law_line_right [.f (.int 2), .f (.int 0), .f (.int (bsi 0 2))]) = true := by decide +kernel
theorem line_2_1 : isT (z_law_line_right [.f (.int 2), .f (.int 1), .f (.int (bsi 1 2))]) = true := by decide +kernel
theorem line_2_2 : isT (z_law_line_right [.f (.int 2), .f (.int 2), .f (.int (bsi 2 2))]) = true := by decide +kernel
theorem line_2_3 : isT (z_law_line_right [.f (.int 2), .f (.int 3), .f (.int (bsi 3 2))]) = true := by decide +kernel
theorem line_2_4 : isT (z_law_line_right [.f (.int 2), .f (.int 4), .f (.int (bsi 4 2))]) = true := by decide +kernel
theorem line_2_5 : isT (z_law_line_right [.f (.int 2), .f (.int 5), .f (.int (bsi 5 2))]) = true := by decide +kernel
theorem line_2_6 : isT (z_law_line_right [.f (.int 2), .f (.int 6), .f (.int (bsi 6 2))]) = true := by decide +kernel
theorem line_2_7 : isT (z_law_line_right [.f (.int 2), .f (.int 7), .f (.int (bsi 7 2))]) = true := by decide +kernel
theorem line_2_8 : isT (z_law_line_right [.f (.int 2), .f (.int 8), .f (.int (bsi 8 2))]) = true := by decide +kernel
theorem line_3_0 : isT (z_law_line_right [.f (.int 3), .f (.int 0), .f (.int (bsi 0 3))]) = true := by decide +kernel
theorem line_3_1 : isT (z_law_line_right [.f (.int 3), .f (.int 1), .f (.int (bsi 1 3))]) = true := by decide +kernel
theorem line_3_2 : isT (z_law_line_right [.f (.int 3), .f (.int 2), .f (.int (bsi 2 3))]) = true := by decide +kernel
theorem line_3_3 : isT (z_law_line_right [.f (.int 3), .f (.int 3), .f (.int (bsi 3 3))]) = true := by decide +kernel
theorem line_3_4 : isT (z_law_line_right [.f (.int 3), .f (.int 4), .f (.int (bsi 4 3))]) = true := by decide +kernel
theorem line_3_5 : isT (z_law_line_right [.f (.int 3), .f (.int 5), .f (.int (bsi 5 3))]) = true := by decide +kernel
theorem line_3_6 : isT (z_law_line_right [.f (.int 3), .f (.int 6), .f (.int (bsi 6 3))]) = true := by decide +kernel
theorem line_3_7 : isT (z_law_line_right [.f (.int 3), .f (.int 7), .f (.int (bsi 7 3))]) = true := by decide +kernel
theorem line_3_8 : isT (z_law_line_right [.f (.int 3), .f (.int 8), .f (.int (bsi 8 3))]) = true := by decide +kernel
theorem line_4_0 : isT (z_law_line_right [.f (.int 4), .f (.int 0), .f (.int (bsi 0 4))]) = true := by decide +kernel
theorem line_4_1 : isT (z_law_line_right [.f (.int 4), .f (.int 1), .f (.int (bsi 1 4))]) = true := by decide +kernel
theorem line_4_2 : isT (z_law_line_right [.f (.int 4), .f (.int 2), .f (.int (bsi 2 4))]) = true := by decide +kernel
theorem line_4_3 : isT (z_law_line_right [.f (.int 4), .f (.int 3), .f (.int (bsi 3 4))]) = true := by decide +kernel
theorem line_4_4 : isT (z_law_line_right [.f (.int 4), .f (.int 4), .f (.int (bsi 4 4))]) = true := by decide +kernel
theorem line_4_5 : isT (z_law_line_right [.f (.int 4), .f (.int 5), .f (.int (bsi 5 4))]) = true := by decide +kernel
theorem line_4_6 : isT (z_law_line_right [.f (.int 4), .f (.int 6), .f (.int (bsi 6 4))]) = true := by decide +kernel
theorem line_4_7 : isT (z_law_line_right [.f (.int 4), .f (.int 7), .f (.int (bsi 7 4))]) = true := by decide +kernel
theorem line_4_8 : isT (z_law_line_right [.f (.int 4), .f (.int 8), .f (.int (bsi 8 4))]) = true := by decide +kernel
theorem line_5_0 : isT (z_law_line_right [.f (.int 5), .f (.int 0), .f (.int (bsi 0 5))]) = true := by decide +kernel
theorem line_5_1 : isT (z_law_line_right [.f (.int 5), .f (.int 1), .f (.int (bsi 1 5))]) = true := by decide +kernel
theorem line_5_2 : isT (z_law_line_right [.f (.int 5), .f (.int 2), .f (.int (bsi 2 5))]) = true := by decide +kernel
theorem line_5_3 : isT (z_law_line_right [.f (.int 5), .f (.int 3), .f (.int (bsi 3 5))]) = true := by decide +kernel
theorem line_5_4 : isT (z_law_line_right [.f (.int 5), .f (.int 4), .f (.int (bsi 4 5))]) = true := by decide +kernel
theorem line_5_5 : isT (z_law_line_right [.f (.int 5), .f (.int 5), .f (.int (bsi 5 5))]) = true := by decide +kernel
theorem line_5_6 : isT (z_law_line_right [.f (.int 5), .f (.int 6), .f (.int (bsi 6 5))]) = true := by decide +kernel
theorem line_5_7 : isT (z_law_line_right [.f (.int 5), .f (.int 7), .f (.int (bsi 7 5))]) = true := by decide +kernel
theorem line_5_8 : isT (z_law_line_right [.f (.int 5), .f (.int 8), .f (.int (bsi 8 5))]) = true := by decide +kernel
theorem line_6_0 : isT (z_law_line_right [.f (.int 6), .f (.int 0), .f (.int (bsi 0 6))]) = true := by decide +kernel
theorem line_6_1 : isT (z_law_line_right [.f (.int 6), .f (.int 1), .f (.int (bsi 1 6))]) = true := by decide +kernel
theorem line_6_2 : isT (z_law_line_right [.f (.int 6), .f (.int 2), .f (.int (bsi 2 6))]) = true := by decide +kernel
theorem line_6_3 : isT (z_law_line_right [.f (.int 6), .f (.int 3), .f (.int (bsi 3 6))]) = true := by decide +kernel
theorem line_6_4 : isT (z_law_line_right [.f (.int 6), .f (.int 4), .f (.int (bsi 4 6))]) = true := by decide +kernel
theorem line_6_5 : isT (z_law_line_right [.f (.int 6), .f (.int 5), .f (.int (bsi 5 6))]) = true := by decide +kernel
theorem line_6_6 : isT (z_law_line_right [.f (.int 6), .f (.int 6), .f (.int (bsi 6 6))]) = true := by decide +kernel
theorem line_6_7 : isT (z_law_line_right [.f (.int 6), .f (.int 7), .f (.int (bsi 7 6))]) = true := by decide +kernel
theorem line_6_8 : isT (z_law_line_right [.f (.int 6), .f (.int 8), .f (.int (bsi 8 6))]) = true := by decide +kernel
theorem line_7_0 : isT (z_law_line_right [.f (.int 7), .f (.int 0), .f (.int (bsi 0 7))]) = true := by decide +kernel
theorem line_7_1 : isT (z_law_line_right [.f (.int 7), .f (.int 1), .f (.int (bsi 1 7))]) = true := by decide +kernel
theorem line_7_2 : isT (z_law_line_right [.f (.int 7), .f (.int 2), .f (.int (bsi 2 7))]) = true := by decide +kernel
theorem line_7_3 : isT (z_law_line_right [.f (.int 7), .f (.int 3), .f (.int (bsi 3 7))]) = true := by decide +kernel
theorem line_7_4 : isT (z_law_line_right [.f (.int 7), .f (.int 4), .f (.int (bsi 4 7))]) = true := by decide +kernel
theorem line_7_5 : isT (z_law_line_right [.f (.int 7), .f (.int 5), .f (.int (bsi 5 7))]) = true := by decide +kernel
theorem line_7_6 : isT (z_law_line_right [.f (.int 7), .f (.int 6), .f (.int (bsi 6 7))]) = true := by decide +kernel
theorem line_7_7 : isT (z_law_line_right [.f (.int 7), .f (.int 7), .f (.int (bsi 7 7))]) = true := by decide +kernel
theorem line_7_8 : isT (z_law_line_right [.f (.int 7), .f (.int 8), .f (.int (bsi 8 7))]) = true := by decide +kernel
theorem line_8_0 : isT (z_law_line_right [.f (.int 8), .f (.int 0), .f (.int (bsi 0 8))]) = true := by decide +kernel
theorem line_8_1 : isT (z_law_line_right [.f (.int 8), .f (.int 1), .f (.int (bsi 1 8))]) = true := by decide +kernel
theorem line_8_2 : isT (z_law_line_right [.f (.int 8), .f (.int 2), .f (.int (bsi 2 8))]) = true := by decide +kernel
theorem line_8_3 : isT (z_law_line_right [.f (.int 8), .f (.int 3), .f (.int (bsi 3 8))]) = true := by decide +kernel
theorem line_8_4 : isT (z_law_line_right [.f (.int 8), .f (.int 4), .f (.int (bsi 4 8))]) = true := by decide +kernel
theorem line_8_5 : isT (z_law_line_right [.f (.int 8), .f (.int 5), .f (.int (bsi 5 8))]) = true := by decide +kernel
theorem line_8_6 : isT (z_law_line_right [.f (.int 8), .f (.int 6), .f (.int (bsi 6 8))]) = true := by decide +kernel
theorem line_8_7 : isT (z_law_line_right [.f (.int 8), .f (.int 7), .f (.int (bsi 7 8))]) = true := by decide +kernel
theorem line_8_8 : isT (z_law_line_right [.f (.int 8), .f (.int 8), .f (.int (bsi 8 8))]) = true := by decide +kernel
theorem line_z {v a : Int} (v0 : 1 ≤ v) (v1 : v ≤ 8) (a0 : 0 ≤ a) (a1 : a ≤ 8) : z_law_line_right [.f (.int v), .f (.int a), .f (.int (bsi a v))] = some (.f (.bl true), []) := by
  have ha : a = 0 ∨ a = 1 ∨ a = 2 ∨ a = 3 ∨ a = 4 ∨ a = 5 ∨ a = 6 ∨ a = 7 ∨ a = 8 := by omega
  have hv : v = 1 ∨ v = 2 ∨ v = 3 ∨ v = 4 ∨ v = 5 ∨ v = 6 ∨ v = 7 ∨ v = 8 := by omega
  rcases hv with rfl | rfl | rfl | rfl | rfl | rfl | rfl | rfl <;> rcases ha with rfl | rfl | rfl | rfl | rfl | rfl | rfl | rfl | rfl
  · exact isT_eq line_1_0
  · exact isT_eq line_1_1
  · exact isT_eq line_1_2
  · exact isT_eq line_1_3
  · exact isT_eq line_1_4
  · exact isT_eq line_1_5
  · exact isT_eq line_1_6
  · exact isT_eq line_1_7
  · exact isT_eq line_1_8
  · exact isT_eq line_2_0
  · exact isT_eq line_2_1
  · exact isT_eq line_2_2
  · exact isT_eq line_2_3
  · exact isT_eq line_2_4
  · exact isT_eq line_2_5
  · exact isT_eq line_2_6
  · exact isT_eq line_2_7
  · exact isT_eq line_2_8
  · exact isT_eq line_3_0
  · exact isT_eq line_3_1
  · exact isT_eq line_3_2
  · exact isT_eq line_3_3
  · exact isT_eq line_3_4
  · exact isT_eq line_3_5
  · exact isT_eq line_3_6
  · exact isT_eq line_3_7
  · exact isT_eq line_3_8
  · exact isT_eq line_4_0
  · exact isT_eq line_4_1
  · exact isT_eq line_4_2
  · exact isT_eq line_4_3
  · exact isT_eq line_4_4
  · exact isT_eq line_4_5
  · exact isT_eq line_4_6
  · exact isT_eq line_4_7
  · exact isT_eq line_4_8
  · exact isT_eq line_5_0
  · exact isT_eq line_5_1
  · exact isT_eq line_5_2
  · exact isT_eq line_5_3
  · exact isT_eq line_5_4
  · exact isT_eq line_5_5
  · exact isT_eq line_5_6
  · exact isT_eq line_5_7
  · exact isT_eq line_5_8
  · exact isT_eq line_6_0
  · exact isT_eq line_6_1
  · exact isT_eq line_6_2
  · exact isT_eq line_6_3
  · exact isT_eq line_6_4
  · exact isT_eq line_6_5
  · exact isT_eq line_6_6
  · exact isT_eq line_6_7
  · exact isT_eq line_6_8
  · exact isT_eq line_7_0
  · exact isT_eq line_7_1
  · exact isT_eq line_7_2
  · exact isT_eq line_7_3
  · exact isT_eq line_7_4
  · exact isT_eq line_7_5
  · exact isT_eq line_7_6
  · exact isT_eq line_7_7
  · exact isT_eq line_7_8
  · exact isT_eq line_8_0
  · exact isT_eq line_8_1
  · exact isT_eq line_8_2
  · exact isT_eq line_8_3
  · exact isT_eq line_8_4
  · exact isT_eq line_8_5
  · exact isT_eq line_8_6
  · exact isT_eq line_8_7
  · exact isT_eq line_8_8
end Wk
namespace Wk
open PySem PySem.Spec PyProof.Rows L2 VL
theorem same_len {vs : List Int} (h1 : 1 ≤ vs.length) (h4 : vs.length ≤ 4) (f : Int → Int) : z_law_same 2 [.f (.tup (vs.map fun v => D.int (f v))), .f (.tup (vs.map fun v => D.int (f v)))] = some (.f (.bl true), []) := by
  match vs, h1, h4 with
  | [a], _, _ => exact same_t (vs := [f a]) ⟨f a, f a, .inl ⟨_, rfl, Int.le_refl _, Int.le_refl _⟩⟩
  | [a, b], _, _ => exact same_t (vs := [f a, f b]) ⟨-((f a).natAbs + (f b).natAbs : Nat), ((f a).natAbs + (f b).natAbs : Nat), .inr (.inl ⟨_, _, rfl, by omega, by omega, by omega, by omega⟩)⟩
  | [a, b, c], _, _ => exact same_t (vs := [f a, f b, f c]) ⟨-((f a).natAbs + (f b).natAbs + (f c).natAbs : Nat), ((f a).natAbs + (f b).natAbs + (f c).natAbs : Nat), .inr (.inr (.inl ⟨_, _, _, rfl, by omega, by omega, by omega, by omega, by omega, by omega⟩))⟩
  | [a, b, c, d], _, _ => exact same_t (vs := [f a, f b, f c, f d]) ⟨-((f a).natAbs + (f b).natAbs + (f c).natAbs + (f d).natAbs : Nat), ((f a).natAbs + (f b).natAbs + (f c).natAbs + (f d).natAbs : Nat), .inr (.inr (.inr ⟨_, _, _, _, rfl, by omega, by omega, by omega, by omega, by omega, by omega, by omega, by omega⟩))⟩
  | _ :: _ :: _ :: _ :: _ :: _, _, h4 => simp at h4
theorem at0 {x : D} {xs : List D} : atI (x :: xs) 0 = some x := by
  unfold atI ixN; rw [if_pos (by decide), if_pos (by simp only [List.length_cons]; omega)]; rfl
theorem at1 {x y : D} {xs : List D} : atI (x :: y :: xs) 1 = some y := by
  unfold atI ixN; rw [if_pos (by decide), if_pos (by simp only [List.length_cons]; omega)]; rfl
theorem at2 {x y z : D} {xs : List D} : atI (x :: y :: z :: xs) 2 = some z := by
  unfold atI ixN; rw [if_pos (by decide), if_pos (by simp only [List.length_cons]; omega)]; rfl
theorem at3 {x y z w : D} {xs : List D} : atI (x :: y :: z :: w :: xs) 3 = some w := by
  unfold atI ixN; rw [if_pos (by decide), if_pos (by simp only [List.length_cons]; omega)]; rfl
theorem ix0 {n : Nat} : ixN (n + 1) 0 = some 0 := by
  unfold ixN; rw [if_pos (by decide), if_pos (by omega)]; rfl
def rowL (a : Int) : List D := (bestT.getD (a.toNat + 2) []).map fun (n : Nat) => D.int (n : Nat)
theorem bestR {a : Int} (a0 : 0 ≤ a) (a1 : a ≤ 8) : atI bestL (a + 2) = some (.lst (rowL a)) := best_at a0 a1
theorem rowR {a v : Int} (a0 : 0 ≤ a) (a1 : a ≤ 8) (v0 : 0 ≤ v) (v1 : v ≤ 8) : atI (rowL a) v = some (.int (bsi a v)) := row_at a0 a1 v0 v1
theorem gather_z {n : Nat} {b : List D} (hb : IsBox n b) (hn : n < 10000) : ∃ b', z_law_gather_right [.o b, .f (.lst bestL)] = some (.f (.bl true), [.o b']) ∧ IsBox (n + 60) b' := by
  obtain ⟨vs, b1, e1, hs, B1⟩ := counts_z hb (show (0:Int) ≤ 1 by decide) (show (1:Int) ≤ 1 by decide) (by omega)
  obtain ⟨a, b2, e2, a0, a1, B2⟩ := count_z B1 (show (0:Int) ≤ 0 by decide) (show (0:Int) ≤ 1 by decide) (by omega)
  obtain ⟨w0, b3, e3, _, _, B3⟩ := take4 B2 (by omega)
  obtain ⟨w1, b4, e4, _, _, B4⟩ := take4 B3 (by omega)
  have hlen : 0 < (vs.length : Int) ∧ (vs.length : Int) < 1000 := by
    rcases hs with ⟨x, rfl, _⟩ | ⟨x, y, rfl, _⟩ | ⟨x, y, z, rfl, _⟩ | ⟨x, y, z, w, rfl, _⟩ <;> simp
  obtain ⟨k, b5, e5, k0, k1, B5⟩ := take_z B4 hlen.1 hlen.2 (by omega)
  obtain ⟨m, b6, e6, m0, m1, B6⟩ := count_z B5 (show (0:Int) ≤ 0 by decide) (show (0:Int) ≤ 1 by decide) (by omega)
  refine ⟨b6, ?_, B6.mono (by omega)⟩
  have t1 := fun w => gtold_z (w := w) hs a0 a1
  have s1 := same_t ⟨1, 8, hs⟩
  have r := eqD_refl ⟨1, 8, hs⟩
  have ba := bestR a0 a1
  have bm := bestR m0 m1
  rcases hs with ⟨x, rfl, p0, q0⟩ | ⟨x, y, rfl, p0, q0, p1, q1⟩ | ⟨x, y, z, rfl, p0, q0, p1, q1, p2, q2⟩ | ⟨x, y, z, u, rfl, p0, q0, p1, q1, p2, q2, p3, q3⟩
  · have h2 : Short 1 8 [9 - x] := .inl ⟨9 - x, rfl, (by omega), (by omega)⟩
    have t2 := fun w => gtold_z (w := w) h2 m0 m1
    have s0 : ∀ a : Int, z_law_same 2 [.f (.tup (([x] : List Int).map fun v => D.int (bsi a v))), .f (.tup (([x] : List Int).map fun v => D.int (bsi a v)))] = some (.f (.bl true), []) := fun a => same_len (by simp) (by simp) _
    have s2 : z_law_same 2 [.f (.tup (([9 - x] : List Int).map fun v => D.int (bsi m v))), .f (.tup (([9 - x] : List Int).map fun v => D.int (bsi m v)))] = some (.f (.bl true), []) := same_len (by simp) (by simp) _
    have s3 := s0 a
    have r0 := rowR a0 a1 (v := x) (by omega) (by omega)
    have n0 := line_z (v := x) (a := a) (by omega) (by omega) a0 a1
    have rr := rowR m0 m1 (v := 9 - x) (by omega) (by omega)
    have hk : k = 0 := by simp at k1; omega
    simp only [List.map_cons, List.map_nil] at e1 t1 t2 s3 s2 r
    simp only [List.length_cons, List.length_nil] at e5
    simp at e5
    rcases hk with rfl <;> simp [z_law_gather_right, zBody, zSeq, zIfS, zAnd', zOr', zNot', zTru, zOp, zUn, zoVar, zoVal, zB', zCmp, zII, reqz, zC, zVar, zMove, fzz, lookz, D.s, zIx, at0, at1, at2, at3, truthz, boolz, zSet, zSetIx, zRet, zB, zInt, zaCons, zaNil, lookAllz, allVz, zMod, zFdiv, zPow, zAdd, zMulI, zSub', zNeg, CDiv, isOz, isValz, argIz, outs, zNext, zIf, zPar, zdCons, zdNil, storeAllz, zLst, zTup, zEq, eqS, zIsN, isNonD, zIsB, zNot, zAnd, zOr, zLen, zChain, zIsi, D.ty, isB, isAny, zRetN, zDrop, zAsg, zgTup, zgCons, zgNil, zgName, zCall, callAz, posA, refsA, ownAll, dvA, setL, DV.own, zLc, ziSq, isSqz, lcz, wipeE, back, keepF, zYes, sizeLine, zAllB, blsD, zCallK, permL, zTuple, zList, zCallB, callBz, dvB, flatR, flat, flats, ziRange1, one1, rangeD, zSl, zpNone, zpSome, zSum, zAbs, ix0, e1, e2, e3, e4, e5, e6, t1, t2, s3, s2, r, ba, bm, rr, r0, n0]
  · have h2 : Short 1 8 [9 - x, y] := .inr (.inl ⟨9 - x, y, rfl, (by omega), (by omega), (by omega), (by omega)⟩)
    have t2 := fun w => gtold_z (w := w) h2 m0 m1
    have s0 : ∀ a : Int, z_law_same 2 [.f (.tup (([x, y] : List Int).map fun v => D.int (bsi a v))), .f (.tup (([x, y] : List Int).map fun v => D.int (bsi a v)))] = some (.f (.bl true), []) := fun a => same_len (by simp) (by simp) _
    have s2 : z_law_same 2 [.f (.tup (([9 - x, y] : List Int).map fun v => D.int (bsi m v))), .f (.tup (([9 - x, y] : List Int).map fun v => D.int (bsi m v)))] = some (.f (.bl true), []) := same_len (by simp) (by simp) _
    have s3 := s0 a
    have r0 := rowR a0 a1 (v := x) (by omega) (by omega)
    have n0 := line_z (v := x) (a := a) (by omega) (by omega) a0 a1
    have r1 := rowR a0 a1 (v := y) (by omega) (by omega)
    have n1 := line_z (v := y) (a := a) (by omega) (by omega) a0 a1
    have rr := rowR m0 m1 (v := 9 - x) (by omega) (by omega)
    have rm1 := rowR m0 m1 (v := y) (by omega) (by omega)
    have hk : k = 0 ∨ k = 1 := by simp at k1; omega
    simp only [List.map_cons, List.map_nil] at e1 t1 t2 s3 s2 r
    simp only [List.length_cons, List.length_nil] at e5
    simp at e5
    rcases hk with rfl | rfl <;> simp [z_law_gather_right, zBody, zSeq, zIfS, zAnd', zOr', zNot', zTru, zOp, zUn, zoVar, zoVal, zB', zCmp, zII, reqz, zC, zVar, zMove, fzz, lookz, D.s, zIx, at0, at1, at2, at3, truthz, boolz, zSet, zSetIx, zRet, zB, zInt, zaCons, zaNil, lookAllz, allVz, zMod, zFdiv, zPow, zAdd, zMulI, zSub', zNeg, CDiv, isOz, isValz, argIz, outs, zNext, zIf, zPar, zdCons, zdNil, storeAllz, zLst, zTup, zEq, eqS, zIsN, isNonD, zIsB, zNot, zAnd, zOr, zLen, zChain, zIsi, D.ty, isB, isAny, zRetN, zDrop, zAsg, zgTup, zgCons, zgNil, zgName, zCall, callAz, posA, refsA, ownAll, dvA, setL, DV.own, zLc, ziSq, isSqz, lcz, wipeE, back, keepF, zYes, sizeLine, zAllB, blsD, zCallK, permL, zTuple, zList, zCallB, callBz, dvB, flatR, flat, flats, ziRange1, one1, rangeD, zSl, zpNone, zpSome, zSum, zAbs, ix0, e1, e2, e3, e4, e5, e6, t1, t2, s3, s2, r, ba, bm, rr, r0, r1, n0, n1, rm1]
  · have h2 : Short 1 8 [9 - x, y, z] := .inr (.inr (.inl ⟨9 - x, y, z, rfl, (by omega), (by omega), (by omega), (by omega), (by omega), (by omega)⟩))
    have t2 := fun w => gtold_z (w := w) h2 m0 m1
    have s0 : ∀ a : Int, z_law_same 2 [.f (.tup (([x, y, z] : List Int).map fun v => D.int (bsi a v))), .f (.tup (([x, y, z] : List Int).map fun v => D.int (bsi a v)))] = some (.f (.bl true), []) := fun a => same_len (by simp) (by simp) _
    have s2 : z_law_same 2 [.f (.tup (([9 - x, y, z] : List Int).map fun v => D.int (bsi m v))), .f (.tup (([9 - x, y, z] : List Int).map fun v => D.int (bsi m v)))] = some (.f (.bl true), []) := same_len (by simp) (by simp) _
    have s3 := s0 a
    have r0 := rowR a0 a1 (v := x) (by omega) (by omega)
    have n0 := line_z (v := x) (a := a) (by omega) (by omega) a0 a1
    have r1 := rowR a0 a1 (v := y) (by omega) (by omega)
    have n1 := line_z (v := y) (a := a) (by omega) (by omega) a0 a1
    have r2 := rowR a0 a1 (v := z) (by omega) (by omega)
    have n2 := line_z (v := z) (a := a) (by omega) (by omega) a0 a1
    have rr := rowR m0 m1 (v := 9 - x) (by omega) (by omega)
    have rm1 := rowR m0 m1 (v := y) (by omega) (by omega)
    have rm2 := rowR m0 m1 (v := z) (by omega) (by omega)
    have hk : k = 0 ∨ k = 1 ∨ k = 2 := by simp at k1; omega
    simp only [List.map_cons, List.map_nil] at e1 t1 t2 s3 s2 r
    simp only [List.length_cons, List.length_nil] at e5
    simp at e5
    rcases hk with rfl | rfl | rfl <;> simp [z_law_gather_right, zBody, zSeq, zIfS, zAnd', zOr', zNot', zTru, zOp, zUn, zoVar, zoVal, zB', zCmp, zII, reqz, zC, zVar, zMove, fzz, lookz, D.s, zIx, at0, at1, at2, at3, truthz, boolz, zSet, zSetIx, zRet, zB, zInt, zaCons, zaNil, lookAllz, allVz, zMod, zFdiv, zPow, zAdd, zMulI, zSub', zNeg, CDiv, isOz, isValz, argIz, outs, zNext, zIf, zPar, zdCons, zdNil, storeAllz, zLst, zTup, zEq, eqS, zIsN, isNonD, zIsB, zNot, zAnd, zOr, zLen, zChain, zIsi, D.ty, isB, isAny, zRetN, zDrop, zAsg, zgTup, zgCons, zgNil, zgName, zCall, callAz, posA, refsA, ownAll, dvA, setL, DV.own, zLc, ziSq, isSqz, lcz, wipeE, back, keepF, zYes, sizeLine, zAllB, blsD, zCallK, permL, zTuple, zList, zCallB, callBz, dvB, flatR, flat, flats, ziRange1, one1, rangeD, zSl, zpNone, zpSome, zSum, zAbs, ix0, e1, e2, e3, e4, e5, e6, t1, t2, s3, s2, r, ba, bm, rr, r0, r1, r2, n0, n1, n2, rm1, rm2]
  · have h2 : Short 1 8 [9 - x, y, z, u] := .inr (.inr (.inr ⟨9 - x, y, z, u, rfl, (by omega), (by omega), (by omega), (by omega), (by omega), (by omega), (by omega), (by omega)⟩))
    have t2 := fun w => gtold_z (w := w) h2 m0 m1
    have s0 : ∀ a : Int, z_law_same 2 [.f (.tup (([x, y, z, u] : List Int).map fun v => D.int (bsi a v))), .f (.tup (([x, y, z, u] : List Int).map fun v => D.int (bsi a v)))] = some (.f (.bl true), []) := fun a => same_len (by simp) (by simp) _
    have s2 : z_law_same 2 [.f (.tup (([9 - x, y, z, u] : List Int).map fun v => D.int (bsi m v))), .f (.tup (([9 - x, y, z, u] : List Int).map fun v => D.int (bsi m v)))] = some (.f (.bl true), []) := same_len (by simp) (by simp) _
    have s3 := s0 a
    have r0 := rowR a0 a1 (v := x) (by omega) (by omega)
    have n0 := line_z (v := x) (a := a) (by omega) (by omega) a0 a1
    have r1 := rowR a0 a1 (v := y) (by omega) (by omega)
    have n1 := line_z (v := y) (a := a) (by omega) (by omega) a0 a1
    have r2 := rowR a0 a1 (v := z) (by omega) (by omega)
    have n2 := line_z (v := z) (a := a) (by omega) (by omega) a0 a1
    have r3 := rowR a0 a1 (v := u) (by omega) (by omega)
    have n3 := line_z (v := u) (a := a) (by omega) (by omega) a0 a1
    have rr := rowR m0 m1 (v := 9 - x) (by omega) (by omega)
    have rm1 := rowR m0 m1 (v := y) (by omega) (by omega)
    have rm2 := rowR m0 m1 (v := z) (by omega) (by omega)
    have rm3 := rowR m0 m1 (v := u) (by omega) (by omega)
    have hk : k = 0 ∨ k = 1 ∨ k = 2 ∨ k = 3 := by simp at k1; omega
    simp only [List.map_cons, List.map_nil] at e1 t1 t2 s3 s2 r
    simp only [List.length_cons, List.length_nil] at e5
    simp at e5
    rcases hk with rfl | rfl | rfl | rfl <;> simp [z_law_gather_right, zBody, zSeq, zIfS, zAnd', zOr', zNot', zTru, zOp, zUn, zoVar, zoVal, zB', zCmp, zII, reqz, zC, zVar, zMove, fzz, lookz, D.s, zIx, at0, at1, at2, at3, truthz, boolz, zSet, zSetIx, zRet, zB, zInt, zaCons, zaNil, lookAllz, allVz, zMod, zFdiv, zPow, zAdd, zMulI, zSub', zNeg, CDiv, isOz, isValz, argIz, outs, zNext, zIf, zPar, zdCons, zdNil, storeAllz, zLst, zTup, zEq, eqS, zIsN, isNonD, zIsB, zNot, zAnd, zOr, zLen, zChain, zIsi, D.ty, isB, isAny, zRetN, zDrop, zAsg, zgTup, zgCons, zgNil, zgName, zCall, callAz, posA, refsA, ownAll, dvA, setL, DV.own, zLc, ziSq, isSqz, lcz, wipeE, back, keepF, zYes, sizeLine, zAllB, blsD, zCallK, permL, zTuple, zList, zCallB, callBz, dvB, flatR, flat, flats, ziRange1, one1, rangeD, zSl, zpNone, zpSome, zSum, zAbs, ix0, e1, e2, e3, e4, e5, e6, t1, t2, s3, s2, r, ba, bm, rr, r0, r1, r2, r3, n0, n1, n2, n3, rm1, rm2, rm3]

end Wk
namespace Wk
open PySem PySem.Spec PyProof.Rows L2 VL
theorem spreadr_z {n : Nat} {b : List D} (hb : IsBox n b) (hn : n < 10000) : ∃ b', z_law_spread_right [.o b, .f (.lst bestL)] = some (.f (.bl true), [.o b']) ∧ IsBox (n + 60) b' := by
  obtain ⟨k, b1, e1, k0, k1, B1⟩ := count_z hb (show (0:Int) ≤ 1 by decide) (show (1:Int) ≤ 1 by decide) (by omega)
  obtain ⟨vs, b2, e2, hs, B2⟩ := counts_z B1 (show (0:Int) ≤ 0 by decide) (show (0:Int) ≤ 1 by decide) (by omega)
  obtain ⟨w0, b3, e3, _, _, B3⟩ := take4 B2 (by omega)
  obtain ⟨w1, b4, e4, _, _, B4⟩ := take4 B3 (by omega)
  obtain ⟨m, b5, e5, m0, m1, B5⟩ := count_z B4 (show (0:Int) ≤ 1 by decide) (show (1:Int) ≤ 1 by decide) (by omega)
  refine ⟨b5, ?_, B5.mono (by omega)⟩
  have t1 := fun w => stold_z (w := w) hs k0 k1
  have r := eqD_refl ⟨0, 8, hs⟩
  obtain ⟨ne, a0, a1⟩ := short_min hs
  have mn := (min_z ne).1
  have ba := bestR a0 a1
  have ra := rowR a0 a1 (v := k) (by omega) k1
  have ln := line_z k0 k1 a0 a1
  have si := same_i
  rcases hs with ⟨x, rfl, p0, q0⟩ | ⟨x, y, rfl, p0, q0, p1, q1⟩ | ⟨x, y, z, rfl, p0, q0, p1, q1, p2, q2⟩ | ⟨x, y, z, u, rfl, p0, q0, p1, q1, p2, q2, p3, q3⟩
  · have h2 : Short 0 8 [8 - x] := .inl ⟨8 - x, rfl, (by omega), (by omega)⟩
    have t2 := fun w => stold_z (w := w) h2 m0 m1
    obtain ⟨ne2, c0, c1⟩ := short_min h2
    have mn2 := (min_z ne2).1
    have bm := bestR c0 c1
    have rm := rowR c0 c1 (v := m) (by omega) m1
    simp only [List.map_cons, List.map_nil] at e2 t1 t2 r mn mn2
    simp [z_law_spread_right, zBody, zSeq, zIfS, zAnd', zOr', zNot', zTru, zOp, zUn, zoVar, zoVal, zB', zCmp, zII, reqz, zC, zVar, zMove, fzz, lookz, D.s, zIx, at0, at1, at2, at3, truthz, boolz, zSet, zSetIx, zRet, zB, zInt, zaCons, zaNil, lookAllz, allVz, zMod, zFdiv, zPow, zAdd, zMulI, zSub', zNeg, CDiv, isOz, isValz, argIz, outs, zNext, zIf, zPar, zdCons, zdNil, storeAllz, zLst, zTup, zEq, eqS, zIsN, isNonD, zIsB, zNot, zAnd, zOr, zLen, zChain, zIsi, D.ty, isB, isAny, zRetN, zDrop, zAsg, zgTup, zgCons, zgNil, zgName, zCall, callAz, posA, refsA, ownAll, dvA, setL, DV.own, zLc, ziSq, isSqz, lcz, wipeE, back, keepF, zYes, sizeLine, zAllB, blsD, zCallK, permL, zTuple, zList, zCallB, callBz, dvB, flatR, flat, flats, ziRange1, one1, rangeD, zSl, zpNone, zpSome, zSum, zAbs, ix0, e1, e2, e3, e4, e5, t1, t2, r, mn, mn2, ba, ra, bm, rm, ln, si]
  · have h2 : Short 0 8 [8 - x, y] := .inr (.inl ⟨8 - x, y, rfl, (by omega), (by omega), (by omega), (by omega)⟩)
    have t2 := fun w => stold_z (w := w) h2 m0 m1
    obtain ⟨ne2, c0, c1⟩ := short_min h2
    have mn2 := (min_z ne2).1
    have bm := bestR c0 c1
    have rm := rowR c0 c1 (v := m) (by omega) m1
    simp only [List.map_cons, List.map_nil] at e2 t1 t2 r mn mn2
    simp [z_law_spread_right, zBody, zSeq, zIfS, zAnd', zOr', zNot', zTru, zOp, zUn, zoVar, zoVal, zB', zCmp, zII, reqz, zC, zVar, zMove, fzz, lookz, D.s, zIx, at0, at1, at2, at3, truthz, boolz, zSet, zSetIx, zRet, zB, zInt, zaCons, zaNil, lookAllz, allVz, zMod, zFdiv, zPow, zAdd, zMulI, zSub', zNeg, CDiv, isOz, isValz, argIz, outs, zNext, zIf, zPar, zdCons, zdNil, storeAllz, zLst, zTup, zEq, eqS, zIsN, isNonD, zIsB, zNot, zAnd, zOr, zLen, zChain, zIsi, D.ty, isB, isAny, zRetN, zDrop, zAsg, zgTup, zgCons, zgNil, zgName, zCall, callAz, posA, refsA, ownAll, dvA, setL, DV.own, zLc, ziSq, isSqz, lcz, wipeE, back, keepF, zYes, sizeLine, zAllB, blsD, zCallK, permL, zTuple, zList, zCallB, callBz, dvB, flatR, flat, flats, ziRange1, one1, rangeD, zSl, zpNone, zpSome, zSum, zAbs, ix0, e1, e2, e3, e4, e5, t1, t2, r, mn, mn2, ba, ra, bm, rm, ln, si]
  · have h2 : Short 0 8 [8 - x, y, z] := .inr (.inr (.inl ⟨8 - x, y, z, rfl, (by omega), (by omega), (by omega), (by omega), (by omega), (by omega)⟩))
    have t2 := fun w => stold_z (w := w) h2 m0 m1
    obtain ⟨ne2, c0, c1⟩ := short_min h2
    have mn2 := (min_z ne2).1
    have bm := bestR c0 c1
    have rm := rowR c0 c1 (v := m) (by omega) m1
    simp only [List.map_cons, List.map_nil] at e2 t1 t2 r mn mn2
    simp [z_law_spread_right, zBody, zSeq, zIfS, zAnd', zOr', zNot', zTru, zOp, zUn, zoVar, zoVal, zB', zCmp, zII, reqz, zC, zVar, zMove, fzz, lookz, D.s, zIx, at0, at1, at2, at3, truthz, boolz, zSet, zSetIx, zRet, zB, zInt, zaCons, zaNil, lookAllz, allVz, zMod, zFdiv, zPow, zAdd, zMulI, zSub', zNeg, CDiv, isOz, isValz, argIz, outs, zNext, zIf, zPar, zdCons, zdNil, storeAllz, zLst, zTup, zEq, eqS, zIsN, isNonD, zIsB, zNot, zAnd, zOr, zLen, zChain, zIsi, D.ty, isB, isAny, zRetN, zDrop, zAsg, zgTup, zgCons, zgNil, zgName, zCall, callAz, posA, refsA, ownAll, dvA, setL, DV.own, zLc, ziSq, isSqz, lcz, wipeE, back, keepF, zYes, sizeLine, zAllB, blsD, zCallK, permL, zTuple, zList, zCallB, callBz, dvB, flatR, flat, flats, ziRange1, one1, rangeD, zSl, zpNone, zpSome, zSum, zAbs, ix0, e1, e2, e3, e4, e5, t1, t2, r, mn, mn2, ba, ra, bm, rm, ln, si]
  · have h2 : Short 0 8 [8 - x, y, z, u] := .inr (.inr (.inr ⟨8 - x, y, z, u, rfl, (by omega), (by omega), (by omega), (by omega), (by omega), (by omega), (by omega), (by omega)⟩))
    have t2 := fun w => stold_z (w := w) h2 m0 m1
    obtain ⟨ne2, c0, c1⟩ := short_min h2
    have mn2 := (min_z ne2).1
    have bm := bestR c0 c1
    have rm := rowR c0 c1 (v := m) (by omega) m1
    simp only [List.map_cons, List.map_nil] at e2 t1 t2 r mn mn2
    simp [z_law_spread_right, zBody, zSeq, zIfS, zAnd', zOr', zNot', zTru, zOp, zUn, zoVar, zoVal, zB', zCmp, zII, reqz, zC, zVar, zMove, fzz, lookz, D.s, zIx, at0, at1, at2, at3, truthz, boolz, zSet, zSetIx, zRet, zB, zInt, zaCons, zaNil, lookAllz, allVz, zMod, zFdiv, zPow, zAdd, zMulI, zSub', zNeg, CDiv, isOz, isValz, argIz, outs, zNext, zIf, zPar, zdCons, zdNil, storeAllz, zLst, zTup, zEq, eqS, zIsN, isNonD, zIsB, zNot, zAnd, zOr, zLen, zChain, zIsi, D.ty, isB, isAny, zRetN, zDrop, zAsg, zgTup, zgCons, zgNil, zgName, zCall, callAz, posA, refsA, ownAll, dvA, setL, DV.own, zLc, ziSq, isSqz, lcz, wipeE, back, keepF, zYes, sizeLine, zAllB, blsD, zCallK, permL, zTuple, zList, zCallB, callBz, dvB, flatR, flat, flats, ziRange1, one1, rangeD, zSl, zpNone, zpSome, zSum, zAbs, ix0, e1, e2, e3, e4, e5, t1, t2, r, mn, mn2, ba, ra, bm, rm, ln, si]

end Wk
namespace Wk
open PySem PySem.Spec PyProof.Rows L2 VL
theorem intsD_map : ∀ xs : List Int, intsD (xs.map D.int) = some xs
  | [] => rfl
  | x :: xs => by simp [intsD, D.s, intsD_map xs]
theorem cell_z {is : List Int} {k : Int} (k0 : 0 ≤ k) : ∃ c, z_law_cell [.f (.scr is), .f (.int k)] = some (.f (.int c), []) := by
  by_cases h : k < (is.length : Int)
  · have : ∃ c, atI is k = some c := by
      unfold atI ixN
      rw [if_pos k0, if_pos h]
      exact ⟨_, List.getElem?_eq_getElem (by omega)⟩
    obtain ⟨c, hc⟩ := this
    refine ⟨c, ?_⟩
    simp [z_law_cell, zBody, zSeq, zIfS, zAnd', zOr', zNot', zTru, zOp, zUn, zoVar, zoVal, zB', zCmp, zII, reqz, zC, zVar, zMove, fzz, lookz, D.s, zIx, at0, at1, at2, at3, truthz, boolz, zSet, zSetIx, zRet, zB, zInt, zaCons, zaNil, lookAllz, allVz, zMod, zFdiv, zPow, zAdd, zMulI, zSub', zNeg, CDiv, isOz, isValz, argIz, outs, zNext, zIf, zPar, zdCons, zdNil, storeAllz, zLst, zTup, zEq, eqS, zIsN, isNonD, zIsB, zNot, zAnd, zOr, zLen, zChain, zIsi, D.ty, isB, isAny, zRetN, zDrop, zAsg, zgTup, zgCons, zgNil, zgName, zCall, callAz, posA, refsA, ownAll, dvA, setL, DV.own, zLc, ziSq, isSqz, lcz, wipeE, back, keepF, zYes, sizeLine, zAllB, blsD, zCallK, permL, zTuple, zList, zCallB, callBz, dvB, flatR, flat, flats, ziRange1, one1, rangeD, zSl, zpNone, zpSome, zSum, zAbs, h, hc]
  · have hm : CMul 6007 k := .inl ⟨by decide, by decide⟩
    have hs : ∃ s, intsD (VL.cutD (is.map D.int) none (some 1)) = some s := by
      refine ⟨(is.drop (HT.sIx is.length 0 none)).take (HT.sIx is.length is.length (some 1) - HT.sIx is.length 0 none), ?_⟩
      unfold VL.cutD
      rw [List.length_map, ← List.map_drop, ← List.map_take]
      exact intsD_map _
    obtain ⟨s, hs⟩ := hs
    refine ⟨6007 * k + s.sum % 1000033, ?_⟩
    simp [z_law_cell, zBody, zSeq, zIfS, zAnd', zOr', zNot', zTru, zOp, zUn, zoVar, zoVal, zB', zCmp, zII, reqz, zC, zVar, zMove, fzz, lookz, D.s, zIx, at0, at1, at2, at3, truthz, boolz, zSet, zSetIx, zRet, zB, zInt, zaCons, zaNil, lookAllz, allVz, zMod, zFdiv, zPow, zAdd, zMulI, zSub', zNeg, CDiv, isOz, isValz, argIz, outs, zNext, zIf, zPar, zdCons, zdNil, storeAllz, zLst, zTup, zEq, eqS, zIsN, isNonD, zIsB, zNot, zAnd, zOr, zLen, zChain, zIsi, D.ty, isB, isAny, zRetN, zDrop, zAsg, zgTup, zgCons, zgNil, zgName, zCall, callAz, posA, refsA, ownAll, dvA, setL, DV.own, zLc, ziSq, isSqz, lcz, wipeE, back, keepF, zYes, sizeLine, zAllB, blsD, zCallK, permL, zTuple, zList, zCallB, callBz, dvB, flatR, flat, flats, ziRange1, one1, rangeD, zSl, zpNone, zpSome, zSum, zAbs, h, hm, hs]
theorem box_z (g : Int) : ∃ b, z_law_box [.f (.int g)] = some (.o b, []) ∧ IsBox 0 b := by
  have hp : CPow 10 18 := ⟨by decide, by decide, by decide⟩
  have hg : 0 ≤ (if g < 0 then -g else g) := by split <;> omega
  refine ⟨[.int (if g < 0 then -g else g), .bl (decide (1000000000000000000 ≤ (if g < 0 then -g else g))), .int ((if g < 0 then -g else g) % 2147483629), .int 0], by simp [z_law_box, zBody, zSeq, zIfS, zAnd', zOr', zNot', zTru, zOp, zUn, zoVar, zoVal, zB', zCmp, zII, reqz, zC, zVar, zMove, fzz, lookz, D.s, zIx, at0, at1, at2, at3, truthz, boolz, zSet, zSetIx, zRet, zB, zInt, zaCons, zaNil, lookAllz, allVz, zMod, zFdiv, zPow, zAdd, zMulI, zSub', zNeg, CDiv, isOz, isValz, argIz, outs, zNext, zIf, zPar, zdCons, zdNil, storeAllz, zLst, zTup, zEq, eqS, zIsN, isNonD, zIsB, zNot, zAnd, zOr, zLen, zChain, zIsi, D.ty, isB, isAny, zRetN, zDrop, zAsg, zgTup, zgCons, zgNil, zgName, zCall, callAz, posA, refsA, ownAll, dvA, setL, DV.own, zLc, ziSq, isSqz, lcz, wipeE, back, keepF, zYes, sizeLine, zAllB, blsD, zCallK, permL, zTuple, zList, zCallB, callBz, dvB, flatR, flat, flats, ziRange1, one1, rangeD, zSl, zpNone, zpSome, zSum, zAbs, hp], _, _, _, _, rfl, hg, ?_, ?_, ?_, ?_⟩
  · exact Int.emod_nonneg _ (by decide)
  · exact Int.emod_lt_of_pos _ (by decide)
  · decide
  · decide
def bodyL : ZS := (zSeq (zSet 3 (zCall (z_law_box) [] 1 (zaCons (zoVal (zCall (z_law_cell) [] 2 (zaCons (zoVal (zVar 0)) (zaCons (zoVal (zVar 2)) zaNil)))) zaNil))) (zIfS (zOr' (zNot' (zTru (zoVal (zCall (z_law_gather_right) [0] 2 (zaCons (zoVar 3) (zaCons (zoVal (zVar 1)) zaNil)))))) (zNot' (zTru (zoVal (zCall (z_law_spread_right) [0] 2 (zaCons (zoVar 3) (zaCons (zoVal (zVar 1)) zaNil))))))) (zRet (zC (.bl false))) zNext))
theorem turns_z {is : List Int} : ∀ (k lo : Nat) (B x y : DV), (B = .o bestL ∨ B = .f (.lst bestL)) →
    ∃ B' x' y', loopz (zgName 2) bodyL ((List.range' lo k).map fun (i : Nat) => D.int (0 + (i : Int))) [.f (.scr is), B, x, y] = some (.nx [.f (.scr is), B', x', y']) ∧ (B' = .o bestL ∨ B' = .f (.lst bestL))
  | 0, lo, B, x, y, hB => ⟨B, x, y, rfl, hB⟩
  | k + 1, lo, B, x, y, hB => by
    obtain ⟨c, e1⟩ := cell_z (is := is) (k := 0 + (lo : Int)) (by omega)
    obtain ⟨b, e2, hb⟩ := box_z c
    obtain ⟨b1, e3, h1⟩ := gather_z hb (by decide)
    obtain ⟨b2, e4, h2⟩ := spreadr_z h1 (by decide)
    obtain ⟨B', x', y', e5, h5⟩ := turns_z (is := is) k (lo + 1) (.f (.lst bestL)) (.f (.int (0 + (lo : Int)))) (.o b2) (.inr rfl)
    refine ⟨B', x', y', ?_, h5⟩
    rw [List.range'_succ, List.map_cons, loopz]
    have : bodyL [.f (.scr is), B, .f (.int (0 + (lo : Int))), y] = some (.nx [.f (.scr is), .f (.lst bestL), .f (.int (0 + (lo : Int))), .o b2]) := by
      rw [Int.zero_add] at *
      rcases hB with rfl | rfl <;> simp [bodyL, zBody, zSeq, zIfS, zAnd', zOr', zNot', zTru, zOp, zUn, zoVar, zoVal, zB', zCmp, zII, reqz, zC, zVar, zMove, fzz, lookz, D.s, zIx, at0, at1, at2, at3, truthz, boolz, zSet, zSetIx, zRet, zB, zInt, zaCons, zaNil, lookAllz, allVz, zMod, zFdiv, zPow, zAdd, zMulI, zSub', zNeg, CDiv, isOz, isValz, argIz, outs, zNext, zIf, zPar, zdCons, zdNil, storeAllz, zLst, zTup, zEq, eqS, zIsN, isNonD, zIsB, zNot, zAnd, zOr, zLen, zChain, zIsi, D.ty, isB, isAny, zRetN, zDrop, zAsg, zgTup, zgCons, zgNil, zgName, zCall, callAz, posA, refsA, ownAll, dvA, setL, DV.own, zLc, ziSq, isSqz, lcz, wipeE, back, keepF, zYes, sizeLine, zAllB, blsD, zCallK, permL, zTuple, zList, zCallB, callBz, dvB, flatR, flat, flats, ziRange1, one1, rangeD, zSl, zpNone, zpSome, zSum, zAbs, e1, e2, e3, e4]
    show (zgName 2 (.int (0 + (lo : Int))) [.f (.scr is), B, x, y]).bind _ = _
    show (bodyL [.f (.scr is), B, .f (.int (0 + (lo : Int))), y]).bind _ = _
    rw [this]
    exact e5
theorem law_z (is : List Int) : z_law [.f (.scr is)] = some (.f (.bl true), []) := by
  have hj : ∃ j : Int, zMax [.int 1, .int (if (is.length : Int) < 3 then (is.length : Int) else 3)] = some (.f (.int j)) ∧ 1 ≤ j ∧ j ≤ 3 := by
    refine ⟨_, rfl, ?_, ?_⟩ <;> (repeat' split) <;> omega
  obtain ⟨j, ej, j1, j3⟩ := hj
  obtain ⟨B', x', y', e5, h5⟩ := turns_z (is := is) j.toNat 0 (.o bestL) .u .u (.inl rfl)
  have er : rangeD 0 j.toNat = (List.range' 0 j.toNat).map fun (i : Nat) => D.int (0 + (i : Int)) := by unfold rangeD; rw [List.range_eq_range']
  have em : zMin [.int 3, .int (is.length : Int)] = some (.f (.int (if (is.length : Int) < 3 then (is.length : Int) else 3))) := rfl
  have r1 : -(2 ^ 62) ≤ j ∧ j < 2 ^ 62 := by constructor <;> omega
  have hlc : zFor (ziRange1 (zaCons (zoVal (zB zMax (zaCons (zoVal (zC (.int 1))) (zaCons (zoVal (zB zMin (zaCons (zoVal (zC (.int 3))) (zaCons (zoVal (zB zLen (zaCons (zoVar 0) zaNil))) zaNil)))) zaNil)))) zaNil)) (zgName 2) bodyL [.f (.scr is), .o bestL, .u, .u] = some (.nx [.f (.scr is), B', x', y']) := by
    have e0 : (ziRange1 (zaCons (zoVal (zB zMax (zaCons (zoVal (zC (.int 1))) (zaCons (zoVal (zB zMin (zaCons (zoVal (zC (.int 3))) (zaCons (zoVal (zB zLen (zaCons (zoVar 0) zaNil))) zaNil)))) zaNil)))) zaNil)) [.f (.scr is), .o bestL, .u, .u] = some (rangeD 0 j.toNat, [.f (.scr is), .o bestL, .u, .u]) := by
      have r2 := r1.1
      have r3 := r1.2
      generalize zMax = MX at ej ⊢
      generalize zMin = MN at em ⊢
      simp [ziRange1, zBody, zSeq, zIfS, zAnd', zOr', zNot', zTru, zOp, zUn, zoVar, zoVal, zB', zCmp, zII, reqz, zC, zVar, zMove, fzz, lookz, D.s, zIx, atI, ixN, truthz, boolz, zSet, zSetIx, zRet, zB, zInt, zaCons, zaNil, lookAllz, allVz, zMod, zFdiv, zPow, zAdd, zMulI, zSub', zNeg, CDiv, isOz, isValz, argIz, outs, zNext, zIf, zPar, zdCons, zdNil, storeAllz, zLst, zTup, zEq, eqS, zIsN, isNonD, zIsB, zNot, zAnd, zOr, zLen, zChain, zIsi, D.ty, isB, isAny, zRetN, zDrop, zAsg, zgTup, zgCons, zgNil, zgName, one1, em, ej]
      omega
    unfold zFor
    rw [e0, er]
    exact e5
  have ep := parted_z
  unfold z_law
  change zBody 4 1 [] (zSeq (zSet 1 (zCall (z_law_parted) [] 2 (zaCons (zoVal (zC (.int 8))) (zaCons (zoVal (zC (.int 10))) zaNil)))) (zSeq (zFor _ _ bodyL) _)) _ = _
  generalize zFor (ziRange1 (zaCons (zoVal (zB zMax (zaCons (zoVal (zC (.int 1))) (zaCons (zoVal (zB zMin (zaCons (zoVal (zC (.int 3))) (zaCons (zoVal (zB zLen (zaCons (zoVar 0) zaNil))) zaNil)))) zaNil)))) zaNil)) (zgName 2) bodyL = L at hlc ⊢
  simp [zBody, zSeq, zIfS, zAnd', zOr', zNot', zTru, zOp, zUn, zoVar, zoVal, zB', zCmp, zII, reqz, zC, zVar, zMove, fzz, lookz, D.s, zIx, atI, ixN, truthz, boolz, zSet, zSetIx, zRet, zB, zInt, zaCons, zaNil, lookAllz, allVz, zMod, zFdiv, zPow, zAdd, zMulI, zSub', zNeg, CDiv, isOz, isValz, argIz, outs, zNext, zIf, zPar, zdCons, zdNil, storeAllz, zLst, zTup, zEq, eqS, zIsN, isNonD, zIsB, zNot, zAnd, zOr, zLen, zChain, zIsi, D.ty, isB, isAny, zRetN, zDrop, zAsg, zgTup, zgCons, zgNil, zgName, zCall, callAz, posA, refsA, ownAll, dvA, setL, DV.own, ep, hlc]
end Wk
namespace Wk
open PySem PySem.Spec PyProof.Rows L2 VL
theorem fun_one {K : PySem.W.Frag} {x : Str} {st : Stmt} {f : Addr} {d e : FuncData} (F : Fun K x x st f d) (G : Fun K x x st f e) : d = e := by
  obtain ⟨oc, od, kV, doc, pmv, an, cdv, ct, osl, rfl, lk, _⟩ := F.ex
  obtain ⟨oc', od', kV', doc', pmv', an', cdv', ct', osl', rfl, lk', _⟩ := G.ex
  rw [lk] at lk'
  injection lk' with h
  injection h with _ _ h _
  injection h
theorem all_mk {l : PySem.W.OpenLaw} {w : World} {K : PySem.W.Frag} {mg : Str → Option Value} {fa : Addr} (hfa : mg "law" = some (.ref fa)) (T : Txt K mg) :
    ∃ fd : FuncData, (∀ (s : Shared) (v : Value), BindsTo s fd ⟨[v], []⟩ [("script", v)]) ∧ ∀ base : Heap, K.In base → base.Ns mainGlobals mg → FnOk l.prog w K mg base (L2.CX l.prog w) 9 fa fd ["script"] (spOf K [] 1 m_law) := by
  obtain ⟨a, d, g, F⟩ := T.a_law
  have e := hfa.symm.trans g
  cases e
  refine ⟨d, fun s v => ?_, fun base _ _ => ?_⟩
  · obtain ⟨oc, od, kV, doc, pmv, an, cdv, ct, osl, rfl, lk, _⟩ := F.ex
    exact .of_eq rfl
  · obtain ⟨a', d', g', F', _, Fn⟩ := ok_law (P := l.prog) (w := w) (base := base) T
    have e := g'.symm.trans g
    cases e
    rw [fun_one F F']
    exact Fn
theorem end_sp {K : PySem.W.Frag} {H : Hp} {a : Addr} {ns : List Int} (hS : SqL K H a (ns.map V.int)) : spOf K [] 1 m_law [.ref a] H (fun v _ => v = .bl true) fun _ _ _ => False := by
  refine ⟨rfl, [.f (.scr ns)], H, [], fun r _ => r = .f (.bl true), fun _ _ => False, ⟨Ex.refl H, fun a o h _ => h, fun a o h => .inl h, Ex.refl H, rfl, fun i a h => (by cases h), fun i a h => (by cases h), rfl, fun i dv x h1 h2 => ?_, fun i j p h1 _ => ?_⟩, cf_law _ _ _ (law_z ns) _ _ rfl, fun r env σ v G' H' _ rr hr => ?_, fun _ _ _ _ _ _ _ _ _ h => h⟩
  · match i, h1, h2 with
    | 0, h1, h2 =>
      cases h1; cases h2
      exact ⟨_, rfl, by rw [Rep]; exact ⟨a, rfl, hS⟩⟩
    | i + 1, h1, _ => simp at h1
  · obtain ⟨dv, z1, z2, _⟩ := h1
    match i, z1 with
    | 0, z1 => cases z1; cases z2
    | i + 1, z1 => simp at z1
  · subst hr
    have rr : Rep K G' (.bl true) v := rr
    rw [Rep] at rr
    exact rr
theorem const_mk {K : PySem.W.Frag} {h : Heap} {mg : Str → Option Value} {x : Str} {i : Int} {t : Tok} (X : K.In h) (G : h.Ns mainGlobals mg) (a : PySem.W.nsIn K mainGlobals x = some (some (.int i t))) : ∃ t, mg x = some (.int i t) := ⟨t, PySem.W.mg_of X G a⟩
theorem cx_no {P : Program} {w : World} {H : Hp} {s : Shared} {e : Value} {s' : Shared} (h : L2.CX P w [] H s (fun _ _ _ => False) e s') : False := by
  obtain ⟨_, _, _, _, _, _, _, _, _, _, _, _, z⟩ := h
  exact z
end Wk
open PySem PySem.W PyProof.Rows
set_option maxRecDepth 100000 in
set_option maxHeartbeats 0 in
theorem PySem.Challenge.cw_upforgood_k87_numbers_of_stars_holds : PySem.Challenge.rw_upforgood_k87_numbers_of_stars.Holds := by
  w_on; o_law; k_head; (case hw => w_witness2)
  k_fill
  refine L2.walk_of (l := PySem.Challenge.rw_upforgood_k87_numbers_of_stars) (n := 63) (k := 9) (x := "script") (CX := fun w => L2.CX PySem.Challenge.rw_upforgood_k87_numbers_of_stars.prog w) (sp := fun w => VL.spOf _ [] 1 Wk.m_law) rfl (by decide) rfl ⟨rfl, by decide, by decide⟩ (fun w h Y => PySem.W.kIn_of Y) ?F (fun w H a ns _ _ hS => Wk.end_sp hS) (fun w H s e s' h => Wk.cx_no h)
  case F =>
    intro w mg fa h KX G hmg
    refine Wk.all_mk (l := PySem.Challenge.rw_upforgood_k87_numbers_of_stars) hmg ?T
    case T =>
      refine' ⟨VL.at_mk KX G ?a_is_whole ?l_is_whole ?c_is_whole ?k_is_whole, VL.at_mk KX G ?a_is_between ?l_is_between ?c_is_between ?k_is_between, VL.at_mk KX G ?a_is_list ?l_is_list ?c_is_list ?k_is_list, VL.at_mk KX G ?a_are_between ?l_are_between ?c_are_between ?k_are_between, VL.at_mk KX G ?a_choose_of ?l_choose_of ?c_choose_of ?k_choose_of, VL.at_mk KX G ?a_arrangements_of ?l_arrangements_of ?c_arrangements_of ?k_arrangements_of, VL.at_mk KX G ?a_even_parts_of ?l_even_parts_of ?c_even_parts_of ?k_even_parts_of, VL.at_mk KX G ?a_are_counts ?l_are_counts ?c_are_counts ?k_are_counts, VL.at_mk KX G ?a_check_gather ?l_check_gather ?c_check_gather ?k_check_gather, VL.at_mk KX G ?a_check_spread ?l_check_spread ?c_check_spread ?k_check_spread, VL.at_mk KX G ?a_number_of ?l_number_of ?c_number_of ?k_number_of, VL.at_mk KX G ?a_gathered ?l_gathered ?c_gathered ?k_gathered, VL.at_mk KX G ?a_spread ?l_spread ?c_spread ?k_spread, VL.at_mk KX G ?a_check_row ?l_check_row ?c_check_row ?k_check_row, VL.at_mk KX G ?a_check_kinds ?l_check_kinds ?c_check_kinds ?k_check_kinds, VL.at_mk KX G ?a_greatest_numbers ?l_greatest_numbers ?c_greatest_numbers ?k_greatest_numbers, VL.at_mk KX G ?a_greatest_left ?l_greatest_left ?c_greatest_left ?k_greatest_left, VL.at_mk KX G ?a_least_other ?l_least_other ?c_least_other ?k_least_other, VL.at_mk KX G ?a_stair_ahead ?l_stair_ahead ?c_stair_ahead ?k_stair_ahead, VL.at_mk KX G ?a_stairs_by ?l_stairs_by ?c_stairs_by ?k_stairs_by, VL.at_mk KX G ?a_lets ?l_lets ?c_lets ?k_lets, VL.at_mk KX G ?a_can_tell ?l_can_tell ?c_can_tell ?k_can_tell, VL.at_mk KX G ?a_law_cell ?l_law_cell ?c_law_cell ?k_law_cell, VL.at_mk KX G ?a_law_box ?l_law_box ?c_law_box ?k_law_box, VL.at_mk KX G ?a_law_take ?l_law_take ?c_law_take ?k_law_take, VL.at_mk KX G ?a_law_same ?l_law_same ?c_law_same ?k_law_same, VL.at_mk KX G ?a_law_choose ?l_law_choose ?c_law_choose ?k_law_choose, VL.at_mk KX G ?a_law_parted ?l_law_parted ?c_law_parted ?k_law_parted, VL.at_mk KX G ?a_law_count ?l_law_count ?c_law_count ?k_law_count, VL.at_mk KX G ?a_law_counts ?l_law_counts ?c_law_counts ?k_law_counts, VL.at_mk KX G ?a_law_gather_told ?l_law_gather_told ?c_law_gather_told ?k_law_gather_told, VL.at_mk KX G ?a_law_spread_told ?l_law_spread_told ?c_law_spread_told ?k_law_spread_told, VL.at_mk KX G ?a_law_line_right ?l_law_line_right ?c_law_line_right ?k_law_line_right, VL.at_mk KX G ?a_law_gather_right ?l_law_gather_right ?c_law_gather_right ?k_law_gather_right, VL.at_mk KX G ?a_law_spread_right ?l_law_spread_right ?c_law_spread_right ?k_law_spread_right, VL.at_mk KX G ?a_law ?l_law ?c_law ?k_law, Wk.const_mk KX G ?m_MOST_KINDS_rows, Wk.const_mk KX G ?m_MOST_KINDS_stars, Wk.const_mk KX G ?m_MOST_NUMBER, Wk.const_mk KX G ?m_MOST_NUMBERS, Wk.const_mk KX G ?m_MOST_OTHERS, PySem.W.mg_none_of KX G ?z_abs, PySem.W.mg_none_of KX G ?z_all, PySem.W.mg_none_of KX G ?z_bool, PySem.W.mg_none_of KX G ?z_divmod, PySem.W.mg_none_of KX G ?z_enumerate, PySem.W.mg_none_of KX G ?z_int, PySem.W.mg_none_of KX G ?z_isinstance, PySem.W.mg_none_of KX G ?z_len, PySem.W.mg_none_of KX G ?z_list, PySem.W.mg_none_of KX G ?z_max, PySem.W.mg_none_of KX G ?z_min, PySem.W.mg_none_of KX G ?z_range, PySem.W.mg_none_of KX G ?z_reversed, PySem.W.mg_none_of KX G ?z_str, PySem.W.mg_none_of KX G ?z_sum, PySem.W.mg_none_of KX G ?z_tuple, PySem.W.mg_none_of KX G ?z_zip⟩
      (case a_is_whole => k_is); (case l_is_whole => k_is); (case c_is_whole => k_is); (case k_is_whole => k_is)
      (case a_is_between => k_is); (case l_is_between => k_is); (case c_is_between => k_is); (case k_is_between => k_is)
      (case a_is_list => k_is); (case l_is_list => k_is); (case c_is_list => k_is); (case k_is_list => k_is)
      (case a_are_between => k_is); (case l_are_between => k_is); (case c_are_between => k_is); (case k_are_between => k_is)
      (case a_choose_of => k_is); (case l_choose_of => k_is); (case c_choose_of => k_is); (case k_choose_of => k_is)
      (case a_arrangements_of => k_is); (case l_arrangements_of => k_is); (case c_arrangements_of => k_is); (case k_arrangements_of => k_is)
      (case a_even_parts_of => k_is); (case l_even_parts_of => k_is); (case c_even_parts_of => k_is); (case k_even_parts_of => k_is)
      (case a_are_counts => k_is); (case l_are_counts => k_is); (case c_are_counts => k_is); (case k_are_counts => k_is)
      (case a_check_gather => k_is); (case l_check_gather => k_is); (case c_check_gather => k_is); (case k_check_gather => k_is)
      (case a_check_spread => k_is); (case l_check_spread => k_is); (case c_check_spread => k_is); (case k_check_spread => k_is)
      (case a_number_of => k_is); (case l_number_of => k_is); (case c_number_of => k_is); (case k_number_of => k_is)
      (case a_gathered => k_is); (case l_gathered => k_is); (case c_gathered => k_is); (case k_gathered => k_is)
      (case a_spread => k_is); (case l_spread => k_is); (case c_spread => k_is); (case k_spread => k_is)
      (case a_check_row => k_is); (case l_check_row => k_is); (case c_check_row => k_is); (case k_check_row => k_is)
      (case a_check_kinds => k_is); (case l_check_kinds => k_is); (case c_check_kinds => k_is); (case k_check_kinds => k_is)
      (case a_greatest_numbers => k_is); (case l_greatest_numbers => k_is); (case c_greatest_numbers => k_is); (case k_greatest_numbers => k_is)
      (case a_greatest_left => k_is); (case l_greatest_left => k_is); (case c_greatest_left => k_is); (case k_greatest_left => k_is)
      (case a_least_other => k_is); (case l_least_other => k_is); (case c_least_other => k_is); (case k_least_other => k_is)
      (case a_stair_ahead => k_is); (case l_stair_ahead => k_is); (case c_stair_ahead => k_is); (case k_stair_ahead => k_is)
      (case a_stairs_by => k_is); (case l_stairs_by => k_is); (case c_stairs_by => k_is); (case k_stairs_by => k_is)
      (case a_lets => k_is); (case l_lets => k_is); (case c_lets => k_is); (case k_lets => k_is)
      (case a_can_tell => k_is); (case l_can_tell => k_is); (case c_can_tell => k_is); (case k_can_tell => k_is)
      (case a_law_cell => k_is); (case l_law_cell => k_is); (case c_law_cell => k_is); (case k_law_cell => k_is)
      (case a_law_box => k_is); (case l_law_box => k_is); (case c_law_box => k_is); (case k_law_box => k_is)
      (case a_law_take => k_is); (case l_law_take => k_is); (case c_law_take => k_is); (case k_law_take => k_is)
      (case a_law_same => k_is); (case l_law_same => k_is); (case c_law_same => k_is); (case k_law_same => k_is)
      (case a_law_choose => k_is); (case l_law_choose => k_is); (case c_law_choose => k_is); (case k_law_choose => k_is)
      (case a_law_parted => k_is); (case l_law_parted => k_is); (case c_law_parted => k_is); (case k_law_parted => k_is)
      (case a_law_count => k_is); (case l_law_count => k_is); (case c_law_count => k_is); (case k_law_count => k_is)
      (case a_law_counts => k_is); (case l_law_counts => k_is); (case c_law_counts => k_is); (case k_law_counts => k_is)
      (case a_law_gather_told => k_is); (case l_law_gather_told => k_is); (case c_law_gather_told => k_is); (case k_law_gather_told => k_is)
      (case a_law_spread_told => k_is); (case l_law_spread_told => k_is); (case c_law_spread_told => k_is); (case k_law_spread_told => k_is)
      (case a_law_line_right => k_is); (case l_law_line_right => k_is); (case c_law_line_right => k_is); (case k_law_line_right => k_is)
      (case a_law_gather_right => k_is); (case l_law_gather_right => k_is); (case c_law_gather_right => k_is); (case k_law_gather_right => k_is)
      (case a_law_spread_right => k_is); (case l_law_spread_right => k_is); (case c_law_spread_right => k_is); (case k_law_spread_right => k_is)
      (case a_law => k_is); (case l_law => k_is); (case c_law => k_is); (case k_law => k_is)
      (case m_MOST_KINDS_rows => k_is)
      (case m_MOST_KINDS_stars => k_is)
      (case m_MOST_NUMBER => k_is)
      (case m_MOST_NUMBERS => k_is)
      (case m_MOST_OTHERS => k_is)
      (case z_abs => k_is)
      (case z_all => k_is)
      (case z_bool => k_is)
      (case z_divmod => k_is)
      (case z_enumerate => k_is)
      (case z_int => k_is)
      (case z_isinstance => k_is)
      (case z_len => k_is)
      (case z_list => k_is)
      (case z_max => k_is)
      (case z_min => k_is)
      (case z_range => k_is)
      (case z_reversed => k_is)
      (case z_str => k_is)
      (case z_sum => k_is)
      (case z_tuple => k_is)
      (case z_zip => k_is)
