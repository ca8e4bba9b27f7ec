import PyProof.Rows.All
import Wide.All
import OpenK.AllK
import Wide.FinOn
import HandS.ForMost
import HandS.ForExc
import HandS.Walk
import HandS.IsInst
import HandS.EndBits
import HandS.TupAny
import HandS.TupLe
import HandS.CallSlots
import HandS.Defaults
import HandS.Iter
import PyProof.ReprRoads
import HandS.ExcIs
import KE.GoesEnum
import KE.GoesMore
import HandS.Style
import PySem.Challenge.RW_groundroom_k63_terms_put_for_open_places
set_option Elab.async false
set_option linter.all false
set_option maxRecDepth 100000
set_option maxHeartbeats 4000000
/-! The mirror calculus: data, states, results, readings that compute a mirror. -/
namespace G
open PySem L2

inductive D where
  | non
  | bl (b : Bool)
  | int (i : Int)
  | str (x : Str)
  | tup (xs : List D)
  | lst (xs : List D)
  | scr (ns : List Int)
  | emp
  | exc (c : Str) (xs : List D)
/-- the exception's object, known behind its suite -/
def XO (cls : Value) (d : Option Addr) (a : Addr) : HO := .ext fun h => ∃ (ox : Obj) (fs : Array Value), h.get? a = some ox ∧ Zc cls d ox ∧ ox.data = .fields fs
/-- the text's own name c, as the written part has it -/
def xrK (K : PySem.W.Frag) (c : Str) : Option Value := match PySem.W.nsIn K mainGlobals c with
  | some o => o
  | none => none

theorem sqT_mono {K : PySem.W.Frag} {H H' : Hp} {a : Addr} {xs : List V} (e : Same H H') (h : SqT K H a xs) : SqT K H' a xs := by
  rcases h with (h | ⟨o, h⟩) | h
  · exact .inl (.inl (e _ _ h))
  · exact .inl (.inr ⟨o, e _ _ h⟩)
  · exact .inr h

mutual
inductive Da (K : PySem.W.Frag) (F : Hp) : V → D → Prop
  | non : Da K F .non .non
  | bl (b : Bool) : Da K F (.bl b) (.bl b)
  | int (i : Int) : Da K F (.int i) (.int i)
  | str (x : Str) : Da K F (.str x) (.str x)
  | tup {a : Addr} {vs : List V} {ds : List D} : SqT K F a vs → DaAll K F vs ds → Da K F (.ref a) (.tup ds)
  | lst {a : Addr} {vs : List V} {ds : List D} : F a = some (.lst vs) → DaAll K F vs ds → Da K F (.ref a) (.lst ds)
  | scr {a : Addr} {ns : List Int} : SqL K F a (ns.map V.int) → Da K F (.ref a) (.scr ns)
  | emp {a : Addr} : F a = some (.dK []) → Da K F (.ref a) .emp
  | exc {a C : Addr} {c : Str} : F a = some (XO (.ref C) none a) → xrK K c = some (.ref C) → Da K F (.ref a) (.exc c [])
inductive DaAll (K : PySem.W.Frag) (F : Hp) : List V → List D → Prop
  | nil : DaAll K F [] []
  | cons {v : V} {vs : List V} {d : D} {ds : List D} : Da K F v d → DaAll K F vs ds → DaAll K F (v :: vs) (d :: ds)
end
mutual
theorem Da.mono {K : PySem.W.Frag} {F F' : Hp} (h : Same F F') : ∀ {v : V} {d : D}, Da K F v d → Da K F' v d
  | _, _, .non => .non
  | _, _, .bl b => .bl b
  | _, _, .int i => .int i
  | _, _, .str x => .str x
  | _, _, .tup q r => .tup (sqT_mono h q) (DaAll.mono h r)
  | _, _, .lst q r => .lst (h _ _ q) (DaAll.mono h r)
  | _, _, .scr q => .scr (h.seq q)
  | _, _, .emp q => .emp (h _ _ q)
  | _, _, .exc q r => .exc (h _ _ q) r
theorem DaAll.mono {K : PySem.W.Frag} {F F' : Hp} (h : Same F F') : ∀ {vs : List V} {ds : List D}, DaAll K F vs ds → DaAll K F' vs ds
  | _, _, .nil => .nil
  | _, _, .cons a b => .cons (Da.mono h a) (DaAll.mono h b)
end
theorem DaAll.length {K : PySem.W.Frag} {F : Hp} : ∀ {vs : List V} {ds : List D}, DaAll K F vs ds → vs.length = ds.length
  | _, _, .nil => rfl
  | _, _, .cons _ b => congrArg (· + 1) (DaAll.length b)
theorem DaAll.get {K : PySem.W.Frag} {F : Hp} : ∀ {vs : List V} {ds : List D} {i : Nat} {d : D}, DaAll K F vs ds → ds[i]? = some d → ∃ v, vs[i]? = some v ∧ Da K F v d
  | _, _, _, _, .nil, e => by simp at e
  | _, _, 0, _, .cons a _, e => by simp at e; subst e; exact ⟨_, rfl, a⟩
  | _, _, i + 1, _, .cons _ b, e => by
    obtain ⟨v, h1, h2⟩ := DaAll.get (i := i) b (by simpa using e)
    exact ⟨v, by simpa using h1, h2⟩
theorem DaAll.getV {K : PySem.W.Frag} {F : Hp} : ∀ {vs : List V} {ds : List D} {i : Nat} {v : V}, DaAll K F vs ds → vs[i]? = some v → ∃ d, ds[i]? = some d ∧ Da K F v d
  | _, _, _, _, .nil, e => by simp at e
  | _, _, 0, _, .cons a _, e => by simp at e; subst e; exact ⟨_, rfl, a⟩
  | _, _, i + 1, _, .cons _ b, e => by
    obtain ⟨v, h1, h2⟩ := DaAll.getV (i := i) b (by simpa using e)
    exact ⟨v, by simpa using h1, h2⟩
theorem DaAll.append {K : PySem.W.Frag} {F : Hp} : ∀ {vs ws : List V} {ds es : List D}, DaAll K F vs ds → DaAll K F ws es → DaAll K F (vs ++ ws) (ds ++ es)
  | _, _, _, _, .nil, h => h
  | _, _, _, _, .cons a b, h => .cons a (DaAll.append b h)
theorem DaAll.take {K : PySem.W.Frag} {F : Hp} : ∀ {vs : List V} {ds : List D} (n : Nat), DaAll K F vs ds → DaAll K F (vs.take n) (ds.take n)
  | _, _, 0, _ => .nil
  | _, _, _ + 1, .nil => .nil
  | _, _, n + 1, .cons a b => .cons a (DaAll.take n b)
theorem DaAll.drop {K : PySem.W.Frag} {F : Hp} : ∀ {vs : List V} {ds : List D} (n : Nat), DaAll K F vs ds → DaAll K F (vs.drop n) (ds.drop n)
  | _, _, 0, h => h
  | _, _, _ + 1, .nil => .nil
  | _, _, n + 1, .cons _ b => DaAll.drop n b
theorem DaAll.dropLast {K : PySem.W.Frag} {F : Hp} {vs : List V} {ds : List D} (h : DaAll K F vs ds) : DaAll K F vs.dropLast ds.dropLast := by
  rw [List.dropLast_eq_take, List.dropLast_eq_take, h.length]
  exact h.take _
theorem DaAll.reverse {K : PySem.W.Frag} {F : Hp} : ∀ {vs : List V} {ds : List D}, DaAll K F vs ds → DaAll K F vs.reverse ds.reverse
  | _, _, .nil => .nil
  | _, _, .cons a b => by
    rw [List.reverse_cons, List.reverse_cons]
    exact (DaAll.reverse b).append (.cons a .nil)
theorem DaAll.set {K : PySem.W.Frag} {F : Hp} {v : V} {d : D} (hv : Da K F v d) : ∀ {vs : List V} {ds : List D} (n : Nat), DaAll K F vs ds → DaAll K F (vs.set n v) (ds.set n d)
  | _, _, _, .nil => .nil
  | _, _, 0, .cons _ b => .cons hv b
  | _, _, n + 1, .cons a b => .cons a (DaAll.set hv n b)
theorem DaAll.ints {K : PySem.W.Frag} {F : Hp} : ∀ (ns : List Int), DaAll K F (ns.map V.int) (ns.map D.int)
  | [] => .nil
  | n :: r => .cons (.int n) (DaAll.ints r)

/-! ### states, results -/
inductive S where
  | d (x : D)
  | l (xs : List D)
  | v (i : Nat)
  | m (j : Nat)
structure Z (T : Type) where
  rho : List (Option S)
  m : T
structure Xc where
  c : Str
  arg : Option D
inductive Rs (α ζ : Type) where
  | ok (a : α) (z : ζ)
  | ex (x : Xc) (z : ζ)
  | bad
def Rs.bind {α β ζ : Type} (r : Rs α ζ) (k : α → ζ → Rs β ζ) : Rs β ζ := match r with
  | .ok a z => k a z
  | .ex x z => .ex x z
  | .bad => .bad
@[simp] theorem Rs.bind_ok {α β ζ : Type} (a : α) (z : ζ) (k : α → ζ → Rs β ζ) : (Rs.ok a z).bind k = k a z := rfl
@[simp] theorem Rs.bind_ex {α β ζ : Type} (x : Xc) (z : ζ) (k : α → ζ → Rs β ζ) : (Rs.ex x z).bind k = .ex x z := rfl
@[simp] theorem Rs.bind_bad {α β ζ : Type} (k : α → ζ → Rs β ζ) : (Rs.bad : Rs α ζ).bind k = .bad := rfl
def Rs.opt {α ζ : Type} (o : Option α) (z : ζ) : Rs α ζ := match o with
  | some a => .ok a z
  | none => .bad
@[simp] theorem Rs.opt_some {α ζ : Type} (a : α) (z : ζ) : Rs.opt (some a) z = .ok a z := rfl
@[simp] theorem Rs.opt_none {α ζ : Type} (z : ζ) : Rs.opt (none : Option α) z = .bad := rfl

/-- a machine: mutable objects at the addresses ms that the law threads through its calls -/
structure MI where
  T : Type
  ok : PySem.W.Frag → Hp → Hp → List Addr → T → Prop
  mono : ∀ {K : PySem.W.Frag} {F F' H H' : Hp} {ms : List Addr} {t : T}, Same F F' → (∀ a ∈ ms, H' a = H a) → ok K F H ms t → ok K F' H' ms t
structure Gx where
  K : PySem.W.Frag
  xr : Str → Option Value
  ms : List Addr
  P : Hp
  Fp : Hp

def SV (G : Gx) (F H : Hp) (v : V) : S → Prop
  | .d x => Da G.K F v x
  | .l xs => ∃ a vs, v = .ref a ∧ H a = some (.lst vs) ∧ DaAll G.K F vs xs ∧ F a = none ∧ G.P a = none ∧ a ∉ G.ms
  | .v _ => False
  | .m j => ∃ a, G.ms[j]? = some a ∧ v = .ref a

structure Ok (M : MI) (G : Gx) (σ : St) (H F : Hp) (z : Z M.T) : Prop where
  sub : Same F H
  len : z.rho.length = σ.length
  slot : ∀ (i : Nat) (s : S), z.rho[i]? = some (some s) → ∃ v, σ[i]? = some (some v) ∧ SV G F H v s
  dist : ∀ (i j : Nat) (xs ys : List D) (v : V), z.rho[i]? = some (some (.l xs)) → z.rho[j]? = some (some (.l ys)) → σ[i]? = some (some v) → σ[j]? = some (some v) → i = j
  mach : M.ok G.K F H G.ms z.m
  msF : ∀ a ∈ G.ms, F a = none
  msP : ∀ a ∈ G.ms, G.P a = none
  msH : ∀ a ∈ G.ms, H a ≠ none
  fr : ∀ b o, G.P b = some o → H b = some o ∧ F b = G.Fp b

/-- a slot owns the list at a -/
def Owned {T : Type} (σ : St) (z : Z T) (a : Addr) : Prop := ∃ (i : Nat) (xs : List D), z.rho[i]? = some (some (.l xs)) ∧ σ[i]? = some (some (.ref a))

def EV {T : Type} (G : Gx) (σ : St) (F H : Hp) (z : Z T) (v : V) : S → Prop
  | .d x => Da G.K F v x
  | .l xs => ∃ a vs, v = .ref a ∧ H a = some (.lst vs) ∧ DaAll G.K F vs xs ∧ F a = none ∧ G.P a = none ∧ a ∉ G.ms ∧ ¬ Owned σ z a
  | .v i => σ[i]? = some (some v)
  | .m j => ∃ a, G.ms[j]? = some a ∧ v = .ref a
/-- .. of an operand: nothing new that is not frozen -/
def EO (G : Gx) (σ : St) (F : Hp) (v : V) : S → Prop
  | .d x => Da G.K F v x
  | .l _ => False
  | .v i => σ[i]? = some (some v)
  | .m j => ∃ a, G.ms[j]? = some a ∧ v = .ref a
theorem EO.mono {G : Gx} {σ : St} {F F' : Hp} {v : V} {s : S} (h : Same F F') (e : EO G σ F v s) : EO G σ F' v s := by
  cases s with
  | d x => exact Da.mono h e
  | l _ => exact e
  | v i => exact e
  | m j => exact e

section
variable {M : MI} {G : Gx} {σ : St} {H H' F F' : Hp} {z : Z M.T}
theorem Ok.ownH (ok : Ok M G σ H F z) {a : Addr} (o : Owned σ z a) : ∃ vs, H a = some (.lst vs) ∧ F a = none ∧ G.P a = none ∧ a ∉ G.ms := by
  obtain ⟨i, xs, h1, h2⟩ := o
  obtain ⟨v, e, b, vs, rfl, h3, _, h4, h5, h6⟩ := ok.slot i _ h1
  rw [h2] at e
  cases e
  exact ⟨vs, h3, h4, h5, h6⟩
/-- the heaps change, no slot does -/
theorem Ok.step (ok : Ok M G σ H F z) (hF : Same F F') (hs : Same F' H') (ho : ∀ a, Owned σ z a → H' a = H a ∧ F' a = none) (hm : ∀ a ∈ G.ms, H' a = H a ∧ F' a = none) (hf : ∀ b o, G.P b = some o → H' b = some o ∧ F' b = G.Fp b) : Ok M G σ H' F' z where
  sub := hs
  len := ok.len
  slot := fun i s e => by
    obtain ⟨v, h1, h2⟩ := ok.slot i s e
    refine ⟨v, h1, ?_⟩
    cases s with
    | d x => exact Da.mono hF h2
    | l xs =>
      obtain ⟨a, vs, rfl, h3, h4, h5, h6, h7⟩ := h2
      obtain ⟨q1, q2⟩ := ho a ⟨i, xs, e, h1⟩
      exact ⟨a, vs, rfl, q1.trans h3, h4.mono hF, q2, h6, h7⟩
    | v _ => exact h2
    | m j => exact h2
  dist := ok.dist
  mach := M.mono hF (fun a ha => (hm a ha).1) ok.mach
  msF := fun a ha => (hm a ha).2
  msP := ok.msP
  msH := fun a ha => by rw [(hm a ha).1]; exact ok.msH a ha
  fr := hf
theorem Ok.freshF (ok : Ok M G σ H F z) {p : Addr} (h : H p = none) : F p = none := ok.sub.free h
theorem Ok.freshP (ok : Ok M G σ H F z) {p : Addr} (h : H p = none) : G.P p = none := by
  cases q : G.P p with
  | none => rfl
  | some o =>
    rw [(ok.fr p o q).1] at h
    cases h
theorem Ok.freshM (ok : Ok M G σ H F z) {p : Addr} (h : H p = none) : p ∉ G.ms := fun q => ok.msH p q h
theorem Ok.freshO (ok : Ok M G σ H F z) {p : Addr} (h : H p = none) : ¬ Owned σ z p := fun q => by
  obtain ⟨vs, e, _⟩ := ok.ownH q
  rw [h] at e
  cases e
theorem same_upd {H : Hp} {p : Addr} {o : HO} (h : H p = none) : Same H (upd H p o) := fun b u q => by
  rw [upd_ne (ne_of_none q h)]
  exact q
theorem same_upd2 {F H : Hp} {p : Addr} {o : HO} (h : Same F H) : Same (upd F p o) (upd H p o) := fun b u q => by
  by_cases e : b = p
  · subst e
    rw [upd_same] at q ⊢
    exact q
  · rw [upd_ne e] at q ⊢
    exact h b u q
theorem same_updR {F H : Hp} {p : Addr} {o : HO} (h : Same F H) (hp : F p = none) : Same F (upd H p o) := fun b u q => by
  rw [upd_ne (ne_of_none q hp)]
  exact h b u q
/-- a new object, not frozen -/
theorem Ok.new (ok : Ok M G σ H F z) {p : Addr} (hp : H p = none) (o : HO) : Ok M G σ (upd H p o) F z :=
  ok.step (Same.refl F) (same_updR ok.sub (ok.freshF hp)) (fun a q => by
    obtain ⟨vs, e, e2, _⟩ := ok.ownH q
    exact ⟨upd_ne (ne_of_none e hp), e2⟩) (fun a q => by
    have n : a ≠ p := fun e => ok.freshM hp (e ▸ q)
    exact ⟨upd_ne n, ok.msF a q⟩) (fun b u q => by
    obtain ⟨h1, h2⟩ := ok.fr b u q
    exact ⟨by rw [upd_ne (ne_of_none h1 hp)]; exact h1, h2⟩)
/-- a new object, frozen -/
theorem Ok.newF (ok : Ok M G σ H F z) {p : Addr} (hp : H p = none) (o : HO) : Ok M G σ (upd H p o) (upd F p o) z :=
  ok.step (same_upd (ok.freshF hp)) (same_upd2 ok.sub) (fun a q => by
    obtain ⟨vs, e, e2, _⟩ := ok.ownH q
    exact ⟨upd_ne (ne_of_none e hp), by rw [upd_ne (ne_of_none e hp)]; exact e2⟩) (fun a q => by
    have n : a ≠ p := fun e => ok.freshM hp (e ▸ q)
    exact ⟨upd_ne n, by rw [upd_ne n]; exact ok.msF a q⟩) (fun b u q => by
    obtain ⟨h1, h2⟩ := ok.fr b u q
    have n := ne_of_none h1 hp
    exact ⟨by rw [upd_ne n]; exact h1, by rw [upd_ne n]; exact h2⟩)
/-- a list that no slot owns is frozen -/
theorem Ok.frz (ok : Ok M G σ H F z) {a : Addr} {vs : List V} (ha : H a = some (.lst vs)) (hF : F a = none) (hP : G.P a = none) (hm : a ∉ G.ms) (ho : ¬ Owned σ z a) : Ok M G σ H (upd F a (.lst vs)) z :=
  ok.step (same_upd hF) (fun b u q => by
    by_cases e : b = a
    · subst e
      rw [upd_same] at q
      rw [ha]
      exact q
    · rw [upd_ne e] at q
      exact ok.sub b u q) (fun b q => by
    obtain ⟨_, _, e2, _⟩ := ok.ownH q
    have n : b ≠ a := fun e => ho (e ▸ q)
    exact ⟨rfl, by rw [upd_ne n]; exact e2⟩) (fun b q => by
    have n : b ≠ a := fun e => hm (e ▸ q)
    exact ⟨rfl, by rw [upd_ne n]; exact ok.msF b q⟩) (fun b u q => by
    obtain ⟨h1, h2⟩ := ok.fr b u q
    have n : b ≠ a := fun e => by rw [e, hP] at q; cases q
    exact ⟨h1, by rw [upd_ne n]; exact h2⟩)
/-- a slot is stored -/
theorem Ok.set (ok : Ok M G σ H F z) {i : Nat} {v : V} {s : S} (hv : SV G F H v s) (hs : ∀ xs, s = .l xs → ∀ a, v = .ref a → ¬ Owned σ z a) : Ok M G (σ.set i (some v)) H F { z with rho := z.rho.set i (some s) } where
  sub := ok.sub
  len := by simp [ok.len]
  slot := fun j t e => by
    by_cases hj : j = i
    · subst hj
      by_cases hl : j < z.rho.length
      · have e2 : (z.rho.set j (some s))[j]? = some (some s) := List.getElem?_set_self hl
        have e' : (z.rho.set j (some s))[j]? = some (some t) := e
        rw [e2] at e'
        cases e'
        exact ⟨v, List.getElem?_set_self (by rw [← ok.len]; exact hl), hv⟩
      · have e' : (z.rho.set j (some s))[j]? = some (some t) := e
        rw [List.getElem?_eq_none (by simp; omega)] at e'
        cases e'
    · have e' : (z.rho.set i (some s))[j]? = some (some t) := e
      rw [List.getElem?_set_ne (Ne.symm hj)] at e'
      obtain ⟨w, h1, h2⟩ := ok.slot j t e'
      exact ⟨w, by rw [List.getElem?_set_ne (Ne.symm hj)]; exact h1, h2⟩
  dist := fun j k xs ys w e1 e2 e3 e4 => by
    have e1' : (z.rho.set i (some s))[j]? = some (some (.l xs)) := e1
    have e2' : (z.rho.set i (some s))[k]? = some (some (.l ys)) := e2
    have lt : ∀ {n : Nat} {t : Option S}, (z.rho.set i (some s))[n]? = some t → n < z.rho.length := fun {n t} q => by
      have := (List.getElem?_eq_some_iff.mp q).1
      simpa using this
    have hit : ∀ {n m : Nat} {xs ys : List D}, n = i → m ≠ i → (z.rho.set i (some s))[n]? = some (some (.l xs)) → (z.rho.set i (some s))[m]? = some (some (.l ys)) → (σ.set i (some v))[n]? = some (some w) → (σ.set i (some v))[m]? = some (some w) → False := fun {n m xs ys} hn hm q1 q2 q3 q4 => by
      subst hn
      have hl := lt q1
      rw [List.getElem?_set_self hl] at q1
      rw [List.getElem?_set_self (by rw [← ok.len]; exact hl)] at q3
      rw [List.getElem?_set_ne (Ne.symm hm)] at q2 q4
      cases q1
      cases q3
      obtain ⟨u, h1, a, vs, rfl, h2⟩ := ok.slot m _ q2
      rw [q4] at h1
      cases h1
      exact hs _ rfl a rfl ⟨m, ys, q2, q4⟩
    by_cases hj : j = i
    · by_cases hk : k = i
      · rw [hj, hk]
      · exact (hit hj hk e1' e2' e3 e4).elim
    · by_cases hk : k = i
      · exact (hit hk hj e2' e1' e4 e3).elim
      · rw [List.getElem?_set_ne (Ne.symm hj)] at e1' e3
        rw [List.getElem?_set_ne (Ne.symm hk)] at e2' e4
        exact ok.dist j k xs ys w e1' e2' e3 e4
  mach := ok.mach
  msF := ok.msF
  msP := ok.msP
  msH := ok.msH
  fr := ok.fr
end
end G
namespace G
open PySem L2

abbrev Sm (M : MI) (α : Type) := Z M.T → Rs α (Z M.T)
def XOk (G : Gx) (F H : Hp) (x : Xc) (cls : Value) (d : Option Addr) : Prop := G.xr x.c = some cls ∧ match x.arg with
  | none => d = none
  | some a => ∃ dd v, d = some dd ∧ H dd = some (.xd [(("at" : Str), v)]) ∧ Da G.K F v a
def HitG {α β : Type} (M : MI) (G : Gx) (W : WX) (σ : St) (F : Hp) (R : α → β → Hp → Hp → Z M.T → Prop) (r : Rs α (Z M.T)) (Q : β → Hp → Prop) : Prop := match r with
  | .ok a z => ∀ b H' F', Same F F' → Ok M G σ H' F' z → R a b F' H' z → Q b H'
  | .ex x z => ∀ cls d H' F', Same F F' → Ok M G σ H' F' z → XOk G F' H' x cls d → W cls d σ H'
  | .bad => False
def RelE {M : MI} (G : Gx) (σ : St) : S → V → Hp → Hp → Z M.T → Prop := fun s v F H z => EV G σ F H z v s
def RelO {M : MI} (G : Gx) (σ : St) : S → V → Hp → Hp → Z M.T → Prop := fun s v F _ _ => EO G σ F v s
def RelB {M : MI} (_ : Gx) (_ : St) : Bool → Bool → Hp → Hp → Z M.T → Prop := fun b c _ _ _ => c = b
def RelA {M : MI} (G : Gx) (σ : St) : List S → List V → Hp → Hp → Z M.T → Prop := fun ss vs F _ _ => Paired (fun v s => EO G σ F v s) vs ss
def RelI {M : MI} (_ : Gx) (_ : St) : Option Int → Option Int → Hp → Hp → Z M.T → Prop := fun b c _ _ _ => c = b
def Cmp {α β : Type} (M : MI) (K : PySem.W.Frag) (xr : Str → Option Value) (W : WX) (t : St → Hp → (β → Hp → Prop) → Prop) (Rel : Gx → St → α → β → Hp → Hp → Z M.T → Prop) (f : Sm M α) : Prop :=
  ∀ (G : Gx) (σ : St) (H F : Hp) (z : Z M.T) (Q : β → Hp → Prop), G.K = K → G.xr = xr → Ok M G σ H F z → HitG M G W σ F (Rel G σ) (f z) Q → t σ H Q

section
variable {M : MI} {G : Gx} {W : WX} {σ : St} {H H' F F' : Hp} {z : Z M.T}
theorem HitG.mono {α β : Type} {R : α → β → Hp → Hp → Z M.T → Prop} {r : Rs α (Z M.T)} {Q : β → Hp → Prop} (h : HitG M G W σ F R r Q) (s : Same F F') : HitG M G W σ F' R r Q := by
  cases r with
  | ok a z => exact fun b H' F1 s1 ok rr => h b H' F1 (s.trans s1) ok rr
  | ex x z => exact fun cls d H' F1 s1 ok xo => h cls d H' F1 (s.trans s1) ok xo
  | bad => exact h
theorem hit_bind {α β α' β' : Type} {R1 : α → β → Hp → Hp → Z M.T → Prop} {R2 : α' → β' → Hp → Hp → Z M.T → Prop} {r : Rs α (Z M.T)} {k : α → Z M.T → Rs α' (Z M.T)} {Q : β' → Hp → Prop} {Q1 : β → Hp → Prop}
    (h : HitG M G W σ F R2 (r.bind k) Q) (hk : ∀ a z1 b H1 F1, r = .ok a z1 → Same F F1 → Ok M G σ H1 F1 z1 → R1 a b F1 H1 z1 → HitG M G W σ F1 R2 (k a z1) Q → Q1 b H1) : HitG M G W σ F R1 r Q1 := by
  cases r with
  | ok a z => exact fun b H' F1 s1 ok rr => hk a z b H' F1 rfl s1 ok rr (HitG.mono h s1)
  | ex x z => exact h
  | bad => exact h

/-! ### operands -/
def opd (f : Sm M S) : Sm M S := fun z => (f z).bind fun s z1 => .ok (match s with | .l xs => .d (.lst xs) | s => s) z1
def escS (s : S) (z : Z M.T) : Rs S (Z M.T) := match s with
  | .d x => .ok (.d x) z
  | .l xs => .ok (.d (.lst xs)) z
  | .m j => .ok (.m j) z
  | .v i => match z.rho[i]? with
    | some (some (.l xs)) => .ok (.d (.lst xs)) { z with rho := z.rho.set i (some (.d (.lst xs))) }
    | some (some (.d x)) => .ok (.d x) z
    | _ => .bad
def escf (f : Sm M S) : Sm M S := fun z => (f z).bind escS
theorem EV.frz (ok : Ok M G σ H F z) {v : V} {xs : List D} (e : EV G σ F H z v (.l xs)) : ∃ F', Same F F' ∧ Ok M G σ H F' z ∧ Da G.K F' v (.lst xs) := by
  obtain ⟨a, vs, rfl, h1, h2, h3, h4, h5, h6⟩ := e
  exact ⟨upd F a (.lst vs), same_upd h3, ok.frz h1 h3 h4 h5 h6, .lst upd_same (h2.mono (same_upd h3))⟩
theorem cmp_opd {K : PySem.W.Frag} {xr : Str → Option Value} {t : TE} {f : Sm M S} (hf : Cmp M K xr W t RelE f) : Cmp M K xr W t RelO (opd f) := by
  intro G σ H F z Q hK hx ok h
  refine hf G σ H F z Q hK hx ok (hit_bind h fun s z1 v H1 F1 _ sm ok1 ev h1 => ?_)
  cases s with
  | d x => exact h1 v H1 F1 (Same.refl _) ok1 ev
  | l xs =>
    obtain ⟨F2, s2, ok2, da⟩ := EV.frz ok1 ev
    exact h1 v H1 F2 s2 ok2 da
  | v i => exact h1 v H1 F1 (Same.refl _) ok1 ev
  | m j => exact h1 v H1 F1 (Same.refl _) ok1 ev
/-- a slot's list is frozen for good -/
theorem Ok.frzSlot (ok : Ok M G σ H F z) {i : Nat} {xs : List D} {v : V} (h : z.rho[i]? = some (some (.l xs))) (hv : σ[i]? = some (some v)) :
    ∃ F', Same F F' ∧ Ok M G σ H F' { z with rho := z.rho.set i (some (.d (.lst xs))) } ∧ Da G.K F' v (.lst xs) := by
  obtain ⟨w, e, a, vs, rfl, h1, h2, h3, h4, h5⟩ := ok.slot i _ h
  rw [hv] at e
  cases e
  have hl : i < z.rho.length := (List.getElem?_eq_some_iff.mp h).1
  have ok1 : Ok M G (σ.set i (some .non)) H F { z with rho := z.rho.set i (some (.d .non)) } := ok.set (v := .non) (s := .d .non) Da.non (fun _ e => by cases e)
  have no : ¬ Owned (σ.set i (some .non)) { z with rho := z.rho.set i (some (.d .non)) } a := fun ⟨j, ys, e1, e2⟩ => by
    by_cases hj : j = i
    · subst hj
      have e1' : (z.rho.set j (some (.d .non)))[j]? = some (some (.l ys)) := e1
      rw [List.getElem?_set_self hl] at e1'
      cases e1'
    · have e1' : (z.rho.set i (some (.d .non)))[j]? = some (some (.l ys)) := e1
      rw [List.getElem?_set_ne (Ne.symm hj)] at e1' e2
      exact hj (ok.dist j i ys xs _ e1' h e2 hv)
  have ok2 := ok1.frz h1 h3 h4 h5 no
  have da : Da G.K (upd F a (.lst vs)) (.ref a) (.lst xs) := .lst upd_same (h2.mono (same_upd h3))
  have ok3 := ok2.set (i := i) (v := .ref a) (s := .d (.lst xs)) da (fun _ e => by cases e)
  have e1 : (σ.set i (some V.non)).set i (some (.ref a)) = σ := by
    rw [List.set_set]
    exact List.ext_getElem? fun n => by
      by_cases hn : n = i
      · subst hn
        rw [List.getElem?_set_self (by rw [← ok.len]; exact hl), hv]
      · rw [List.getElem?_set_ne (Ne.symm hn)]
  rw [e1] at ok3
  have e2 : ({ rho := (z.rho.set i (some (.d .non))).set i (some (.d (.lst xs))), m := z.m } : Z M.T) = { z with rho := z.rho.set i (some (.d (.lst xs))) } := by rw [List.set_set]
  exact ⟨_, same_upd h3, by rw [← e2]; exact ok3, da⟩
theorem cmp_esc {K : PySem.W.Frag} {xr : Str → Option Value} {t : TE} {f : Sm M S} (hf : Cmp M K xr W t RelE f) : Cmp M K xr W t RelO (escf f) := by
  intro G σ H F z Q hK hx ok h
  refine hf G σ H F z Q hK hx ok (hit_bind h fun s z1 v H1 F1 _ sm ok1 ev h1 => ?_)
  cases s with
  | d x => exact h1 v H1 F1 (Same.refl _) ok1 ev
  | l xs =>
    obtain ⟨F2, s2, ok2, da⟩ := EV.frz ok1 ev
    exact h1 v H1 F2 s2 ok2 da
  | m j => exact h1 v H1 F1 (Same.refl _) ok1 ev
  | v i =>
    have ev' : σ[i]? = some (some v) := ev
    simp only [escS] at h1
    split at h1
    · rename_i xs hs
      obtain ⟨F2, s2, ok2, da⟩ := ok1.frzSlot hs ev'
      exact h1 v H1 F2 s2 ok2 da
    · rename_i x hs
      obtain ⟨w, e, q⟩ := ok1.slot i _ hs
      rw [ev'] at e
      cases e
      exact h1 v H1 F1 (Same.refl _) ok1 q
    · exact h1.elim
/-- what an operand reads as -/
def rd {T : Type} (z : Z T) : S → Option D
  | .d x => some x
  | .l xs => some (.lst xs)
  | .v i => match z.rho[i]? with
    | some (some (.d x)) => some x
    | some (some (.l xs)) => some (.lst xs)
    | _ => none
  | .m _ => none
def Rv (K : PySem.W.Frag) (F H : Hp) (v : V) (x : D) : Prop := Da K F v x ∨ ∃ a vs xs, v = .ref a ∧ x = .lst xs ∧ H a = some (.lst vs) ∧ DaAll K F vs xs
theorem EO.rv (ok : Ok M G σ H F z) {v : V} {s : S} {x : D} (e : EO G σ F v s) (h : rd z s = some x) : Rv G.K F H v x := by
  cases s with
  | d y => cases h; exact .inl e
  | l _ => exact e.elim
  | m _ => cases h
  | v i =>
    have e' : σ[i]? = some (some v) := e
    simp only [rd] at h
    split at h
    · rename_i y hs
      cases h
      obtain ⟨w, e1, q⟩ := ok.slot i _ hs
      rw [e'] at e1
      cases e1
      exact .inl q
    · rename_i xs hs
      cases h
      obtain ⟨w, e1, a, vs, rfl, h1, h2, _⟩ := ok.slot i _ hs
      rw [e'] at e1
      cases e1
      exact .inr ⟨a, vs, xs, rfl, rfl, h1, h2⟩
    · cases h

/-! ### results of operations -/
inductive R where
  | d (x : D)
  /-- a tuple, an old one or a new one -/
  | t (xs : List D)
  | l (xs : List D)
def R.toS : R → S
  | .d x => .d x
  | .t xs => .d (.tup xs)
  | .l xs => .l xs
def Hit0 (K : PySem.W.Frag) (F H : Hp) (r : Option R) (Q : VK) : Prop := match r with
  | some (.d y) => ∀ v, Da K F v y → Q v H
  | some (.t ys) => (∀ v, Da K F v (.tup ys) → Q v H) ∧ ∀ p vs, H p = none → DaAll K F vs ys → Q (.ref p) (upd H p (.tup vs))
  | some (.l ys) => ∀ p vs, H p = none → DaAll K F vs ys → Q (.ref p) (upd H p (.lst vs))
  | none => False
def fin (o : Option R) : Sm M S := fun z => match o with
  | some r => .ok r.toS z
  | none => .bad
theorem fin_hit (ok : Ok M G σ H F z) {o : Option R} {Q : VK} (h : HitG M G W σ F (RelE G σ) (fin o z) Q) : Hit0 G.K F H o Q := by
  cases o with
  | none => exact h
  | some r =>
    cases r with
    | d y => exact fun v hv => h v H F (Same.refl _) ok hv
    | t ys => exact ⟨fun v hv => h v H F (Same.refl _) ok hv, fun p vs hp hv => h (.ref p) (upd H p (.tup vs)) (upd F p (.tup vs)) (same_upd (ok.freshF hp)) (ok.newF hp _) (.tup (SqT.of upd_same) (hv.mono (same_upd (ok.freshF hp))))⟩
    | l ys => exact fun p vs hp hv => h (.ref p) (upd H p (.lst vs)) F (Same.refl _) (ok.new hp _) ⟨p, vs, rfl, upd_same, hv, ok.freshF hp, ok.freshP hp, ok.freshM hp, ok.freshO hp⟩
def Op2 (K : PySem.W.Frag) (r : R2) (g : D → D → Option R) : Prop := ∀ (F H : Hp) (x y : V) (a b : D) (Q : VK), Same F H → Rv K F H x a → Rv K F H y b → Hit0 K F H (g a b) Q → r x y H Q
def Op1 (K : PySem.W.Frag) (r : V → Hp → VK → Prop) (g : D → Option R) : Prop := ∀ (F H : Hp) (x : V) (a : D) (Q : VK), Same F H → Rv K F H x a → Hit0 K F H (g a) Q → r x H Q
def OpN (K : PySem.W.Frag) (r : List V → Hp → VK → Prop) (g : List D → Option R) : Prop := ∀ (F H : Hp) (xs : List V) (as : List D) (Q : VK), Same F H → Paired (Rv K F H) xs as → Hit0 K F H (g as) Q → r xs H Q
def Op1N (K : PySem.W.Frag) (r : V → List V → Hp → VK → Prop) (g : D → List D → Option R) : Prop := ∀ (F H : Hp) (x : V) (xs : List V) (a : D) (as : List D) (Q : VK), Same F H → Rv K F H x a → Paired (Rv K F H) xs as → Hit0 K F H (g a as) Q → r x xs H Q

/-! ### the judgements -/
def DE {ι : Type} (M : MI) (xr : Str → Option Value) (K : PySem.W.Frag) (X : ι → Cx) (W : WX) (e : Expr) (f : Sm M S) : Prop := ∃ t, (∀ i, PE (X i) e t) ∧ Cmp M K xr W t RelE f
def DT {ι : Type} (M : MI) (xr : Str → Option Value) (K : PySem.W.Frag) (X : ι → Cx) (W : WX) (e : Expr) (f : Sm M Bool) : Prop := ∃ t, (∀ i, PT (X i) e t) ∧ Cmp M K xr W t RelB f
def DA {ι : Type} (M : MI) (xr : Str → Option Value) (K : PySem.W.Frag) (X : ι → Cx) (W : WX) (es : List Expr) (f : Sm M (List S)) : Prop := ∃ t, (∀ i, PA (X i) es t) ∧ Cmp M K xr W t RelA f
def DO {ι : Type} (M : MI) (xr : Str → Option Value) (K : PySem.W.Frag) (X : ι → Cx) (W : WX) (e : Option Expr) (f : Sm M (Option Int)) : Prop := ∃ t, (∀ i, PO (X i) e t) ∧ Cmp M K xr W t RelI f

/-! ### mirrors -/
def eVar (i : Nat) : Sm M S := fun z => match z.rho[i]? with
  | some (some (.l _)) => .ok (.v i) z
  | some (some s) => .ok s z
  | _ => .bad
def eC (x : D) : Sm M S := fun z => .ok (.d x) z
def rdf {α : Type} (g : D → Option α) (s : S) (z : Z M.T) : Option α := (rd z s).bind g
def eBin (g : D → D → Option R) (f f' : Sm M S) : Sm M S := fun z => (opd f z).bind fun s z1 => (opd f' z1).bind fun s' z2 => fin ((rd z2 s).bind fun x => (rd z2 s').bind fun y => g x y) z2
def eUn (g : D → Option R) (f : Sm M S) : Sm M S := fun z => (opd f z).bind fun s z1 => fin ((rd z1 s).bind g) z1
def tOf (f : Sm M S) : Sm M Bool := fun z => (f z).bind fun s z1 => match s with
  | .d (.bl b) => .ok b z1
  | _ => .bad
def tTru (g : D → Option Bool) (f : Sm M S) : Sm M Bool := fun z => (opd f z).bind fun s z1 => Rs.opt ((rd z1 s).bind g) z1
def tAndM (f g : Sm M Bool) : Sm M Bool := fun z => (f z).bind fun b z1 => if b = true then g z1 else .ok false z1
def tOrM (f g : Sm M Bool) : Sm M Bool := fun z => (f z).bind fun b z1 => if b = true then .ok true z1 else g z1
def tNotM (f : Sm M Bool) : Sm M Bool := fun z => (f z).bind fun b z1 => .ok (!b) z1
def eAndM (f g : Sm M S) : Sm M S := fun z => (tOf f z).bind fun b z1 => if b = true then g z1 else .ok (.d (.bl false)) z1
def eOrM (f g : Sm M S) : Sm M S := fun z => (tOf f z).bind fun b z1 => if b = true then .ok (.d (.bl true)) z1 else g z1
def eNotM (f : Sm M S) : Sm M S := fun z => (tOf f z).bind fun b z1 => .ok (.d (.bl (!b))) z1
def eIf (c : Sm M Bool) (f g : Sm M S) : Sm M S := fun z => (c z).bind fun b z1 => if b = true then f z1 else g z1
def aNil : Sm M (List S) := fun z => .ok [] z
def aCons (f : Sm M S) (g : Sm M (List S)) : Sm M (List S) := fun z => (f z).bind fun s z1 => (g z1).bind fun ss z2 => .ok (s :: ss) z2
def dsOf : List S → Option (List D)
  | [] => some []
  | .d x :: r => (dsOf r).bind fun xs => some (x :: xs)
  | _ :: _ => none
def lim : Nat := 1000000
theorem lim_line : lim < sizeLine := by rw [sizeLine_eq]; decide
def eTup (g : Sm M (List S)) : Sm M S := fun z => (g z).bind fun ss z1 => match dsOf ss with
  | some ds => if ds.length ≤ lim then .ok (.d (.tup ds)) z1 else .bad
  | none => .bad
def eLst (g : Sm M (List S)) : Sm M S := fun z => (g z).bind fun ss z1 => match dsOf ss with
  | some ds => if ds.length ≤ lim then .ok (.l ds) z1 else .bad
  | none => .bad
def rds {T : Type} (z : Z T) : List S → Option (List D)
  | [] => some []
  | s :: r => (rd z s).bind fun x => (rds z r).bind fun xs => some (x :: xs)
def eFn (g : List D → Option R) (f : Sm M (List S)) : Sm M S := fun z => (f z).bind fun ss z1 => fin ((rds z1 ss).bind g) z1
end
end G
namespace G
open PySem L2
section
variable {ι : Type} {M : MI} {xr : Str → Option Value} {X : ι → Cx} {W : WX} {K : PySem.W.Frag}

theorem cmp_var {i : Nat} : Cmp M K xr W (tVar i) RelE (eVar i) := by
  intro G σ H F z Q _ _ ok h
  unfold eVar at h
  split at h
  · rename_i xs hs
    obtain ⟨v, e, _⟩ := ok.slot i _ hs
    exact ⟨v, e, h v H F (Same.refl _) ok e⟩
  · rename_i s hn hs
    obtain ⟨v, e, q⟩ := ok.slot i _ hs
    refine ⟨v, e, h v H F (Same.refl _) ok ?_⟩
    cases s with
    | d x => exact q
    | l xs => exact (hn xs rfl).elim
    | v j => exact q.elim
    | m j => exact q
  · exact h.elim
theorem de_var (i : Nat) {x : Str} {pos : Pos} (hN : ∀ j, (X j).N[i]? = some x := by intro _; rfl) (hv : ∀ j, Vis (X j).env.scope x := by first | exact fun _ => Or.inl rfl | exact fun _ => Or.inr (Or.inl rfl) | exact fun _ => Or.inr (Or.inr rfl)) (hd : (x == ("__debug__" : Str)) = false := by decide)
    (hcd : (x == ("__classdict__" : Str)) = false := by decide) : DE M xr K X W (.Name x pos) (eVar i) := ⟨_, fun j => pe_var (hN j) (hv j) hd hcd, cmp_var⟩
theorem cmp_c {v : V} {d : D} (hd : ∀ F, Da K F v d) : Cmp M K xr W (tC v) RelE (eC d) := fun G σ H F z Q hK _ ok h => h v H F (Same.refl _) ok (by subst hK; exact hd F)
theorem de_int {i j pos} : DE M xr K X W (.Constant (.int i) j pos) (eC (.int i)) := ⟨_, fun _ => pe_int, cmp_c fun _ => .int i⟩
theorem de_str {i j pos} : DE M xr K X W (.Constant (.str i) j pos) (eC (.str i)) := ⟨_, fun _ => pe_str, cmp_c fun _ => .str _⟩
theorem de_bl {i j pos} : DE M xr K X W (.Constant (.bool i) j pos) (eC (.bl i)) := ⟨_, fun _ => pe_bl, cmp_c fun _ => .bl i⟩
theorem de_non {j pos} : DE M xr K X W (.Constant .none j pos) (eC .non) := ⟨_, fun _ => pe_non, cmp_c fun _ => .non⟩
theorem de_glob {x : Str} {v : V} {u : Value} {d : D} {pos : Pos} (hg : ∀ j, Gl (X j) x) (hm : ∀ j, (X j).mg x = some u) (r : RelV v u) (hd : ∀ F, Da K F v d) (hb : (x == ("__debug__" : Str)) = false := by decide) : DE M xr K X W (.Name x pos) (eC d) := ⟨_, fun j => pe_glob (hg j) (hm j) r hb, cmp_c hd⟩

/-! ### operators -/
theorem cmp_bin {r : R2} {g : D → D → Option R} {ta tb : TE} {f f' : Sm M S} (hd : Op2 K r g) (ha : Cmp M K xr W ta RelE f) (hb : Cmp M K xr W tb RelE f') : Cmp M K xr W (tOp r ta tb) RelE (eBin g f f') := by
  intro G σ H F z Q hK hx ok h
  refine cmp_opd ha G σ H F z _ hK hx ok (hit_bind h fun s z1 v H1 F1 _ sm1 ok1 e1 h1 => ?_)
  refine cmp_opd hb G σ H1 F1 z1 _ hK hx ok1 (hit_bind h1 fun s' z2 v' H2 F2 _ sm2 ok2 e2 h2 => ?_)
  have q := fin_hit ok2 h2
  subst hK
  cases ea : rd z2 s with
  | none => rw [ea] at q; exact q.elim
  | some x =>
    cases eb : rd z2 s' with
    | none => rw [ea, eb] at q; exact q.elim
    | some y =>
      rw [ea, eb] at q
      exact hd F2 H2 v v' x y Q ok2.sub (EO.rv ok2 (EO.mono sm2 e1) ea) (EO.rv ok2 e2 eb) q
theorem de_bin {op : Operator} {r : R2} {g : D → D → Option R} {a b : Expr} {f f' : Sm M S} {pos : Pos} (ho : ∀ j, OpR (X j) (binaryOp op) r) (hd : Op2 K r g) (ha : DE M xr K X W a f) (hb : DE M xr K X W b f') : DE M xr K X W (.BinOp a op b pos) (eBin g f f') := by
  obtain ⟨ta, pa, ca⟩ := ha
  obtain ⟨tb, pb, cb⟩ := hb
  exact ⟨_, fun j => pe_op (ho j) (pa j) (pb j), cmp_bin hd ca cb⟩
theorem de_cmp {op : CmpOp} {r : R2} {g : D → D → Option R} {a b : Expr} {f f' : Sm M S} {pos : Pos} (ho : ∀ j, OpR (X j) (compareOp op) r) (hd : Op2 K r g) (ha : DE M xr K X W a f) (hb : DE M xr K X W b f') (hm : behindInMarks op b = false) : DE M xr K X W (.Compare a [op] [b] pos) (eBin g f f') := by
  obtain ⟨ta, pa, ca⟩ := ha
  obtain ⟨tb, pb, cb⟩ := hb
  exact ⟨_, fun j => pe_cmpR (ho j) (pa j) (pb j) hm, cmp_bin hd ca cb⟩
theorem cmp_tOf {t : TE} {f : Sm M S} (h : Cmp M K xr W t RelE f) : Cmp M K xr W (tTest t) RelB (tOf f) := by
  intro G σ H F z Q hK hx ok hh
  refine h G σ H F z _ hK hx ok (hit_bind hh fun s z1 v H1 F1 _ sm1 ok1 e1 h1 => ?_)
  cases s with
  | d x =>
    cases x with
    | bl b =>
      cases (show Da G.K F1 v (.bl b) from e1)
      exact ⟨b, rfl, h1 b H1 F1 (Same.refl _) ok1 rfl⟩
    | _ => exact h1.elim
  | _ => exact h1.elim
theorem dt_cmp {op : CmpOp} {r : R2} {g : D → D → Option R} {a b : Expr} {f f' : Sm M S} {pos : Pos} (ho : ∀ j, OpR (X j) (compareOp op) r) (hd : Op2 K r g) (ha : DE M xr K X W a f) (hb : DE M xr K X W b f') (hm : behindInMarks op b = false) : DT M xr K X W (.Compare a [op] [b] pos) (tOf (eBin g f f')) := by
  obtain ⟨ta, pa, ca⟩ := ha
  obtain ⟨tb, pb, cb⟩ := hb
  exact ⟨_, fun j => pt_cmpR (ho j) (pa j) (pb j) hm, cmp_tOf (cmp_bin hd ca cb)⟩
/-- an expression that gives a bool, as a test -/
theorem dt_val {e : Expr} {f : Sm M S} (h : DE M xr K X W e f) (he : ∀ j whole, isTrue e (X j).env whole = (do let v ← whole; standAt e.pos; holding [v] (truthy v)) := by intro _ _; rfl) : DT M xr K X W e (tOf f) := by
  obtain ⟨t, p, c⟩ := h
  exact ⟨_, fun j => pt_val (p j) (he j), cmp_tOf c⟩
theorem cmp_and {t u : TT} {f g : Sm M Bool} (h : Cmp M K xr W t RelB f) (h' : Cmp M K xr W u RelB g) : Cmp M K xr W (tAnd t u) RelB (tAndM f g) := by
  intro G σ H F z Q hK hx ok hh
  refine h G σ H F z _ hK hx ok (hit_bind hh fun b z1 c H1 F1 _ sm1 ok1 e1 h1 => ?_)
  cases (show c = b from e1)
  cases b with
  | true => exact h' G σ H1 F1 z1 Q hK hx ok1 h1
  | false => exact h1 false H1 F1 (Same.refl _) ok1 rfl
theorem cmp_or {t u : TT} {f g : Sm M Bool} (h : Cmp M K xr W t RelB f) (h' : Cmp M K xr W u RelB g) : Cmp M K xr W (tOr t u) RelB (tOrM f g) := by
  intro G σ H F z Q hK hx ok hh
  refine h G σ H F z _ hK hx ok (hit_bind hh fun b z1 c H1 F1 _ sm1 ok1 e1 h1 => ?_)
  cases (show c = b from e1)
  cases b with
  | false => exact h' G σ H1 F1 z1 Q hK hx ok1 h1
  | true => exact h1 true H1 F1 (Same.refl _) ok1 rfl
def DW {ι : Type} (M : MI) (xr : Str → Option Value) (K : PySem.W.Frag) (X : ι → Cx) (W : WX) (e : Expr) (f : Sm M Bool) : Prop := ∃ t, (∀ j, PW (X j) e t) ∧ Cmp M K xr W t RelB f
theorem dw_and1 {a : Expr} {f : Sm M Bool} {pos : Pos} (h : DT M xr K X W a f) : DW M xr K X W (.BoolOp .And [a] pos) f := by
  obtain ⟨t, p, c⟩ := h
  exact ⟨_, fun j => pw_and1 (p j), c⟩
theorem dw_or1 {a : Expr} {f : Sm M Bool} {pos : Pos} (h : DT M xr K X W a f) : DW M xr K X W (.BoolOp .Or [a] pos) f := by
  obtain ⟨t, p, c⟩ := h
  exact ⟨_, fun j => pw_or1 (p j), c⟩
theorem dw_and {a b : Expr} {r : List Expr} {f g : Sm M Bool} {pos : Pos} (h : DT M xr K X W a f) (h' : DW M xr K X W (.BoolOp .And (b :: r) pos) g) : DW M xr K X W (.BoolOp .And (a :: b :: r) pos) (tAndM f g) := by
  obtain ⟨t, p, c⟩ := h
  obtain ⟨t', p', c'⟩ := h'
  exact ⟨_, fun j => pw_and (p j) (p' j), cmp_and c c'⟩
theorem dw_or {a b : Expr} {r : List Expr} {f g : Sm M Bool} {pos : Pos} (h : DT M xr K X W a f) (h' : DW M xr K X W (.BoolOp .Or (b :: r) pos) g) : DW M xr K X W (.BoolOp .Or (a :: b :: r) pos) (tOrM f g) := by
  obtain ⟨t, p, c⟩ := h
  obtain ⟨t', p', c'⟩ := h'
  exact ⟨_, fun j => pw_or (p j) (p' j), cmp_or c c'⟩
theorem dt_w {e : Expr} {f : Sm M Bool} (h : DW M xr K X W e f) : DT M xr K X W e f := by
  obtain ⟨t, p, c⟩ := h
  exact ⟨_, fun j => (p j).pt, c⟩
theorem dt_not {a : Expr} {f : Sm M Bool} {pos : Pos} (h : DT M xr K X W a f) : DT M xr K X W (.UnaryOp .Not a pos) (tNotM f) := by
  obtain ⟨t, p, c⟩ := h
  refine ⟨_, fun j => pt_not (p j), fun G σ H F z Q hK hx ok hh => ?_⟩
  refine c G σ H F z _ hK hx ok (hit_bind hh fun b z1 c H1 F1 _ sm1 ok1 e1 h1 => ?_)
  cases (show c = b from e1)
  exact h1 _ H1 F1 (Same.refl _) ok1 rfl
/-! ### and, or, not as values (all but the last are bools) -/
theorem de_one {op} {a : Expr} {f : Sm M S} {pos : Pos} (h : DE M xr K X W a f) : DE M xr K X W (.BoolOp op [a] pos) f := by
  obtain ⟨t, p, c⟩ := h
  exact ⟨_, fun j => pe_one (p j), c⟩
theorem de_and {a b : Expr} {r : List Expr} {f g : Sm M S} {pos : Pos} (h : DE M xr K X W a f) (h' : DE M xr K X W (.BoolOp .And (b :: r) pos) g) : DE M xr K X W (.BoolOp .And (a :: b :: r) pos) (eAndM f g) := by
  obtain ⟨t, p, c⟩ := h
  obtain ⟨t', p', c'⟩ := h'
  refine ⟨_, fun j => pe_and (p j) (p' j), fun G σ H F z Q hK hx ok hh => ?_⟩
  refine cmp_tOf c G σ H F z (fun b H1 => if b = true then t' σ H1 Q else Q (.bl false) H1) hK hx ok (hit_bind hh fun b z1 c H1 F1 _ sm1 ok1 e1 h1 => ?_)
  cases (show c = b from e1)
  cases b with
  | true => exact c' G σ H1 F1 z1 Q hK hx ok1 h1
  | false => exact h1 (.bl false) H1 F1 (Same.refl _) ok1 (Da.bl false)
theorem de_or {a b : Expr} {r : List Expr} {f g : Sm M S} {pos : Pos} (h : DE M xr K X W a f) (h' : DE M xr K X W (.BoolOp .Or (b :: r) pos) g) : DE M xr K X W (.BoolOp .Or (a :: b :: r) pos) (eOrM f g) := by
  obtain ⟨t, p, c⟩ := h
  obtain ⟨t', p', c'⟩ := h'
  refine ⟨_, fun j => pe_or (p j) (p' j), fun G σ H F z Q hK hx ok hh => ?_⟩
  refine cmp_tOf c G σ H F z (fun b H1 => if b = true then Q (.bl true) H1 else t' σ H1 Q) hK hx ok (hit_bind hh fun b z1 c H1 F1 _ sm1 ok1 e1 h1 => ?_)
  cases (show c = b from e1)
  cases b with
  | false => exact c' G σ H1 F1 z1 Q hK hx ok1 h1
  | true => exact h1 (.bl true) H1 F1 (Same.refl _) ok1 (Da.bl true)
theorem de_not {a : Expr} {f : Sm M S} {pos : Pos} (h : DE M xr K X W a f) : DE M xr K X W (.UnaryOp .Not a pos) (eNotM f) := by
  obtain ⟨t, p, c⟩ := h
  refine ⟨_, fun j => pe_not (p j), fun G σ H F z Q hK hx ok hh => ?_⟩
  refine cmp_tOf c G σ H F z (fun b H1 => Q (.bl (!b)) H1) hK hx ok (hit_bind hh fun b z1 c H1 F1 _ sm1 ok1 e1 h1 => ?_)
  cases (show c = b from e1)
  exact h1 (.bl (!b)) H1 F1 (Same.refl _) ok1 (Da.bl _)
theorem de_if {c a b : Expr} {fc : Sm M Bool} {f g : Sm M S} {pos : Pos} (hc : DT M xr K X W c fc) (h : DE M xr K X W a f) (h' : DE M xr K X W b g) : DE M xr K X W (.IfExp c a b pos) (eIf fc f g) := by
  obtain ⟨t, p, c0⟩ := hc
  obtain ⟨t1, p1, c1⟩ := h
  obtain ⟨t2, p2, c2⟩ := h'
  refine ⟨_, fun j => pe_ifExp (p j) (p1 j) (p2 j), fun G σ H F z Q hK hx ok hh => ?_⟩
  refine c0 G σ H F z _ hK hx ok (hit_bind hh fun b z1 c H1 F1 _ sm1 ok1 e1 h1 => ?_)
  cases (show c = b from e1)
  cases b with
  | true => exact c1 G σ H1 F1 z1 Q hK hx ok1 h1
  | false => exact c2 G σ H1 F1 z1 Q hK hx ok1 h1

/-! ### argument lists, displays -/
theorem da_nil : DA M xr K X W [] aNil := ⟨_, fun _ => pa_nil, fun G σ H F z Q _ _ ok h => h [] H F (Same.refl _) ok .nil⟩
theorem paired_mono {G : Gx} {σ : St} {F F' : Hp} (h : Same F F') : ∀ {vs : List V} {ss : List S}, Paired (fun v s => EO G σ F v s) vs ss → Paired (fun v s => EO G σ F' v s) vs ss
  | _, _, .nil => .nil
  | _, _, .cons a b => .cons (EO.mono h a) (paired_mono h b)
theorem cmp_cons {te : TE} {t : TA} {f : Sm M S} {g : Sm M (List S)} (c : Cmp M K xr W te RelO f) (c' : Cmp M K xr W t RelA g) : Cmp M K xr W (tCons te t) RelA (aCons f g) := by
  intro G σ H F z Q hK hx ok hh
  refine c G σ H F z _ hK hx ok (hit_bind hh fun s z1 v H1 F1 _ sm1 ok1 e1 h1 => ?_)
  refine c' G σ H1 F1 z1 _ hK hx ok1 (hit_bind h1 fun ss z2 vs H2 F2 _ sm2 ok2 e2 h2 => ?_)
  exact h2 (v :: vs) H2 F2 (Same.refl _) ok2 (.cons (EO.mono sm2 e1) e2)
/-- an argument that is only read -/
theorem da_rd {e : Expr} {es : List Expr} {f : Sm M S} {g : Sm M (List S)} (h : DE M xr K X W e f) (h' : DA M xr K X W es g) (hs : ∀ j, starEach (e :: es) (X j).env = (false, eval e (X j).env) :: starEach es (X j).env := by intro _; rfl) : DA M xr K X W (e :: es) (aCons (opd f) g) := by
  obtain ⟨t, p, c⟩ := h
  obtain ⟨t', p', c'⟩ := h'
  exact ⟨_, fun j => pa_cons (p j) (p' j) (hs j), cmp_cons (cmp_opd c) c'⟩
/-- an argument that is kept -/
theorem da_es {e : Expr} {es : List Expr} {f : Sm M S} {g : Sm M (List S)} (h : DE M xr K X W e f) (h' : DA M xr K X W es g) (hs : ∀ j, starEach (e :: es) (X j).env = (false, eval e (X j).env) :: starEach es (X j).env := by intro _; rfl) : DA M xr K X W (e :: es) (aCons (escf f) g) := by
  obtain ⟨t, p, c⟩ := h
  obtain ⟨t', p', c'⟩ := h'
  exact ⟨_, fun j => pa_cons (p j) (p' j) (hs j), cmp_cons (cmp_esc c) c'⟩
theorem paired_ds {G : Gx} {σ : St} {F : Hp} : ∀ {vs : List V} {ss : List S} {ds : List D}, Paired (fun v s => EO G σ F v s) vs ss → dsOf ss = some ds → DaAll G.K F vs ds
  | _, _, _, .nil, h => by cases h; exact .nil
  | _, s :: ss, ds, .cons a b, h => by
    cases s with
    | d x =>
      unfold dsOf at h
      cases e : dsOf ss with
      | none => rw [e] at h; cases h
      | some xs =>
        rw [e] at h
        cases h
        exact .cons a (paired_ds b e)
    | _ => cases h
theorem de_tup {es : List Expr} {g : Sm M (List S)} {x1 pos} (h : DA M xr K X W es g) : DE M xr K X W (.Tuple es x1 pos) (eTup g) := by
  obtain ⟨t, p, c⟩ := h
  refine ⟨_, fun j => pe_tup (p j), fun G σ H F z Q hK hx ok hh => ?_⟩
  refine c G σ H F z _ hK hx ok (hit_bind hh fun ss z1 vs H1 F1 _ sm1 ok1 e1 h1 => ?_)
  cases e : dsOf ss with
  | none => rw [e] at h1; exact h1.elim
  | some ds =>
    rw [e] at h1
    have da := paired_ds e1 e
    by_cases hl : ds.length ≤ lim
    · simp only [if_pos hl] at h1
      refine ⟨by rw [da.length]; exact Nat.le_trans hl (Nat.le_of_lt lim_line), fun p hp => ?_⟩
      exact h1 (.ref p) (upd H1 p (.tup vs)) (upd F1 p (.tup vs)) (same_upd (ok1.freshF hp)) (ok1.newF hp _) (.tup (SqT.of upd_same) (da.mono (same_upd (ok1.freshF hp))))
    · simp only [if_neg hl] at h1
      exact h1.elim
theorem de_lst {es : List Expr} {g : Sm M (List S)} {pos} (h : DA M xr K X W es g) : DE M xr K X W (.List es pos) (eLst g) := by
  obtain ⟨t, p, c⟩ := h
  refine ⟨_, fun j => pe_lst (p j), fun G σ H F z Q hK hx ok hh => ?_⟩
  refine c G σ H F z _ hK hx ok (hit_bind hh fun ss z1 vs H1 F1 _ sm1 ok1 e1 h1 => ?_)
  cases e : dsOf ss with
  | none => rw [e] at h1; exact h1.elim
  | some ds =>
    rw [e] at h1
    have da := paired_ds e1 e
    by_cases hl : ds.length ≤ lim
    · simp only [if_pos hl] at h1
      refine ⟨by rw [da.length]; exact Nat.le_trans hl (Nat.le_of_lt lim_line), fun p hp => ?_⟩
      exact h1 (.ref p) (upd H1 p (.lst vs)) F1 (Same.refl _) (ok1.new hp _) ⟨p, vs, rfl, upd_same, da, ok1.freshF hp, ok1.freshP hp, ok1.freshM hp, ok1.freshO hp⟩
    · simp only [if_neg hl] at h1
      exact h1.elim

/-! ### built-in functions and classes by name -/
theorem paired_rv {G : Gx} {σ : St} {H F : Hp} {z : Z M.T} (ok : Ok M G σ H F z) : ∀ {vs : List V} {ss : List S} {ds : List D}, Paired (fun v s => EO G σ F v s) vs ss → rds z ss = some ds → Paired (Rv G.K F H) vs ds
  | _, _, _, .nil, h => by cases h; exact .nil
  | _, s :: ss, ds, .cons a b, h => by
    unfold rds at h
    cases e : rd z s with
    | none => rw [e] at h; cases h
    | some x =>
      cases e2 : rds z ss with
      | none => rw [e, e2] at h; cases h
      | some xs =>
        rw [e, e2] at h
        cases h
        exact .cons (EO.rv ok a e) (paired_rv ok b e2)
theorem cmp_fn {r : List V → Hp → VK → Prop} {g : List D → Option R} {t : TA} {f : Sm M (List S)} (hd : OpN K r g) (c : Cmp M K xr W t RelA f) : Cmp M K xr W (tCB r t) RelE (eFn g f) := by
  intro G σ H F z Q hK hx ok hh
  refine c G σ H F z _ hK hx ok (hit_bind hh fun ss z1 vs H1 F1 _ sm1 ok1 e1 h1 => ?_)
  have q := fin_hit ok1 h1
  subst hK
  cases e : rds z1 ss with
  | none => rw [e] at q; exact q.elim
  | some ds =>
    rw [e] at q
    exact hd F1 H1 vs ds Q ok1.sub (paired_rv ok1 e1 e) q
theorem de_callB {x : Str} {id : String} {r : List V → Hp → VK → Prop} {g : List D → Option R} {e : Expr} {es : List Expr} {f : Sm M (List S)} {p pos : Pos} (hc : ∀ j, CallR (X j) (.builtin id) r) (hd : OpN K r g) (hg : ∀ j, Gl (X j) x) (hm : ∀ j, (X j).mg x = none) (hv : bootBuiltins x = some (.builtin id))
    (h : DA M xr K X W (e :: es) f) (hn : x ≠ "__name__" := by decide) (hdb : (x == ("__debug__" : Str)) = false := by decide)
    (he : ∀ j, starEach (e :: es) (X j).env = (false, eval e (X j).env) :: starEach es (X j).env := by intro _; rfl) (hpl : ∀ j, (backTo pos (starEach es (X j).env)).any (·.1) = false := by intro _; rfl) : DE M xr K X W (.Call (.Name x p) (e :: es) [] pos) (eFn g f) := by
  obtain ⟨t, pa, c⟩ := h
  exact ⟨_, fun j => pe_callB (hc j) (hg j) (hm j) hv (pa j) hn hdb (he j) (hpl j), cmp_fn hd c⟩
theorem de_callTy {x : Str} {T : String} {r : List V → Hp → VK → Prop} {g : List D → Option R} {e : Expr} {es : List Expr} {f : Sm M (List S)} {p pos : Pos} (hc : ∀ j, CallR (X j) (.type T) r) (hd : OpN K r g) (hg : ∀ j, Gl (X j) x) (hm : ∀ j, (X j).mg x = none) (hv : bootBuiltins x = some (.type T))
    (h : DA M xr K X W (e :: es) f) (hn : x ≠ "__name__" := by decide) (hdb : (x == ("__debug__" : Str)) = false := by decide)
    (he : ∀ j, starEach (e :: es) (X j).env = (false, eval e (X j).env) :: starEach es (X j).env := by intro _; rfl) (hpl : ∀ j, (backTo pos (starEach es (X j).env)).any (·.1) = false := by intro _; rfl) : DE M xr K X W (.Call (.Name x p) (e :: es) [] pos) (eFn g f) := by
  obtain ⟨t, pa, c⟩ := h
  exact ⟨_, fun j => pe_callTy (hc j) (hg j) (hm j) hv (pa j) hn hdb (he j) (hpl j), cmp_fn hd c⟩

/-! ### subscripts -/
theorem de_ix {r : R2} {g : D → D → Option R} {a b : Expr} {f f' : Sm M S} {pos : Pos} (ho : ∀ j, IxR (X j) r) (hd : Op2 K r g) (ha : DE M xr K X W a f) (hb : DE M xr K X W b f') (hs : PlainIx b := by exact fun _ _ => rfl) : DE M xr K X W (.Subscript a b pos) (eBin g f f') := by
  obtain ⟨ta, pa, ca⟩ := ha
  obtain ⟨tb, pb, cb⟩ := hb
  exact ⟨_, fun j => pe_ix (ho j) (pa j) (pb j) hs, cmp_bin hd ca cb⟩
theorem do_none : DO M xr K X W none (fun z => .ok none z) := ⟨_, fun _ => po_none, fun G σ H F z Q _ _ ok h => h none H F (Same.refl _) ok rfl⟩
def oInt (f : Sm M S) : Sm M (Option Int) := fun z => (opd f z).bind fun s z1 => match s with
  | .d (.int i) => .ok (some i) z1
  | _ => .bad
theorem do_some {e : Expr} {f : Sm M S} (h : DE M xr K X W e f) : DO M xr K X W (some e) (oInt f) := by
  obtain ⟨t, p, c⟩ := h
  refine ⟨_, fun j => po_some (p j), fun G σ H F z Q hK hx ok hh => ?_⟩
  refine cmp_opd c G σ H F z _ hK hx ok (hit_bind hh fun s z1 v H1 F1 _ sm1 ok1 e1 h1 => ?_)
  cases s with
  | d x =>
    cases x with
    | int i =>
      cases (show Da G.K F1 v (.int i) from e1)
      exact ⟨i, rfl, h1 (some i) H1 F1 (Same.refl _) ok1 rfl⟩
    | _ => exact h1.elim
  | _ => exact h1.elim
def eSl (g : D → Option Int → Option Int → Option R) (f : Sm M S) (lo hi : Sm M (Option Int)) : Sm M S := fun z => (opd f z).bind fun s z1 => (lo z1).bind fun a z2 => (hi z2).bind fun b z3 => fin ((rd z3 s).bind fun x => g x a b) z3
def OpS (K : PySem.W.Frag) (r : V → Option Int → Option Int → Hp → VK → Prop) (g : D → Option Int → Option Int → Option R) : Prop := ∀ (F H : Hp) (x : V) (a : D) (lo hi : Option Int) (Q : VK), Same F H → Rv K F H x a → Hit0 K F H (g a lo hi) Q → r x lo hi H Q
theorem de_slice {r : V → Option Int → Option Int → Hp → VK → Prop} {g : D → Option Int → Option Int → Option R} {e : Expr} {lo hi : Option Expr} {f : Sm M S} {fl fh : Sm M (Option Int)} {p2 pos : Pos} (hr : ∀ j, SlR (X j) r) (hd : OpS K r g) (h : DE M xr K X W e f) (hl : DO M xr K X W lo fl) (hh : DO M xr K X W hi fh) :
    DE M xr K X W (.Subscript e (.Slice lo hi none p2) pos) (eSl g f fl fh) := by
  obtain ⟨t, p, c⟩ := h
  obtain ⟨tl, pl, cl⟩ := hl
  obtain ⟨th, ph, ch⟩ := hh
  refine ⟨_, fun j => pe_slice (hr j) (p j) (pl j) (ph j), fun G σ H F z Q hK hx ok hh => ?_⟩
  refine cmp_opd c G σ H F z _ hK hx ok (hit_bind hh fun s z1 v H1 F1 _ sm1 ok1 e1 h1 => ?_)
  refine cl G σ H1 F1 z1 _ hK hx ok1 (hit_bind h1 fun a z2 a' H2 F2 _ sm2 ok2 e2 h2 => ?_)
  refine ch G σ H2 F2 z2 _ hK hx ok2 (hit_bind h2 fun b z3 b' H3 F3 _ sm3 ok3 e3 h3 => ?_)
  cases (show a' = a from e2)
  cases (show b' = b from e3)
  have q := fin_hit ok3 h3
  cases e : rd z3 s with
  | none => rw [e] at q; exact q.elim
  | some x =>
    rw [e] at q
    have hd' := hd F3 H3 v x a b Q
    rw [← hK] at hd'
    exact hd' ok3.sub (EO.rv ok3 (EO.mono (sm2.trans sm3) e1) e) q
/-! ### one operand: unary minus, isinstance .. -/
theorem cmp_un {r : V → Hp → VK → Prop} {g : D → Option R} {t : TE} {f : Sm M S} (hd : Op1 K r g) (c : Cmp M K xr W t RelE f) : Cmp M K xr W (tUn r t) RelE (eUn g f) := by
  intro G σ H F z Q hK hx ok hh
  refine cmp_opd c G σ H F z _ hK hx ok (hit_bind hh fun s z1 v H1 F1 _ sm1 ok1 e1 h1 => ?_)
  have q := fin_hit ok1 h1
  cases e : rd z1 s with
  | none => rw [e] at q; exact q.elim
  | some x =>
    rw [e] at q
    have hd' := hd F1 H1 v x Q
    rw [← hK] at hd'
    exact hd' ok1.sub (EO.rv ok1 e1 e) q
theorem de_un {op : UnaryOp} {r : V → Hp → VK → Prop} {g : D → Option R} {a : Expr} {f : Sm M S} {pos : Pos} (ho : ∀ j, UnR (X j) (unaryOp op) r) (hd : Op1 K r g) (h : DE M xr K X W a f) : DE M xr K X W (.UnaryOp op a pos) (eUn g f) := by
  obtain ⟨t, p, c⟩ := h
  exact ⟨_, fun j => pe_un (ho j) (p j), cmp_un hd c⟩
end
end G
namespace G
open PySem L2
theorem de_emp {ι : Type} {M : MI} {xr : Str → Option Value} {K : PySem.W.Frag} {X : ι → Cx} {W : WX} {pos : Pos} : DE M xr K X W (.Dict [] [] pos) (eC .emp) := by
  refine ⟨_, fun j => pe_dnewK, fun G σ H F z Q hK hx ok hh => fun p hp => ?_⟩
  exact hh (.ref p) (upd H p (.dK [])) (upd F p (.dK [])) (same_upd (ok.freshF hp)) (ok.newF hp _) (.emp upd_same)
end G
namespace G
open PySem L2

inductive Out where
  | nx
  | rt (s : S)
  | bk
  | ct
structure RetOk (M : MI) (G : Gx) (F H : Hp) (t : M.T) (v : V) (s : S) : Prop where
  sub : Same F H
  mach : M.ok G.K F H G.ms t
  msF : ∀ a ∈ G.ms, F a = none
  msH : ∀ a ∈ G.ms, H a ≠ none
  fr : ∀ b o, G.P b = some o → H b = some o ∧ F b = G.Fp b
  val : SV G F H v s
def HitS (M : MI) (G : Gx) (W : WX) (F : Hp) (r : Rs Out (Z M.T)) (D : Ends) : Prop := match r with
  | .ok .nx z => ∀ σ H F', Same F F' → Ok M G σ H F' z → D.nx σ H
  | .ok .bk z => ∀ σ H F', Same F F' → Ok M G σ H F' z → D.bk σ H
  | .ok .ct z => ∀ σ H F', Same F F' → Ok M G σ H F' z → D.ct σ H
  | .ok (.rt s) z => ∀ v H F', Same F F' → RetOk M G F' H z.m v s → D.rt v H
  | .ex x z => ∀ cls d σ H F', Same F F' → Ok M G σ H F' z → XOk G F' H x cls d → W cls d σ H
  | .bad => False
def SR (M : MI) (K : PySem.W.Frag) (xr : Str → Option Value) (W : WX) (t : TS) (f : Sm M Out) : Prop :=
  ∀ (G : Gx) (σ : St) (H F : Hp) (z : Z M.T) (D : Ends), G.K = K → G.xr = xr → Ok M G σ H F z → HitS M G W F (f z) D → t D σ H
def DS {ι : Type} (M : MI) (xr : Str → Option Value) (K : PySem.W.Frag) (X : ι → Cx) (W : WX) (st : Stmt) (f : Sm M Out) : Prop := ∃ t, (∀ j, PS (X j) st t) ∧ SR M K xr W t f
def DSs {ι : Type} (M : MI) (xr : Str → Option Value) (K : PySem.W.Frag) (X : ι → Cx) (W : WX) (st : List Stmt) (f : Sm M Out) : Prop := ∃ t, (∀ j, PSs (X j) st t) ∧ SR M K xr W t f

section
variable {M : MI} {G : Gx} {W : WX} {σ : St} {H H' F F' : Hp} {z : Z M.T} {D : Ends}
theorem HitS.mono {r : Rs Out (Z M.T)} (h : HitS M G W F r D) (s : Same F F') : HitS M G W F' r D := by
  cases r with
  | ok o z =>
    cases o with
    | nx => exact fun σ H F1 s1 ok => h σ H F1 (s.trans s1) ok
    | bk => exact fun σ H F1 s1 ok => h σ H F1 (s.trans s1) ok
    | ct => exact fun σ H F1 s1 ok => h σ H F1 (s.trans s1) ok
    | rt q => exact fun v H F1 s1 ok => h v H F1 (s.trans s1) ok
  | ex x z => exact fun cls d σ H F1 s1 ok xo => h cls d σ H F1 (s.trans s1) ok xo
  | bad => exact h
/-- an expression ahead of a statement's end -/
theorem hits_bind {α β : Type} {R1 : α → β → Hp → Hp → Z M.T → Prop} {r : Rs α (Z M.T)} {k : α → Z M.T → Rs Out (Z M.T)} {Q1 : β → Hp → Prop}
    (h : HitS M G W F (r.bind k) D) (hk : ∀ a z1 b H1 F1, r = .ok a z1 → Same F F1 → Ok M G σ H1 F1 z1 → R1 a b F1 H1 z1 → HitS M G W F1 (k a z1) D → Q1 b H1) : HitG M G W σ F R1 r Q1 := by
  cases r with
  | ok a z => exact fun b H' F1 s1 ok rr => hk a z b H' F1 rfl s1 ok rr (HitS.mono h s1)
  | ex x z => exact fun cls d H' F1 s1 ok xo => h cls d σ H' F1 s1 ok xo
  | bad => exact h
end

section
variable {ι : Type} {M : MI} {xr : Str → Option Value} {X : ι → Cx} {W : WX} {K : PySem.W.Frag}
/-! ### blocks -/
def sNil : Sm M Out := fun z => .ok .nx z
def sSeq (f g : Sm M Out) : Sm M Out := fun z => (f z).bind fun o z1 => match o with
  | .nx => g z1
  | o => .ok o z1
theorem dss_nil : DSs M xr K X W [] sNil := ⟨_, fun _ => pss_nil, fun G σ H F z D _ _ ok h => h σ H F (Same.refl _) ok⟩
theorem dss_one {st : Stmt} {f : Sm M Out} (h : DS M xr K X W st f) : DSs M xr K X W [st] f := by
  obtain ⟨t, p, c⟩ := h
  exact ⟨_, fun j => pss_one (p j), c⟩
theorem dss_cons {st : Stmt} {r : List Stmt} {f g : Sm M Out} (h : DS M xr K X W st f) (h' : DSs M xr K X W r g) : DSs M xr K X W (st :: r) (sSeq f g) := by
  obtain ⟨t, p, c⟩ := h
  obtain ⟨t', p', c'⟩ := h'
  refine ⟨_, fun j => pss_cons (p j) (p' j), fun G σ H F z D hK hx ok hh => ?_⟩
  refine c G σ H F z { D with nx := t' D } hK hx ok ?_
  unfold sSeq at hh
  cases e : f z with
  | ok o z1 =>
    rw [e] at hh
    cases o with
    | nx => exact fun σ1 H1 F1 s1 ok1 => c' G σ1 H1 F1 z1 D hK hx ok1 (HitS.mono hh s1)
    | bk => exact hh
    | ct => exact hh
    | rt q => exact hh
  | ex x z1 => rw [e] at hh; exact hh
  | bad => rw [e] at hh; exact hh
theorem ds_pass {pos : Pos} : DS M xr K X W (.Pass pos) sNil := ⟨_, fun _ => ps_pass, fun G σ H F z D _ _ ok h => h σ H F (Same.refl _) ok⟩
theorem ds_doc {x j pos pos'} : DS M xr K X W (.Expr (.Constant (.str x) j pos) pos') sNil := ⟨_, fun _ => ps_doc, fun G σ H F z D _ _ ok h => h σ H F (Same.refl _) ok⟩
theorem ds_break {pos : Pos} : DS M xr K X W (.Break pos) (fun z => .ok .bk z) := ⟨_, fun _ => ps_break, fun G σ H F z D _ _ ok h => h σ H F (Same.refl _) ok⟩
theorem ds_continue {pos : Pos} : DS M xr K X W (.Continue pos) (fun z => .ok .ct z) := ⟨_, fun _ => ps_continue, fun G σ H F z D _ _ ok h => h σ H F (Same.refl _) ok⟩
/-! ### stores -/
/-- a value that is stored: a second name of a slot's list freezes it -/
def una (f : Sm M S) : Sm M S := fun z => (f z).bind fun s z1 => match s with
  | .v i => escS (.v i) z1
  | s => .ok s z1
def RelU {M : MI} (G : Gx) (σ : St) : S → V → Hp → Hp → Z M.T → Prop := fun s v F H z => SV G F H v s ∧ ∀ xs, s = .l xs → ∀ a, v = .ref a → ¬ Owned σ z a
theorem cmp_una {t : TE} {f : Sm M S} (hf : Cmp M K xr W t RelE f) : Cmp M K xr W t RelU (una f) := by
  intro G σ H F z Q hK hx ok h
  refine hf G σ H F z Q hK hx ok (hit_bind h fun s z1 v H1 F1 _ sm ok1 ev h1 => ?_)
  cases s with
  | d x => exact h1 v H1 F1 (Same.refl _) ok1 ⟨ev, fun _ e => by cases e⟩
  | l xs =>
    obtain ⟨a, vs, rfl, q1, q2, q3, q4, q5, q6⟩ := ev
    exact h1 _ H1 F1 (Same.refl _) ok1 ⟨⟨a, vs, rfl, q1, q2, q3, q4, q5⟩, fun _ _ b e => by cases e; exact q6⟩
  | m j => exact h1 v H1 F1 (Same.refl _) ok1 ⟨ev, fun _ e => by cases e⟩
  | v i =>
    have ev' : σ[i]? = some (some v) := ev
    simp only [escS] at h1
    split at h1
    · rename_i xs hs
      obtain ⟨F2, s2, ok2, da⟩ := ok1.frzSlot hs ev'
      exact h1 v H1 F2 s2 ok2 ⟨da, fun _ e => by cases e⟩
    · rename_i x hs
      obtain ⟨w, e, q⟩ := ok1.slot i _ hs
      rw [ev'] at e
      cases e
      exact h1 v H1 F1 (Same.refl _) ok1 ⟨q, fun _ e => by cases e⟩
    · exact h1.elim
def sSet (i : Nat) (f : Sm M S) : Sm M Out := fun z => (una f z).bind fun s z1 => .ok .nx { z1 with rho := z1.rho.set i (some s) }
theorem sr_set {i : Nat} {te : TE} {f : Sm M S} (c : Cmp M K xr W te RelE f) : SR M K xr W (tAsg te (gName i)) (sSet i f) := by
  intro G σ H F z D hK hx ok hh
  refine cmp_una c G σ H F z _ hK hx ok (hits_bind hh fun s z1 v H1 F1 _ sm ok1 ev h1 => ?_)
  exact h1 _ H1 F1 (Same.refl _) (ok1.set ev.1 ev.2)
theorem ds_set {i : Nat} {x : Str} {e : Expr} {f : Sm M S} {pos pos' : Pos} (hN : ∀ j, (X j).N.Nodup) (hi : ∀ j, (X j).N[i]? = some x) (hx : ∀ j, Loc (X j).env.scope x) (h : DE M xr K X W e f) (hs : ∀ j, swapsWith e (some (.Name x pos')) pos.line (X j).env = pure false := by intro _; rfl) (hf : ∀ j, (X j).fn x = true ∨ (X j).env.scope.names.lookup x = some .local := by first | exact fun _ => .inl rfl | exact fun _ => .inr rfl) :
    DS M xr K X W (.Assign [.Name x pos'] e pos) (sSet i f) := by
  obtain ⟨t, p, c⟩ := h
  exact ⟨_, fun j => ps_set (hN j) (hi j) (hx j) (p j) (hs j) (hf j), sr_set c⟩
/-! ### targets -/
/-- the slots but ts are as they were -/
def But (ts : List Nat) (σ σ' : St) : Prop := σ'.length = σ.length ∧ ∀ n, n ∉ ts → σ'[n]? = σ[n]?
theorem But.refl {ts : List Nat} {σ : St} : But ts σ σ := ⟨rfl, fun _ _ => rfl⟩
theorem But.trans {ts us : List Nat} {σ σ' σ'' : St} (a : But ts σ σ') (b : But us σ' σ'') : But (ts ++ us) σ σ'' := ⟨b.1.trans a.1, fun n hn => (b.2 n (fun h => hn (List.mem_append_right _ h))).trans (a.2 n (fun h => hn (List.mem_append_left _ h)))⟩
def GR (M : MI) (K : PySem.W.Frag) (ts : List Nat) (g : TG) (k : D → Z M.T → Option (Z M.T)) : Prop := ∀ (G : Gx) (σ : St) (H F : Hp) (z : Z M.T) (v : V) (x : D) (Q : St → Hp → Prop), G.K = K → Ok M G σ H F z → Da K F v x →
  (match k x z with | some z' => ∀ σ', But ts σ σ' → Ok M G σ' H F z' → Q σ' H | none => False) → g v σ H Q
def GRs (M : MI) (K : PySem.W.Frag) (ts : List Nat) (g : TGs) (k : List D → Z M.T → Option (Z M.T)) : Prop := ∀ (G : Gx) (σ : St) (H F : Hp) (z : Z M.T) (vs : List V) (xs : List D) (Q : St → Hp → Prop), G.K = K → Ok M G σ H F z → DaAll K F vs xs →
  (match k xs z with | some z' => ∀ σ', But ts σ σ' → Ok M G σ' H F z' → Q σ' H | none => False) → g vs σ H Q
def DG {ι : Type} (M : MI) (K : PySem.W.Frag) (X : ι → Cx) (ts : List Nat) (tg : Expr) (k : D → Z M.T → Option (Z M.T)) : Prop := ∃ g, (∀ j, PG (X j) tg g) ∧ GR M K ts g k
def DGs {ι : Type} (M : MI) (K : PySem.W.Frag) (X : ι → Cx) (ts : List Nat) (tg : List Expr) (k : List D → Z M.T → Option (Z M.T)) : Prop := ∃ g, (∀ j, PGs (X j) tg g) ∧ GRs M K ts g k
def kName (i : Nat) : D → Z M.T → Option (Z M.T) := fun x z => some { z with rho := z.rho.set i (some (.d x)) }
def ksNil : List D → Z M.T → Option (Z M.T) := fun xs z => match xs with
  | [] => some z
  | _ => none
def ksCons (k : D → Z M.T → Option (Z M.T)) (ks : List D → Z M.T → Option (Z M.T)) : List D → Z M.T → Option (Z M.T) := fun xs z => match xs with
  | x :: r => (k x z).bind fun z1 => ks r z1
  | [] => none
def kTup (n : Nat) (ks : List D → Z M.T → Option (Z M.T)) : D → Z M.T → Option (Z M.T) := fun x z => match x with
  | .tup xs => if xs.length = n then ks xs z else none
  | _ => none
theorem gr_name {i : Nat} : GR M K [i] (gName i) (kName i) := fun G σ H F z v x Q hK ok da h => h _ ⟨List.length_set, fun n hn => List.getElem?_set_ne (fun e => hn (by rw [← e]; exact List.mem_cons_self))⟩ (ok.set (s := .d x) (by subst hK; exact da) (fun _ e => by cases e))
theorem dg_name {i : Nat} {x : Str} {pos : Pos} (hN : ∀ j, (X j).N.Nodup) (hi : ∀ j, (X j).N[i]? = some x) (hx : ∀ j, Loc (X j).env.scope x) (hf : ∀ j, (X j).fn x = true ∨ (X j).env.scope.names.lookup x = some .local := by first | exact fun _ => .inl rfl | exact fun _ => .inr rfl) : DG M K X [i] (.Name x pos) (kName i) := ⟨_, fun j => pg_name (hN j) (hi j) (hx j) (hf j), gr_name⟩
theorem dgs_nil : DGs M K X [] [] ksNil := ⟨_, fun _ => pgs_nil, fun G σ H F z vs xs Q _ ok da h => by
  cases da with
  | nil => exact ⟨rfl, h σ But.refl ok⟩
  | cons _ _ => exact h.elim⟩
theorem dgs_cons {e : Expr} {es : List Expr} {k : D → Z M.T → Option (Z M.T)} {ks : List D → Z M.T → Option (Z M.T)} {ts us : List Nat} (h1 : DG M K X ts e k) (h2 : DGs M K X us es ks) (hs : ∀ j, (assignEach (e :: es) (X j).env).map (·.2) = assign e (X j).env :: (assignEach es (X j).env).map (·.2) := by intro _; rfl) : DGs M K X (ts ++ us) (e :: es) (ksCons k ks) := by
  obtain ⟨g, p, c⟩ := h1
  obtain ⟨g', p', c'⟩ := h2
  refine ⟨_, fun j => pgs_cons (p j) (p' j) (hs j), fun G σ H F z vs xs Q hK ok da h => ?_⟩
  cases da with
  | nil => exact h.elim
  | cons a b =>
    rename_i v vs d ds
    refine ⟨v, vs, rfl, c G σ H F z v d _ hK ok a ?_⟩
    unfold ksCons at h
    cases e : k d z with
    | none => simp only [e, Option.bind_none] at h
    | some z1 =>
      simp only [e, Option.bind_some] at h
      intro σ' b1 ok'
      refine c' G σ' H F z1 vs ds Q hK ok' b ?_
      cases e2 : ks ds z1 with
      | none => rw [e2] at h; exact h
      | some z2 => rw [e2] at h; exact fun σ2 b2 ok2 => h σ2 (b1.trans b2) ok2
theorem dg_tup {ts : List Nat} {es : List Expr} {k n : Nat} {ks : List D → Z M.T → Option (Z M.T)} {pos : Pos} (hK0 : ∀ j, (X j).K = K) (hc : ∀ j, (X j).calm = true) (h : DGs M K X ts es ks) (hn : ∀ j, (assignEach es (X j).env).length = n := by intro _; rfl) (hst : ∀ j, (assignEach es (X j).env).findIdx? (·.1) = none := by intro _; rfl) : DG M K X ts (.Tuple es k pos) (kTup n ks) := by
  obtain ⟨g, p, c⟩ := h
  refine ⟨gTup K n g, fun j => by rw [← hK0 j]; exact pg_tup (hc j) (p j) (hn j) (hst j), fun G σ H F z v x Q hK ok da h => ?_⟩
  cases x with
  | tup xs =>
    unfold kTup at h
    by_cases hl : xs.length = n
    · simp only [if_pos hl] at h
      cases da with
      | tup q r =>
        rename_i a vs
        exact ⟨a, vs, rfl, sqT_mono ok.sub q, by rw [r.length]; exact hl, c G σ H F z vs xs Q hK ok r h⟩
    · simp only [if_neg hl] at h
  | _ => exact h.elim
def sAsg (f : Sm M S) (k : D → Z M.T → Option (Z M.T)) : Sm M Out := fun z => (escf f z).bind fun s z1 => match s with
  | .d x => Rs.opt ((k x z1).map fun z2 => (Out.nx, z2)) z1 |>.bind fun p _ => .ok p.1 p.2
  | _ => .bad
theorem ds_asg {ts : List Nat} {tg e : Expr} {f : Sm M S} {k : D → Z M.T → Option (Z M.T)} {pos : Pos} (h : DE M xr K X W e f) (hg : DG M K X ts tg k) (hs : ∀ j, swapsWithSole [tg] e pos.line (X j).env = pure false := by intro _; rfl) (hw : ∀ j, swappedStores [tg] e (X j).env = pure none := by intro _; rfl)
    (h1 : ∀ j, (assignEach [tg] (X j).env).map (·.2) = [assign tg (X j).env] := by intro _; rfl) : DS M xr K X W (.Assign [tg] e pos) (sAsg f k) := by
  obtain ⟨t, p, c⟩ := h
  obtain ⟨g, pg, cg⟩ := hg
  refine ⟨_, fun j => ps_asg (p j) (pg j) (hs j) (hw j) (h1 j), fun G σ H F z D hK hx ok hh => ?_⟩
  refine cmp_esc c G σ H F z _ hK hx ok (hits_bind hh fun s z1 v H1 F1 _ sm ok1 ev h2 => ?_)
  cases s with
  | d x =>
    refine cg G σ H1 F1 z1 v x D.nx hK ok1 (by rw [← hK]; exact ev) ?_
    cases e : k x z1 with
    | none => simp only [e] at h2; exact h2
    | some z2 =>
      simp only [e] at h2
      exact fun σ' _ ok' => h2 σ' H1 F1 (Same.refl _) ok'
  | _ => exact h2.elim
/-! ### the rest -/
def sRet (f : Sm M S) : Sm M Out := fun z => (f z).bind fun s z1 => match s with
  | .v i => (match z1.rho[i]? with
    | some (some (.l xs)) => .ok (.rt (.l xs)) z1
    | some (some (.d x)) => .ok (.rt (.d x)) z1
    | _ => .bad)
  | s => .ok (.rt s) z1
theorem Ok.ret {G : Gx} {σ : St} {H F : Hp} {z : Z M.T} (ok : Ok M G σ H F z) {v : V} {s : S} (h : SV G F H v s) : RetOk M G F H z.m v s := ⟨ok.sub, ok.mach, ok.msF, ok.msH, ok.fr, h⟩
theorem ds_ret {e : Expr} {f : Sm M S} {pos : Pos} (h : DE M xr K X W e f) : DS M xr K X W (.Return (some e) pos) (sRet f) := by
  obtain ⟨t, p, c⟩ := h
  refine ⟨_, fun j => ps_ret (p j), fun G σ H F z D hK hx ok hh => ?_⟩
  refine c G σ H F z _ hK hx ok (hits_bind hh fun s z1 v H1 F1 _ sm ok1 ev h2 => ?_)
  cases s with
  | d x => exact h2 v H1 F1 (Same.refl _) (ok1.ret (s := .d x) ev)
  | l xs =>
    obtain ⟨a, vs, rfl, q1, q2, q3, q4, q5, q6⟩ := ev
    exact h2 _ H1 F1 (Same.refl _) (ok1.ret (s := .l xs) ⟨a, vs, rfl, q1, q2, q3, q4, q5⟩)
  | m j => exact h2 v H1 F1 (Same.refl _) (ok1.ret (s := .m j) ev)
  | v i =>
    have ev' : σ[i]? = some (some v) := ev
    simp only at h2
    split at h2
    · rename_i xs hs
      obtain ⟨w, e, q⟩ := ok1.slot i _ hs
      rw [ev'] at e
      cases e
      exact h2 v H1 F1 (Same.refl _) (ok1.ret q)
    · rename_i x hs
      obtain ⟨w, e, q⟩ := ok1.slot i _ hs
      rw [ev'] at e
      cases e
      exact h2 v H1 F1 (Same.refl _) (ok1.ret q)
    · exact h2.elim
theorem ds_retN {pos : Pos} : DS M xr K X W (.Return none pos) (fun z => .ok (.rt (.d .non)) z) := ⟨_, fun _ => ps_retN, fun G σ H F z D _ _ ok h => h .non H F (Same.refl _) (ok.ret (s := .d .non) Da.non)⟩
def sExpr (f : Sm M S) : Sm M Out := fun z => (f z).bind fun _ z1 => .ok .nx z1
theorem ds_expr {e : Expr} {f : Sm M S} {pos : Pos} (h : DE M xr K X W e f) (hs : ∀ j, swapsWith e none pos.line (X j).env = pure false := by intro _; rfl) : DS M xr K X W (.Expr e pos) (sExpr f) := by
  obtain ⟨t, p, c⟩ := h
  refine ⟨_, fun j => ps_expr (p j) (hs j), fun G σ H F z D hK hx ok hh => ?_⟩
  exact c G σ H F z _ hK hx ok (hits_bind hh fun s z1 v H1 F1 _ sm ok1 ev h2 => h2 σ H1 F1 (Same.refl _) ok1)
def sIf (c : Sm M Bool) (f g : Sm M Out) : Sm M Out := fun z => (c z).bind fun b z1 => if b = true then f z1 else g z1
theorem ds_if {e : Expr} {a b : List Stmt} {c : Sm M Bool} {f g : Sm M Out} {pos : Pos} (hc : DT M xr K X W e c) (h : DSs M xr K X W a f) (h' : DSs M xr K X W b g) : DS M xr K X W (.If e a b pos) (sIf c f g) := by
  obtain ⟨t, p, c0⟩ := hc
  obtain ⟨t1, p1, c1⟩ := h
  obtain ⟨t2, p2, c2⟩ := h'
  refine ⟨_, fun j => ps_if (p j) (p1 j) (p2 j), fun G σ H F z D hK hx ok hh => ?_⟩
  refine c0 G σ H F z _ hK hx ok (hits_bind hh fun b z1 c H1 F1 _ sm ok1 e1 h1 => ?_)
  cases (show c = b from e1)
  cases b with
  | true => exact c1 G σ H1 F1 z1 D hK hx ok1 h1
  | false => exact c2 G σ H1 F1 z1 D hK hx ok1 h1
def sWhile (c : Sm M Bool) (b : Sm M Out) : Nat → Sm M Out
  | 0, _ => .bad
  | n + 1, z => (c z).bind fun t z1 => if t = true then (b z1).bind fun o z2 => (match o with
      | .nx => sWhile c b n z2
      | .ct => sWhile c b n z2
      | .bk => .ok .nx z2
      | .rt s => .ok (.rt s) z2) else .ok .nx z1
theorem ds_while {e : Expr} {body : List Stmt} {c : Sm M Bool} {f : Sm M Out} {pos : Pos} (n : Nat) (hp : ∀ j, PassesOwn (model (X j).prog (X j).w) (X j).A (X j).env (X j).xe) (hc : DT M xr K X W e c) (h : DSs M xr K X W body f) : DS M xr K X W (.While e body [] pos) (sWhile c f n) := by
  obtain ⟨t, p, c0⟩ := hc
  obtain ⟨t1, p1, c1⟩ := h
  refine ⟨_, fun j => ps_while (hp j) (p j) (p1 j), fun G σ H F z D hK hx ok hh => ?_⟩
  refine ⟨fun m σ H => ∃ F' z', Same F F' ∧ Ok M G σ H F' z' ∧ HitS M G W F' (sWhile c f m z') D, ⟨n, F, z, Same.refl _, ok, hh⟩, ?_⟩
  rintro m σ1 H1 ⟨F1, z1, s1, ok1, h1⟩
  cases m with
  | zero => exact h1.elim
  | succ m =>
    refine c0 G σ1 H1 F1 z1 _ hK hx ok1 (hits_bind h1 fun b z2 d H2 F2 _ sm ok2 e2 h2 => ?_)
    cases (show d = b from e2)
    cases b with
    | false => exact h2 σ1 H2 F2 (Same.refl _) ok2
    | true =>
      refine ⟨fun σ' H' => ∃ F' z', Same F F' ∧ Ok M G σ' H' F' z' ∧ HitS M G W F' (sWhile c f m z') D, fun σ' H' q => ⟨m, Nat.lt_succ_self m, q⟩, ?_⟩
      refine c1 G σ1 H2 F2 z2 _ hK hx ok2 ?_
      rw [if_pos rfl] at h2
      cases e : f z2 with
      | bad => rw [e] at h2; exact h2
      | ex x z3 => rw [e] at h2; exact h2
      | ok o z3 =>
        rw [e] at h2
        cases o with
        | nx => exact fun σ3 H3 F3 s3 ok3 => ⟨F3, z3, (s1.trans sm).trans s3, ok3, HitS.mono h2 s3⟩
        | ct => exact fun σ3 H3 F3 s3 ok3 => ⟨F3, z3, (s1.trans sm).trans s3, ok3, HitS.mono h2 s3⟩
        | bk => exact h2
        | rt q => exact h2
/-! ### for -/
def YD (K : PySem.W.Frag) (F : Hp) (ds : List D) : Nat → Hp → V → Hp → Prop := fun i H v H' => ∃ d, ds[i]? = some d ∧ ∀ F1, Same F F1 → Same F1 H → ∃ F2, Same F1 F2 ∧ Same F2 H' ∧ (∀ b o, H b = some o → H' b = some o ∧ F2 b = F1 b) ∧ Da K F2 v d
def Wk (K : PySem.W.Frag) (F : Hp) (J : It) (ds : List D) : Prop := Walk J ds.length (fun H => Same F H) (YD K F ds)
def RelW {M : MI} (G : Gx) (_ : St) : List D → It → Hp → Hp → Z M.T → Prop := fun ds J F _ _ => Wk G.K F J ds
def DI {ι : Type} (M : MI) (xr : Str → Option Value) (K : PySem.W.Frag) (X : ι → Cx) (W : WX) (tg iter : Expr) (f : Sm M (List D)) : Prop := ∃ wi, (∀ j, PI (X j) tg iter wi) ∧ Cmp M K xr W wi RelW f
def forL (k : D → Z M.T → Option (Z M.T)) (b : Sm M Out) : List D → Sm M Out
  | [], z => .ok .nx z
  | d :: r, z => match k d z with
    | none => .bad
    | some z1 => (b z1).bind fun o z2 => match o with
      | .nx => forL k b r z2
      | .ct => forL k b r z2
      | .bk => .ok .nx z2
      | .rt s => .ok (.rt s) z2
def sFor (its : Sm M (List D)) (k : D → Z M.T → Option (Z M.T)) (b : Sm M Out) : Sm M Out := fun z => (its z).bind fun ds z1 => forL k b ds z1
theorem Ok.yd {G : Gx} {σ : St} {H H' F1 F2 : Hp} {z : Z M.T} (ok : Ok M G σ H F1 z) (s1 : Same F1 F2) (s2 : Same F2 H') (k : ∀ b o, H b = some o → H' b = some o ∧ F2 b = F1 b) : Ok M G σ H' F2 z :=
  ok.step s1 s2 (fun a q => by
    obtain ⟨vs, e, e2, _⟩ := ok.ownH q
    obtain ⟨h1, h2⟩ := k a _ e
    exact ⟨by rw [h1, e], by rw [h2]; exact e2⟩) (fun a q => by
    cases e : H a with
    | none => exact (ok.msH a q e).elim
    | some o =>
      obtain ⟨h1, h2⟩ := k a _ e
      exact ⟨h1, by rw [h2]; exact ok.msF a q⟩) (fun b o q => by
    obtain ⟨h1, h2⟩ := ok.fr b o q
    obtain ⟨h3, h4⟩ := k b o h1
    exact ⟨h3, h4.trans h2⟩)
theorem ds_for {ts : List Nat} {tg iter : Expr} {body : List Stmt} {its : Sm M (List D)} {k : D → Z M.T → Option (Z M.T)} {f : Sm M Out} {pos : Pos} (hp : ∀ j, PassesOwn (model (X j).prog (X j).w) (X j).A (X j).env (X j).xe) (hc : ∀ j, (X j).calm = true) (hi : DI M xr K X W tg iter its) (hg : DG M K X ts tg k) (h : DSs M xr K X W body f)
    (hs : ∀ j x, foldedSetIterable iter (X j).env x = pure x := by intro _ _; rfl) : DS M xr K X W (.For tg iter body [] pos) (sFor its k f) := by
  obtain ⟨wi, pi, ci⟩ := hi
  obtain ⟨g, pg, cg⟩ := hg
  obtain ⟨t, p, c⟩ := h
  refine ⟨_, fun j => ps_for (hp j) (hc j) (pi j) (pg j) (p j) (hs j), fun G σ H F z D hK hx ok hh => ?_⟩
  refine ci G σ H F z _ hK hx ok (hits_bind hh fun ds z1 J H1 F1 _ sm ok1 w h1 => ?_)
  refine for_it (w : Wk G.K F1 J ds) (fun i σ' H' => ∃ F' z', Same F1 F' ∧ Ok M G σ' H' F' z' ∧ HitS M G W F' (forL k f (ds.drop i) z') D) ⟨F1, z1, Same.refl _, ok1, h1⟩ (fun i σ' H' _ ⟨F', z', s', ok', _⟩ => s'.trans ok'.sub) ?_ ?_
  · rintro i x σ2 H2 H3 hi ⟨F2, z2, s2, ok2, h2⟩ ⟨d, hd, q⟩
    obtain ⟨F3, s3, s4, kk, da⟩ := q F2 s2 ok2.sub
    have ok3 := ok2.yd s3 s4 kk
    have ed : ds.drop i = d :: ds.drop (i + 1) := by
      rw [List.drop_eq_getElem_cons hi]
      have := List.getElem?_eq_getElem hi
      rw [hd] at this
      rw [← Option.some.inj this]
    rw [ed] at h2
    refine cg G σ2 H3 F3 z2 x d _ hK ok3 (by rw [← hK]; exact da) ?_
    unfold forL at h2
    cases e : k d z2 with
    | none => simp only [e] at h2; exact h2
    | some z3 =>
      simp only [e] at h2
      intro σ4 _ ok4
      refine c G σ4 H3 F3 z3 _ hK hx ok4 ?_
      cases e : f z3 with
      | bad => rw [e] at h2; exact h2
      | ex x z3 => rw [e] at h2; exact HitS.mono (F := F2) (r := .ex x z3) h2 s3
      | ok o z4 =>
        rw [e] at h2
        cases o with
        | nx => exact fun σ5 H5 F5 s5 ok5 => ⟨F5, z4, (s2.trans s3).trans s5, ok5, HitS.mono h2 (s3.trans s5)⟩
        | ct => exact fun σ5 H5 F5 s5 ok5 => ⟨F5, z4, (s2.trans s3).trans s5, ok5, HitS.mono h2 (s3.trans s5)⟩
        | bk => exact fun σ5 H5 F5 s5 ok5 => h2 σ5 H5 F5 (s3.trans s5) ok5
        | rt q => exact fun v H5 F5 s5 ok5 => h2 v H5 F5 (s3.trans s5) ok5
  · rintro σ2 H2 ⟨F2, z2, s2, ok2, h2⟩
    rw [List.drop_length] at h2
    exact h2 σ2 H2 F2 (Same.refl _) ok2
end
end G
namespace G
open PySem L2
/-! ### slots forgotten and restored -/
def wipeR (rho : List (Option S)) : List Nat → List (Option S)
  | [] => rho
  | v :: vs => (wipeR rho vs).set v none
def restR (rho0 rho : List (Option S)) : List Nat → List (Option S)
  | [] => rho
  | v :: vs => (restR rho0 rho vs).set v (rho0[v]?.getD none)
theorem wipeR_length (rho : List (Option S)) : ∀ vs, (wipeR rho vs).length = rho.length
  | [] => rfl
  | v :: vs => by unfold wipeR; rw [List.length_set, wipeR_length rho vs]
theorem restR_length (rho0 rho : List (Option S)) : ∀ vs, (restR rho0 rho vs).length = rho.length
  | [] => rfl
  | v :: vs => by unfold restR; rw [List.length_set, restR_length rho0 rho vs]
theorem wipeR_out (rho : List (Option S)) : ∀ (vs : List Nat) (n : Nat), n ∉ vs → (wipeR rho vs)[n]? = rho[n]?
  | [], _, _ => rfl
  | v :: vs, n, h => by
    unfold wipeR
    rw [List.getElem?_set_ne (fun e => h (by rw [← e]; exact List.mem_cons_self)), wipeR_out rho vs n (fun q => h (List.mem_cons_of_mem _ q))]
theorem wipeR_in (rho : List (Option S)) : ∀ (vs : List Nat) (n : Nat) (s : S), n ∈ vs → (wipeR rho vs)[n]? ≠ some (some s)
  | [], _, _, h => by cases h
  | v :: vs, n, s, h => by
    unfold wipeR
    by_cases e : n = v
    · subst e
      by_cases hl : n < (wipeR rho vs).length
      · rw [List.getElem?_set_self hl]
        intro q
        cases q
      · rw [List.getElem?_eq_none (by rw [List.length_set]; omega)]
        intro q
        cases q
    · rw [List.getElem?_set_ne (Ne.symm e)]
      exact wipeR_in rho vs n s ((List.mem_cons.mp h).resolve_left e)
theorem restR_out (rho0 rho : List (Option S)) : ∀ (vs : List Nat) (n : Nat), n ∉ vs → (restR rho0 rho vs)[n]? = rho[n]?
  | [], _, _ => rfl
  | v :: vs, n, h => by
    unfold restR
    rw [List.getElem?_set_ne (fun e => h (by rw [← e]; exact List.mem_cons_self)), restR_out rho0 rho vs n (fun q => h (List.mem_cons_of_mem _ q))]
theorem restR_in (rho0 rho : List (Option S)) : ∀ (vs : List Nat) (n : Nat) (s : S), n ∈ vs → (restR rho0 rho vs)[n]? = some (some s) → rho0[n]? = some (some s)
  | [], _, _, h, _ => by cases h
  | v :: vs, n, s, h, e1 => by
    unfold restR at e1
    by_cases e : n = v
    · subst e
      by_cases hl : n < (restR rho0 rho vs).length
      · rw [List.getElem?_set_self hl] at e1
        cases q : rho0[n]? with
        | none => rw [q] at e1; cases e1
        | some o => rw [q] at e1; exact e1
      · rw [List.getElem?_eq_none (by rw [List.length_set]; omega)] at e1
        cases e1
    · rw [List.getElem?_set_ne (Ne.symm e)] at e1
      exact restR_in rho0 rho vs n s ((List.mem_cons.mp h).resolve_left e) e1
theorem wipe_out (σ : St) : ∀ (vs : List Nat) (n : Nat), n ∉ vs → (wipe σ vs)[n]? = σ[n]?
  | [], _, _ => rfl
  | v :: vs, n, h => by
    unfold wipe
    rw [List.getElem?_set_ne (fun e => h (by rw [← e]; exact List.mem_cons_self)), wipe_out σ vs n (fun q => h (List.mem_cons_of_mem _ q))]
theorem wipe_in (σ : St) : ∀ (vs : List Nat) (n : Nat), n ∈ vs → n < σ.length → (wipe σ vs)[n]? = some none
  | [], _, h, _ => by cases h
  | v :: vs, n, h, hl => by
    unfold wipe
    by_cases e : n = v
    · subst e
      exact List.getElem?_set_self (by rw [wipe_length]; exact hl)
    · rw [List.getElem?_set_ne (Ne.symm e)]
      exact wipe_in σ vs n ((List.mem_cons.mp h).resolve_left e) hl
theorem wipe_but {σ σ' : St} {ts vs : List Nat} (b : But ts (wipe σ vs) σ') (h : ∀ n ∈ ts, n ∈ vs) : wipe σ' vs = wipe σ vs := by
  have hl : σ'.length = σ.length := b.1.trans (wipe_length σ vs)
  refine List.ext_getElem? fun n => ?_
  by_cases hn : n ∈ vs
  · by_cases q : n < σ.length
    · rw [wipe_in σ vs n hn q, wipe_in σ' vs n hn (by omega)]
    · rw [List.getElem?_eq_none (by rw [wipe_length]; omega), List.getElem?_eq_none (by rw [wipe_length]; omega)]
  · rw [wipe_out σ' vs n hn, b.2 n (fun q => hn (h n q)), wipe_out σ vs n hn]
section
variable {M : MI} {G : Gx} {W : WX} {σ : St} {H H' F F' : Hp} {z : Z M.T}
def wipeZ (z : Z M.T) (vs : List Nat) : Z M.T := { z with rho := wipeR z.rho vs }
theorem Ok.wipe (ok : Ok M G σ H F z) (vs : List Nat) : Ok M G (L2.wipe σ vs) H F (wipeZ z vs) where
  sub := ok.sub
  len := by
    show (wipeR z.rho vs).length = _
    rw [wipeR_length, wipe_length]
    exact ok.len
  slot := fun i s e => by
    have e' : (wipeR z.rho vs)[i]? = some (some s) := e
    by_cases h : i ∈ vs
    · exact (wipeR_in z.rho vs i s h e').elim
    · rw [wipeR_out _ _ _ h] at e'
      obtain ⟨v, h1, h2⟩ := ok.slot i s e'
      exact ⟨v, by rw [wipe_out _ _ _ h]; exact h1, h2⟩
  dist := fun i j xs ys v e1 e2 e3 e4 => by
    have e1' : (wipeR z.rho vs)[i]? = some (some (.l xs)) := e1
    have e2' : (wipeR z.rho vs)[j]? = some (some (.l ys)) := e2
    by_cases h : i ∈ vs
    · exact (wipeR_in z.rho vs i _ h e1').elim
    · by_cases h' : j ∈ vs
      · exact (wipeR_in z.rho vs j _ h' e2').elim
      · rw [wipeR_out _ _ _ h] at e1'
        rw [wipeR_out _ _ _ h'] at e2'
        rw [wipe_out _ _ _ h] at e3
        rw [wipe_out _ _ _ h'] at e4
        exact ok.dist i j xs ys v e1' e2' e3 e4
  mach := ok.mach
  msF := ok.msF
  msP := ok.msP
  msH := ok.msH
  fr := ok.fr
def noOwn (rho : List (Option S)) (vs : List Nat) : Bool := vs.all fun i => match rho[i]? with
  | some (some (.l _)) => false
  | _ => true
theorem Ok.rest {z1 : Z M.T} {H1 F1 : Hp} (ok : Ok M G σ H F z) {vs : List Nat} (hn : noOwn z.rho vs = true) (sm : Same F F1) (ok1 : Ok M G (L2.wipe σ vs) H1 F1 z1) : Ok M G σ H1 F1 { z1 with rho := restR z.rho z1.rho vs } := by
  have no : ∀ n ∈ vs, ∀ xs, z.rho[n]? ≠ some (some (.l xs)) := fun n hm xs e => by
    have q := List.all_eq_true.mp hn n hm
    rw [e] at q
    cases q
  refine ⟨ok1.sub, ?_, fun i s e => ?_, fun i j xs ys v e1 e2 e3 e4 => ?_, ok1.mach, ok1.msF, ok1.msP, ok1.msH, ok1.fr⟩
  · show (restR z.rho z1.rho vs).length = _
    rw [restR_length, ok1.len, wipe_length]
  · have e' : (restR z.rho z1.rho vs)[i]? = some (some s) := e
    by_cases h : i ∈ vs
    · have q := restR_in z.rho z1.rho vs i s h e'
      obtain ⟨v, h1, h2⟩ := ok.slot i s q
      refine ⟨v, h1, ?_⟩
      cases s with
      | d x => exact Da.mono sm h2
      | l xs => exact (no i h xs q).elim
      | v _ => exact h2
      | m j => exact h2
    · rw [restR_out _ _ _ _ h] at e'
      obtain ⟨v, h1, h2⟩ := ok1.slot i s e'
      rw [wipe_out _ _ _ h] at h1
      exact ⟨v, h1, h2⟩
  · have e1' : (restR z.rho z1.rho vs)[i]? = some (some (.l xs)) := e1
    have e2' : (restR z.rho z1.rho vs)[j]? = some (some (.l ys)) := e2
    by_cases h : i ∈ vs
    · exact (no i h xs (restR_in z.rho z1.rho vs i _ h e1')).elim
    · by_cases h' : j ∈ vs
      · exact (no j h' ys (restR_in z.rho z1.rho vs j _ h' e2')).elim
      · rw [restR_out _ _ _ _ h] at e1'
        rw [restR_out _ _ _ _ h'] at e2'
        exact ok1.dist i j xs ys v e1' e2' (by rw [wipe_out _ _ _ h]; exact e3) (by rw [wipe_out _ _ _ h']; exact e4)
/-- a list under way is guarded -/
def Gx.prot (G : Gx) (D : Addr) (vs : List V) : Gx := { G with P := upd G.P D (.lst vs), Fp := fun b => if b = D then none else G.Fp b }
theorem Ok.prot {D : Addr} {vs : List V} (ok : Ok M G σ H F z) (hD : H D = some (.lst vs)) (hF : F D = none) (hm : D ∉ G.ms) (ho : ¬ Owned σ z D) : Ok M (G.prot D vs) σ H F z := by
  refine ⟨ok.sub, ok.len, fun i s e => ?_, ok.dist, ok.mach, ok.msF, fun a ha => ?_, ok.msH, fun b o q => ?_⟩
  · obtain ⟨v, h1, h2⟩ := ok.slot i s e
    refine ⟨v, h1, ?_⟩
    cases s with
    | d x => exact h2
    | l xs =>
      obtain ⟨a, ws, rfl, q1, q2, q3, q4, q5⟩ := h2
      have n : a ≠ D := fun e2 => ho (e2 ▸ ⟨i, xs, e, h1⟩)
      exact ⟨a, ws, rfl, q1, q2, q3, (upd_ne n).trans q4, q5⟩
    | v _ => exact h2
    | m j => exact h2
  · have n : a ≠ D := fun e => hm (e ▸ ha)
    exact (upd_ne n).trans (ok.msP a ha)
  · have q' : upd G.P D (.lst vs) b = some o := q
    show H b = some o ∧ F b = (if b = D then none else G.Fp b)
    by_cases e : b = D
    · subst e
      rw [upd_same] at q'
      cases q'
      rw [if_pos rfl]
      exact ⟨hD, hF⟩
    · rw [upd_ne e] at q'
      rw [if_neg e]
      exact ok.fr b o q'
theorem Ok.unprot {D : Addr} {vs : List V} (ok : Ok M (G.prot D vs) σ H F z) (hP : G.P D = none) : Ok M G σ H F z ∧ H D = some (.lst vs) ∧ F D = none ∧ ¬ Owned σ z D := by
  have hd := ok.fr D (.lst vs) upd_same
  have hF : F D = none := hd.2.trans (if_pos rfl)
  have no : ¬ Owned σ z D := fun q => by
    obtain ⟨_, _, _, e, _⟩ := ok.ownH q
    have e' : upd G.P D (.lst vs) D = none := e
    rw [upd_same] at e'
    cases e'
  refine ⟨⟨ok.sub, ok.len, fun i s e => ?_, ok.dist, ok.mach, ok.msF, fun a ha => ?_, ok.msH, fun b o q => ?_⟩, hd.1, hF, no⟩
  · obtain ⟨v, h1, h2⟩ := ok.slot i s e
    refine ⟨v, h1, ?_⟩
    cases s with
    | d x => exact h2
    | l xs =>
      obtain ⟨a, ws, rfl, q1, q2, q3, q4, q5⟩ := h2
      have n : a ≠ D := fun e2 => no (e2 ▸ ⟨i, xs, e, h1⟩)
      have q4' : upd G.P D (.lst vs) a = none := q4
      rw [upd_ne n] at q4'
      exact ⟨a, ws, rfl, q1, q2, q3, q4', q5⟩
    | v _ => exact h2
    | m j => exact h2
  · have q : upd G.P D (.lst vs) a = none := ok.msP a ha
    by_cases e : a = D
    · rw [e]; exact hP
    · rw [upd_ne e] at q
      exact q
  · have n : b ≠ D := fun e => by rw [e, hP] at q; cases q
    have q' : (G.prot D vs).P b = some o := (upd_ne n).trans q
    obtain ⟨h1, h2⟩ := ok.fr b o q'
    have h2' : F b = (if b = D then none else G.Fp b) := h2
    rw [if_neg n] at h2'
    exact ⟨h1, h2'⟩
/-- the guarded list itself is changed -/
theorem Ok.updD {D : Addr} {o o' : HO} (ok : Ok M G σ H F z) (hD : H D = some o) (hF : F D = none) (hm : D ∉ G.ms) (hP : G.P D = none) (ho : ¬ Owned σ z D) : Ok M G σ (upd H D o') F z :=
  ok.step (Same.refl F) (same_updR ok.sub hF) (fun a q => by
    have n : a ≠ D := fun e => ho (e ▸ q)
    exact ⟨upd_ne n, (ok.ownH q).choose_spec.2.1⟩) (fun a q => by
    have n : a ≠ D := fun e => hm (e ▸ q)
    exact ⟨upd_ne n, ok.msF a q⟩) (fun b u q => by
    have n : b ≠ D := fun e => by rw [e, hP] at q; cases q
    obtain ⟨h1, h2⟩ := ok.fr b u q
    exact ⟨(upd_ne n).trans h1, h2⟩)

/-! ### comprehensions -/
def nox {α ζ : Type} (r : Rs α ζ) : Rs α ζ := match r with
  | .ex _ _ => .bad
  | r => r
def lcL (k : D → Z M.T → Option (Z M.T)) (t : Sm M Bool) (e : Sm M S) (vs : List Nat) : List D → List D → Z M.T → Rs (List D) (Z M.T)
  | [], acc, z => .ok acc z
  | d :: r, acc, z => match k d z with
    | none => .bad
    | some z1 => (nox (t z1)).bind fun b z2 => if b = true then (nox (escf e z2)).bind fun s z3 => (match s with
        | .d y => if acc.length < lim then lcL k t e vs r (acc ++ [y]) (wipeZ z3 vs) else .bad
        | _ => .bad) else lcL k t e vs r acc (wipeZ z2 vs)
def eLc (its : Sm M (List D)) (k : D → Z M.T → Option (Z M.T)) (t : Sm M Bool) (e : Sm M S) (vs : List Nat) : Sm M S := fun z => (its z).bind fun ds z1 => if noOwn z1.rho vs = true then
    (lcL k t e vs ds [] (wipeZ z1 vs)).bind fun acc z2 => .ok (.l acc) { z2 with rho := restR z1.rho z2.rho vs }
  else .bad
abbrev W0 : WX := fun _ _ _ _ => False
theorem cmp_lc {K : PySem.W.Frag} {xr : Str → Option Value} {wi : TI} {g : TG} {tt : TT} {te : TE} {vs ts : List Nat} {its : Sm M (List D)} {k : D → Z M.T → Option (Z M.T)} {t : Sm M Bool} {e : Sm M S} (hv : ∀ n ∈ ts, n ∈ vs) (ci : Cmp M K xr W wi RelW its) (cg : GR M K ts g k)
    (ct : Cmp M K xr W0 tt RelB t) (ce : Cmp M K xr W0 te RelE e) : Cmp M K xr W (tLc wi g tt te vs) RelE (eLc its k t e vs) := by
  intro G σ H F z Q hK hx ok hh
  refine ci G σ H F z _ hK hx ok (hit_bind hh fun ds z1 J H1 F1 _ sm ok1 w h1 => ?_)
  intro L hL
  have hn : noOwn z1.rho vs = true := by
    by_cases q : noOwn z1.rho vs = true
    · exact q
    · rw [if_neg q] at h1; exact h1.elim
  rw [if_pos hn] at h1
  have okw : Ok M G (L2.wipe σ vs) H1 F1 (wipeZ z1 vs) := ok1.wipe vs
  have hP : G.P L = none := ok1.freshP hL
  have hm : L ∉ G.ms := ok1.freshM hL
  refine lc_it (w : Wk G.K F1 J ds) (fun i H' => ∃ F' z' acc avs, Same F1 F' ∧ Ok M G (L2.wipe σ vs) H' F' z' ∧ H' L = some (.lst avs) ∧ DaAll G.K F' avs acc ∧ F' L = none ∧ ¬ Owned (L2.wipe σ vs) z' L ∧
      HitG M G W σ F' (RelE G σ) ((lcL k t e vs (ds.drop i) acc z').bind fun acc z2 => .ok (.l acc) { z2 with rho := restR z1.rho z2.rho vs }) Q)
    ⟨F1, wipeZ z1 vs, [], [], Same.refl _, okw.new hL _, upd_same, .nil, ok1.freshF hL, okw.freshO hL, h1⟩ (fun i H' _ ⟨F', z', _, _, s', ok', _⟩ => s'.trans ok'.sub) ?_ ?_
  · rintro i x H2 H3 hi ⟨F2, z2, acc, avs, s2, ok2, hl2, da2, hf2, no2, h2⟩ ⟨d, hd, q⟩
    obtain ⟨F3, s3, s4, kk, da⟩ := q F2 s2 ok2.sub
    have ok3 := ok2.yd s3 s4 kk
    have hl3 : H3 L = some (.lst avs) := (kk L _ hl2).1
    have hf3 : F3 L = none := (kk L _ hl2).2.trans hf2
    have ed : ds.drop i = d :: ds.drop (i + 1) := by
      rw [List.drop_eq_getElem_cons hi]
      have := List.getElem?_eq_getElem hi
      rw [hd] at this
      rw [← Option.some.inj this]
    rw [ed] at h2
    have okp := ok3.prot hl3 hf3 hm no2
    refine cg (G.prot L avs) _ H3 F3 z2 x d _ hK okp (by rw [← hK]; exact da) ?_
    unfold lcL at h2
    cases e1 : k d z2 with
    | none => simp only [e1] at h2; exact h2.elim
    | some z3 =>
      simp only [e1] at h2
      intro σ4 b4 ok4
      have ew : L2.wipe σ4 vs = L2.wipe σ vs := wipe_but b4 hv
      refine ⟨ew, ?_⟩
      refine ct (G.prot L avs) σ4 H3 F3 z3 _ hK hx ok4 ?_
      cases e2 : t z3 with
      | bad => simp only [e2, nox, Rs.bind] at h2; exact h2
      | ex x zz => simp only [e2, nox, Rs.bind] at h2; exact h2.elim
      | ok b z4 =>
        simp only [e2, nox, Rs.bind] at h2
        intro b' H5 F5 s5 ok5 eb
        cases (show b' = b from eb)
        cases b with
        | false =>
          rw [if_neg Bool.false_ne_true] at h2
          rw [if_neg Bool.false_ne_true]
          obtain ⟨q1, q2, q3, q4⟩ := ok5.unprot hP
          have ok6 := q1.wipe vs
          rw [ew] at ok6
          refine ⟨F5, wipeZ z4 vs, acc, avs, (s2.trans s3).trans s5, ok6, q2, da2.mono (s3.trans s5), q3, ?_, HitG.mono h2 (s3.trans s5)⟩
          rintro ⟨j, xs, o1, o2⟩
          have o1' : (wipeR z4.rho vs)[j]? = some (some (.l xs)) := o1
          by_cases qj : j ∈ vs
          · exact wipeR_in _ _ _ _ qj o1'
          · rw [wipeR_out _ _ _ qj] at o1'
            rw [← ew, wipe_out _ _ _ qj] at o2
            exact q4 ⟨j, xs, o1', o2⟩
        | true =>
          rw [if_pos rfl] at h2
          rw [if_pos rfl]
          refine cmp_esc ce (G.prot L avs) σ4 H5 F5 z4 _ hK hx ok5 ?_
          cases e3 : escf e z4 with
          | bad => simp only [e3, nox, Rs.bind] at h2; exact h2
          | ex x zz => simp only [e3, nox, Rs.bind] at h2; exact h2.elim
          | ok s z5 =>
            simp only [e3, nox, Rs.bind] at h2
            intro v H6 F6 s6 ok6 ev
            cases s with
            | d y =>
              simp only at h2
              have hlim : acc.length < lim := by
                by_cases q : acc.length < lim
                · exact q
                · rw [if_neg q] at h2; exact h2.elim
              rw [if_pos hlim] at h2
              obtain ⟨q1, q2, q3, q4⟩ := ok6.unprot hP
              have s26 := (s3.trans s5).trans s6
              refine ⟨avs, q2, by rw [da2.length]; exact Nat.lt_trans hlim lim_line, F6, wipeZ z5 vs, acc ++ [y], avs ++ [v], s2.trans s26, ?_, upd_same, (da2.mono s26).append (.cons ev .nil), q3, ?_, HitG.mono h2 s26⟩
              · have ok7 := (q1.updD (o' := .lst (avs ++ [v])) q2 q3 hm hP q4).wipe vs
                rw [ew] at ok7
                exact ok7
              · rintro ⟨j, xs, o1, o2⟩
                have o1' : (wipeR z5.rho vs)[j]? = some (some (.l xs)) := o1
                by_cases qj : j ∈ vs
                · exact wipeR_in _ _ _ _ qj o1'
                · rw [wipeR_out _ _ _ qj] at o1'
                  rw [← ew, wipe_out _ _ _ qj] at o2
                  exact q4 ⟨j, xs, o1', o2⟩
            | _ => exact h2.elim
  · rintro H2 ⟨F2, z2, acc, avs, s2, ok2, hl2, da2, hf2, no2, h2⟩
    rw [List.drop_length] at h2
    refine h2 (.ref L) H2 F2 (Same.refl _) (ok1.rest hn s2 ok2) ⟨L, avs, rfl, hl2, da2, hf2, hP, hm, ?_⟩
    rintro ⟨j, xs, o1, o2⟩
    have o1' : (restR z1.rho z2.rho vs)[j]? = some (some (.l xs)) := o1
    by_cases qj : j ∈ vs
    · have q := restR_in _ _ _ _ _ qj o1'
      have q2 := List.all_eq_true.mp hn j qj
      rw [q] at q2
      cases q2
    · rw [restR_out _ _ _ _ qj] at o1'
      exact no2 ⟨j, xs, o1', by rw [wipe_out _ _ _ qj]; exact o2⟩
end
section
variable {ι : Type} {M : MI} {xr : Str → Option Value} {K : PySem.W.Frag} {X : ι → Cx} {W : WX}
structure BP where
  s : Shared
  H : Hp
  C : Addr
  cl : List (Str × Addr)
  fp : List Addr
abbrev Blk {ι : Type} (X : ι → Cx) (scope : Scope) : ι × BP → Cx := fun p => (X p.1).blk p.2.s p.2.H scope (compEnvC scope p.2.cl p.2.C (X p.1).env) p.2.fp
def DTs {ι : Type} (M : MI) (xr : Str → Option Value) (K : PySem.W.Frag) (X : ι → Cx) (W : WX) (es : List Expr) (f : Sm M Bool) : Prop := ∃ t, (∀ j, PTs (X j) es t) ∧ Cmp M K xr W t RelB f
theorem dts_nil : DTs M xr K X W [] (fun z => .ok true z) := ⟨_, fun _ => pts_nil, fun G σ H F z Q _ _ ok h => h true H F (Same.refl _) ok rfl⟩
theorem dts_one {e : Expr} {f : Sm M Bool} (h : DT M xr K X W e f) : DTs M xr K X W [e] f := by
  obtain ⟨t, p, c⟩ := h
  exact ⟨_, fun j => pts_one (p j), c⟩
end
end G
/-! Promises of defs that are asked only where no repr is under way. -/
namespace G
open PySem L2 PySem.Spec PyProof.Rows
structure FnG (P : Program) (w : World) (K : PySem.W.Frag) (mg : Str → Option Value) (base : Heap) (CX : CXT) (n : Nat) (f : Addr) (fd : FuncData) (ps : List Str) (sp : Sp) : Prop where
  len : ∀ ws H Q E, sp ws H Q E → ws.length = ps.length
  run : ∀ (B : Around) (out : List Env) (s : Shared) (H : Hp) (args : Args) (us : List Value) (ws : List V) (Q : VK) (E : XK), Room n B → B.guards = some [] → Env0 P w K mg base B out s H → BindsTo s fd args (ps.zip us) → Vals ws us → sp ws H Q E → codeAny (model P w) B (.call (.ref f) args) (CR CX out P w H s Q E) s
theorem fnG {CX : CXT} {P : Program} {w : World} {K : PySem.W.Frag} {mg : Str → Option Value} {base : Heap} {n : Nat} {f : Addr} {nm qual : Str} {pa : Arguments} {bd : List Stmt} {sc : Scope} {dV kV doc pm cdv ct oc : Value} {an od : Option Addr}
    {osl : Array (Option Value)} {N ps : List Str} {sp : Sp} (lk : K.lookup f = some ⟨oc, od, .func (PySem.W.fnOf nm qual pa bd sc dV kV doc pm an cdv ct), osl⟩) (hc : PySem.W.codeIn K cdv qual = true) (Sc : FnScope N ps sc) (len : ∀ ws H Q E, sp ws H Q E → ws.length = ps.length)
    (body : ∀ (B : Around) (out : List Env) (s : Shared) (H : Hp) (ws : List V) (Q : VK) (E : XK), Room n (B.deeper (envOfC qual sc s.heap.objs.size f cdv)) → B.guards = some [] → sp ws H Q E → ∃ t, PSs (cxOf CX P w K mg base N qual sc f cdv B out s H E) bd t ∧ t { nx := fun _ H' => Q .non H', rt := Q } (start N ws) H) :
    FnG P w K mg base CX (n + 1) f (PySem.W.fnOf nm qual pa bd sc dV kV doc pm an cdv ct) ps sp := by
  constructor
  · exact len
  intro B out s H args us ws Q E hr hg e0 hb rv hsp
  have inK : K.In s.heap := e0.mod.kin.keeps fun c o e => (e0.bs c o e).1
  have nl : s.heap.NoLimit := e0.mod.nolimit.keeps fun c o e => (e0.bs c o e).1
  have kinds : ∀ y ∈ ps.zip us, sc.names.lookup y.1 = some .local ∨ (sc.names.lookup y.1 = some .cell ∧ ((cellsFrom (s.heap.objs.size + 1) sc.names []).lookup y.1).isSome = true) := by
    rintro ⟨m, u⟩ hy
    rcases Sc.par m (List.of_mem_zip hy).1 with q | q
    · exact Or.inl q
    · exact Or.inr ⟨q, PySem.W.cellsFrom_some _ _ _ (.inl q)⟩
  apply codeAny_call_function hr.depth (inK _ _ lk) rfl Sc.co Sc.gen rfl (PySem.W.codeRec_of inK hc)
  apply hb
  apply wpAny_newFunctionEnv_cells Sc.kind kinds
  intro env he s1 x
  subst he
  refine And.intro (nl.keeps x.toInCall.keep) (codeAny_func ?_)
  obtain ⟨t, pt, ht⟩ := body B out s H ws Q E (hr.deeper _) hg hsp
  have I0 : Inv (cxOf CX P w K mg base N qual sc f cdv B out s H E) [] (start N ws) H s1 := inv_start Sc hr.hd e0 (len _ _ _ _ hsp) rv x
  refine wpAny_mono (pt.run [] s1 (start N ws) H _ I0 ht) ?_ (fun e s' hs => hs)
  intro fl s' hs
  have done : ∀ {σ1 : L2.St} {H1 : Hp} {v : V} {u : Value}, Inv (cxOf CX P w K mg base N qual sc f cdv B out s H E) [] σ1 H1 s' → RelV v u → Q v H1 → CE out P w H s Q u s' := fun {σ1 H1 v u} J r q => ⟨v, H1, J.os, J.bare, J.base, J.hok, r, q⟩
  match fl, hs with
  | .ret u, ⟨v, σ1, H1, J, r, q⟩ => exact done J r q
  | .next, ⟨σ1, H1, J, q⟩ => exact done (v := V.non) (u := Value.none) J rfl q
  | .brk, ⟨_, _, _, q⟩ => exact q.elim
  | .cont, ⟨_, _, _, q⟩ => exact q.elim
section
variable {X : Cx} {CX : CXT} {n : Nat} {f : Addr} {fd : FuncData} {ps : List Str} {sp : Sp} {dvs : List V} {ds : List Value} {E : L2.St → XK} {x : Str} {p pos : Pos} {e : Expr} {es : List Expr} {t : TA}
theorem run_fnG {pins : List (Addr × Obj)} {σ : L2.St} {H : Hp} {s : Shared} {Q : VK} {us : List Value} {ws : List V} (F : FnG X.prog X.w X.K X.mg X.base CX n f fd ps sp) (hr : Room n X.A) (hg : X.A.guards = some []) (hb : Binds X.K fd ps ds) (hd : Vals dvs ds) (hx : PassesAt CX X σ (E σ)) (I : Inv X pins σ H s) (r : Vals ws us) (h : sp (ws ++ dvs) H Q (E σ)) :
    wpAny (model X.prog X.w) X.A (call (.ref f) us) (EP X pins σ Q) X.xe s := by
  have rr : Vals (ws ++ dvs) (us ++ ds) := r.append hd
  have ll : (us ++ ds).length = ps.length := rr.length.symm.trans (F.len _ _ _ _ h)
  apply wpAny_call
  apply codeAny_mono (F.run X.A X.stack s H ⟨us, []⟩ (us ++ ds) (ws ++ dvs) Q (E σ) hr hg I.env0 (hb s us I.kIn ll) rr h)
  intro rs s' hq
  match rs, hq with
  | .error e, hq => exact hx pins H s e s' I hq
  | .ok (.ret u), hq => exact I.after hq
  | .ok .next, hq => exact hq.elim
  | .ok .brk, hq => exact hq.elim
  | .ok .cont, hq => exact hq.elim
theorem pe_callG (F : FnG X.prog X.w X.K X.mg X.base CX n f fd ps sp) (hr : Room n X.A) (hgu : X.A.guards = some []) (hg : Gl X x) (hm : X.mg x = some (.ref f)) (hk : PySem.W.keepIn X.K (.ref f) = true) (hb : Binds X.K fd ps ds) (hd : Vals dvs ds) (hx : ∀ σ, PassesAt CX X σ (E σ)) (ha : PA X (e :: es) t)
    (hdb : (x == ("__debug__" : Str)) = false) (he : starEach (e :: es) X.env = (false, eval e X.env) :: starEach es X.env) (hpl : (backTo pos (starEach es X.env)).any (·.1) = false) : PE X (.Call (.Name x p) (e :: es) [] pos) (fun σ H Q => t σ H fun ws H1 => sp (ws ++ dvs) H1 Q (E σ)) := by
  constructor
  intro pins s σ H Q I h
  apply wpAny_Call_Name_kw
  apply ld_glob I hg hm _ hdb
  apply PySem.W.callWith_K (h₀ := X.base) I.ok.mod.kin hk _ he hpl
  exact thn (ha.run pos pins s σ H _ I h) fun us s1 ⟨ws, H1, I1, r, q⟩ => ⟨I1.kIn, run_fnG F hr hgu hb hd (hx σ) I1 r q⟩
theorem pe_call0G (F : FnG X.prog X.w X.K X.mg X.base CX n f fd ps sp) (hr : Room n X.A) (hgu : X.A.guards = some []) (hg : Gl X x) (hm : X.mg x = some (.ref f)) (hk : PySem.W.keepIn X.K (.ref f) = true) (hb : Binds X.K fd ps ds) (hd : Vals dvs ds) (hx : ∀ σ, PassesAt CX X σ (E σ)) (hdb : (x == ("__debug__" : Str)) = false) : PE X (.Call (.Name x p) [] [] pos) (fun σ H Q => sp dvs H Q (E σ)) := by
  constructor
  intro pins s σ H Q I h
  apply wpAny_Call_Name_kw
  apply ld_glob I hg hm _ hdb
  exact PySem.W.callWith_K0 I.kIn hk (run_fnG (us := []) (ws := []) (E := E) F hr hgu hb hd (hx σ) I .nil h)
end
end G
namespace G
open PySem L2 PySem.Spec PyProof.Rows
/-- the law's own call, where its promise is asked at the caller alone -/
theorem lawG {P : Program} {w : World} {K : PySem.W.Frag} {mg mb : Str → Option Value} {CX : CXT} {n : Nat} {fa a : Addr} {fd : FuncData} {x : Str} {sp : Sp} {s1 : Shared} {us : List Value} {ns : List Int} (inK : K.In s1.heap) (gs : s1.heap.Ns mainGlobals mg) (bs : s1.heap.Ns builtinsNs mb)
    (boot : ∀ x : Str, x ≠ "__name__" → mb x = bootBuiltins x) (nl : s1.heap.NoLimit) (ge : s1.gens = #[]) (oa : s1.heap.get? a = some { cls := .type "list", data := .seq us.toArray }) (hi : IntsAre us ns) (hl : ns.length ≤ sizeLine) (hr : Room n callerA)
    (F : ∀ bh : Heap, K.In bh → bh.Ns mainGlobals mg → FnG P w K mg bh CX n fa fd [x] sp) (hbd : ∀ (s : Shared) (u : Value), BindsTo s fd ⟨[u], []⟩ [(x, u)])
    (hsp : ∀ H : Hp, Only H → SqL K H a (ns.map V.int) → sp [.ref a] H (fun v _ => v = .bl true) fun _ _ _ => False) (noX : ∀ H e s', CX [] H s1 (fun _ _ _ => False) e s' → False) :
    codeAny (model P w) callerA (.call (.ref fa) ⟨[.ref a], []⟩) (fun r s' => r = .ok (.ret (.bool true)) ∧ OldK s1.heap s'.heap ∧ s'.os = s1.os ∧ AllBare s'.gens) s1 := by
  have vals := vals_ints hi
  have lens := hi.length
  have main : ∀ H : Hp, Only H → SqL K H a (ns.map V.int) → HOk P w H s1.heap → (∀ c, H c ≠ none → c = a) → (H a ≠ none → K.lookup a = none) → codeAny (model P w) callerA (.call (.ref fa) ⟨[.ref a], []⟩) (fun r s' => r = .ok (.ret (.bool true)) ∧ OldK s1.heap s'.heap ∧ s'.os = s1.os ∧ AllBare s'.gens) s1 := by
    intro H only sq hok at1 notK
    have keep : ∀ {c : Addr} {o : Obj}, s1.heap.get? c = some o → H c = none → (hidT s1.heap H).get? c = some o := fun e z => hidT_get e z
    have noDict : ∀ {c : Addr} {o : Obj} {es : Array DictEntry} {ep : Nat}, s1.heap.get? c = some o → o.data = .dict es ep → H c = none := by
      intro c o es ep e d
      rcases hq : H c with _ | u
      · rfl
      · have hc : c = a := at1 c (by rw [hq]; exact Option.some_ne_none u)
        rw [hc, oa] at e
        cases e
        exact Data.noConfusion (show Data.seq us.toArray _ = Data.dict es ep from d)
    have nsOf : ∀ {c : Addr} {m : Str → Option Value}, s1.heap.Ns c m → (hidT s1.heap H).Ns c m := fun ⟨o, es, ep, e, d, r⟩ => ⟨o, es, ep, keep e (noDict e d), d, r⟩
    have inB : K.In (hidT s1.heap H) := by
      intro c o e
      refine keep (inK c o e) ?_
      rcases hq : H c with _ | u
      · rfl
      · have hc : c = a := at1 c (by rw [hq]; exact Option.some_ne_none u)
        rw [hc, notK (by rw [← hc, hq]; exact Option.some_ne_none u)] at e
        cases e
    have md : Mod K mg (hidT s1.heap H) := ⟨inB, nsOf gs, ⟨mb, nsOf bs, boot⟩, by obtain ⟨mc, q1, q2⟩ := nl; exact ⟨mc, nsOf q1, q2⟩⟩
    have env : Env0 P w K mg (hidT s1.heap H) callerA [] s1 H := ⟨rfl, md, fun c o e => of_hidT e, Nat.le_of_eq (hidT_size _ _), trivial, fun c hc => (List.not_mem_nil (show c ∈ ([] : List Addr) from hc)).elim, hok, .of_eq ge⟩
    apply codeAny_mono ((F _ inB (nsOf gs)).run callerA [] s1 H ⟨[.ref a], []⟩ [.ref a] [.ref a] _ _ hr rfl env (hbd s1 (.ref a)) (.cons rfl .nil) (hsp H only sq))
    intro r s' h
    match r, h with
    | .error e, h => exact (noX H e s' h).elim
    | .ok .next, h => exact h.elim
    | .ok .brk, h => exact h.elim
    | .ok .cont, h => exact h.elim
    | .ok (.ret u), h =>
      obtain ⟨v, H', os, bare, un, hok', rv, q⟩ := h
      cases (show v = .bl true from q)
      cases (show u = Value.bool true from rv)
      refine ⟨rfl, OldK.of_keep ?_, os, bare⟩
      intro c o e
      rcases hq : H c with _ | u
      · exact un.keep c o e hq (fun z => (List.not_mem_nil (show c ∈ ([] : List Addr) from z)).elim) (List.not_mem_nil)
      · rcases only c with z | ⟨ob, xs, z⟩
        · exact absurd (hq.symm.trans z) (Option.some_ne_none u)
        · obtain ⟨q1, _⟩ := hok c _ z
          obtain ⟨q2, _⟩ := hok' c _ (un.frzs c ob _ z)
          have : o = ob := Option.some.inj (e.symm.trans q1)
          rw [this]
          exact q2
  rcases hk : K.lookup a with _ | o
  · refine main (fun c => if c = a then some (.frz { cls := .type "list", data := .seq us.toArray } (.lst (ns.map V.int))) else none) ?_ (.inl (.inr ⟨{ cls := .type "list", data := .seq us.toArray }, if_pos rfl⟩)) ?_ ?_ (fun _ => hk)
    · intro c
      by_cases hc : c = a
      · exact Or.inr ⟨_, _, if_pos hc⟩
      · exact Or.inl (if_neg hc)
    · intro c u z
      by_cases hc : c = a
      · cases (if_pos hc).symm.trans z
        rw [hc]
        exact ⟨oa, by rw [List.length_map]; exact hl, us, _, vals, oa⟩
      · cases (if_neg hc).symm.trans z
    · intro c z
      by_cases hc : c = a
      · exact hc
      · exact absurd (if_neg hc) z
  · have e := inK a o hk
    rw [oa] at e
    cases e
    exact main (fun _ => none) (fun _ => .inl rfl) (.inr ⟨_, us.toArray, _, hk, rfl, rfl, rfl, by rw [List.size_toArray, lens]; exact hl, by simpa using vals⟩) (fun c u z => by cases (show (none : Option HO) = some u from z)) (fun c z => absurd rfl z) (fun z => absurd rfl z)
theorem walkG {l : PySem.W.OpenLaw} {m n : Nat} {q : Program} {loose : List Str} {XP : (Str → Option Value) → Heap → Prop} {YP : World → Heap → Prop} {d : DefRec} {K : Params → PySem.W.Frag} {CX : World → CXT} {sp : World → Sp} {x : Str} (hm : l.most = some m) (hm2 : m ≤ sizeLine) (hdf : d.params.defaults = []) (hr : Room n callerA) (hY : ∀ (w : World) (h : Heap), YP w h → (K w.params).In h)
    (F : ∀ (w : World) (mg : Str → Option Value) (fa : Addr) (h : Heap), (K w.params).In h → h.Ns mainGlobals mg → mg d.name = some (.ref fa) → ∃ fd : FuncData, (∀ (s : Shared) (u : Value), BindsTo s fd ⟨[u], []⟩ [(x, u)]) ∧ ∀ bh : Heap, (K w.params).In bh → bh.Ns mainGlobals mg → FnG l.prog w (K w.params) mg bh (CX w) n fa fd [x] (sp w))
    (hsp : ∀ (w : World) (H : Hp) (a : Addr) (ns : List Int), ns.length ≤ m → (∀ z ∈ ns, Builtin.Int.intBits z ≤ 1048576) → Only H → SqL (K w.params) H a (ns.map V.int) → sp w [.ref a] H (fun v _ => v = .bl true) fun _ _ _ => False)
    (noX : ∀ (w : World) (H : Hp) (s : Shared) (e : Value) (s' : Shared), CX w [] H s (fun _ _ _ => False) e s' → False) : PySem.W.WalkO q loose XP YP l.row.toRowW d [] (fun f vs => PySem.call f vs) := by
  apply Att.attach_callB hm hdf
  intro w s0 s1 mg mb fa o pm cd doc a us ns gr Y ho hd hcd hmg oa hi hlen hbits hg
  have inK := hY w _ Y
  obtain ⟨fd, hb, hF⟩ := F w mg fa _ inK gr.T.g hmg
  exact lawG inK gr.T.g gr.T.b gr.T.builtins gr.T.nolimit hg oa hi (Nat.le_trans hlen hm2) hr hF hb (fun H hO hS => hsp w H a ns hlen hbits hO hS) (fun H e s' => noX w H s1 e s')
end G
namespace G
open PySem L2
section
variable {ι : Type} {M : MI} {xr : Str → Option Value} {K : PySem.W.Frag} {X : ι → Cx} {W : WX}
/-! ### comprehensions, the rules -/
theorem de_lc {elt tg iter : Expr} {ifs : List Expr} {scope : Scope} {own : List (Str × Nat)} {pos : Pos} {ts : List Nat} {its : Sm M (List D)} {k : D → Z M.T → Option (Z M.T)} {t : Sm M Bool} {e : Sm M S} (hc : ∀ j, (X j).calm = true) (hN : ∀ j, (X j).N.Nodup) (ok : ∀ j, BlkOk (X j).N (X j).env.scope scope own)
    (hi : DI M xr K X W tg iter its) (hg : DG M K (Blk X scope) ts tg k) (ht : DTs M xr K (Blk X scope) W0 ifs t) (he : DE M xr K (Blk X scope) W0 elt e) (hv : ∀ n ∈ ts, n ∈ own.map (·.2) := by decide) (hs : ∀ j x, foldedSetIterable iter (X j).env x = pure x := by intro _ _; rfl) :
    DE M xr K X W (.ListComp elt [⟨tg, iter, ifs, 0⟩] scope pos) (eLc its k t e (own.map (·.2))) := by
  obtain ⟨wi, pi, ci⟩ := hi
  obtain ⟨g, pg, cg⟩ := hg
  obtain ⟨tt, pt, ct⟩ := ht
  obtain ⟨te, pe, ce⟩ := he
  exact ⟨_, fun j => pe_lc (hc j) (hN j) (pi j) (ok j) (fun s H C cl fp => pg (j, ⟨s, H, C, cl, fp⟩)) (fun s H C cl fp => pt (j, ⟨s, H, C, cl, fp⟩)) (fun s H C cl fp => pe (j, ⟨s, H, C, cl, fp⟩)) (hs j), cmp_lc hv ci cg ct ce⟩
theorem ds_setLc {i : Nat} {y : Str} {py : Pos} {elt tg iter : Expr} {ifs : List Expr} {scope : Scope} {own : List (Str × Nat)} {pos spos : Pos} {ts : List Nat} {its : Sm M (List D)} {k : D → Z M.T → Option (Z M.T)} {t : Sm M Bool} {e : Sm M S} (hc : ∀ j, (X j).calm = true) (hN : ∀ j, (X j).N.Nodup) (hy : ∀ j, (X j).N[i]? = some y) (hyl : ∀ j, (X j).env.scope.names.lookup y = some .local)
    (hsw : ∀ j, swapsWith (.ListComp elt [⟨tg, iter, ifs, 0⟩] scope pos) (some (.Name y py)) spos.line (X j).env = pure true) (ok : ∀ j, BlkOk (X j).N (X j).env.scope scope own)
    (hi : DI M xr K X W tg iter its) (hg : DG M K (Blk X scope) ts tg k) (ht : DTs M xr K (Blk X scope) W0 ifs t) (he : DE M xr K (Blk X scope) W0 elt e) (hv : ∀ n ∈ ts, n ∈ own.map (·.2) := by decide) (hs : ∀ j x, foldedSetIterable iter (X j).env x = pure x := by intro _ _; rfl) :
    DS M xr K X W (.Assign [.Name y py] (.ListComp elt [⟨tg, iter, ifs, 0⟩] scope pos) spos) (sSet i (eLc its k t e (own.map (·.2)))) := by
  obtain ⟨wi, pi, ci⟩ := hi
  obtain ⟨g, pg, cg⟩ := hg
  obtain ⟨tt, pt, ct⟩ := ht
  obtain ⟨te, pe, ce⟩ := he
  exact ⟨_, fun j => ps_setLc (hc j) (hN j) (hy j) (hyl j) (hsw j) (pi j) (ok j) (fun s H C cl fp => pg (j, ⟨s, H, C, cl, fp⟩)) (fun s H C cl fp => pt (j, ⟨s, H, C, cl, fp⟩)) (fun s H C cl fp => pe (j, ⟨s, H, C, cl, fp⟩)) (hs j), sr_set (cmp_lc hv ci cg ct ce)⟩

/-! ### a slot's own list, changed -/
theorem Ok.setL {G : Gx} {σ : St} {H F : Hp} {z : Z M.T} (ok : Ok M G σ H F z) {i : Nat} {xs ys : List D} {a : Addr} {ws : List V} (h : z.rho[i]? = some (some (.l xs))) (ha : σ[i]? = some (some (.ref a))) (hd : DaAll G.K F ws ys) : Ok M G σ (upd H a (.lst ws)) F { z with rho := z.rho.set i (some (.l ys)) } := by
  obtain ⟨v, e, b, vs, rfl, h1, h2, h3, h4, h5⟩ := ok.slot i _ h
  rw [ha] at e
  cases e
  have hl : i < z.rho.length := (List.getElem?_eq_some_iff.mp h).1
  have old : ∀ j s, (z.rho.set i (some (S.l ys)))[j]? = some (some s) → (j = i ∧ s = .l ys) ∨ (j ≠ i ∧ z.rho[j]? = some (some s)) := fun j s q => by
    by_cases hj : j = i
    · subst hj
      rw [List.getElem?_set_self hl] at q
      cases q
      exact .inl ⟨rfl, rfl⟩
    · rw [List.getElem?_set_ne (Ne.symm hj)] at q
      exact .inr ⟨hj, q⟩
  refine ⟨same_updR ok.sub h3, by simp [ok.len], fun j s q => ?_, fun j k as bs v e1 e2 e3 e4 => ?_, M.mono (Same.refl F) (fun c hc => upd_ne (fun e => h5 (e ▸ hc))) ok.mach, ok.msF, ok.msP, fun c hc => ?_, fun c o q => ?_⟩
  · rcases old j s q with ⟨rfl, rfl⟩ | ⟨hj, q⟩
    · exact ⟨.ref a, ha, a, ws, rfl, upd_same, hd, h3, h4, h5⟩
    · obtain ⟨v, e1, e2⟩ := ok.slot j s q
      refine ⟨v, e1, ?_⟩
      cases s with
      | d x => exact e2
      | l as =>
        obtain ⟨c, vs', rfl, q1, q2, q3, q4, q5⟩ := e2
        have n : c ≠ a := fun e => hj (ok.dist j i as xs _ q h e1 (by rw [e]; exact ha))
        exact ⟨c, vs', rfl, (upd_ne n).trans q1, q2, q3, q4, q5⟩
      | v _ => exact e2
      | m j => exact e2
  · have r : ∀ n cs, (z.rho.set i (some (S.l ys)))[n]? = some (some (S.l cs)) → ∃ ds, z.rho[n]? = some (some (S.l ds)) := fun n cs q => by
      rcases old n _ q with ⟨rfl, _⟩ | ⟨_, q⟩
      · exact ⟨xs, h⟩
      · exact ⟨_, q⟩
    obtain ⟨as', e1'⟩ := r j as e1
    obtain ⟨bs', e2'⟩ := r k bs e2
    exact ok.dist j k as' bs' v e1' e2' e3 e4
  · show upd H a (.lst ws) c ≠ none
    have n : c ≠ a := fun e => h5 (e ▸ hc)
    rw [upd_ne n]
    exact ok.msH c hc
  · have n : c ≠ a := fun e => by rw [e, h4] at q; cases q
    obtain ⟨q1, q2⟩ := ok.fr c o q
    exact ⟨(upd_ne n).trans q1, q2⟩
def ownAt {T : Type} (z : Z T) (i : Nat) : Option (List D) := match z.rho[i]? with
  | some (some (.l xs)) => some xs
  | _ => none
theorem ownAt_some {T : Type} {z : Z T} {i : Nat} {xs : List D} (h : ownAt z i = some xs) : z.rho[i]? = some (some (.l xs)) := by
  unfold ownAt at h
  split at h
  · rename_i ys e
    cases h
    exact e
  · cases h
def eApp (i : Nat) (g : Sm M S) : Sm M S := fun z => match ownAt z i with
  | none => .bad
  | some _ => (escf g z).bind fun s z1 => match ownAt z1 i, s with
    | some xs, .d y => if xs.length < lim then .ok (.d .non) { z1 with rho := z1.rho.set i (some (.l (xs ++ [y]))) } else .bad
    | _, _ => .bad
def eExt (i : Nat) (g : Sm M S) : Sm M S := fun z => match ownAt z i with
  | none => .bad
  | some _ => (opd g z).bind fun s z1 => match ownAt z1 i, rd z1 s with
    | some xs, some (.lst ys) => if xs.length + ys.length ≤ lim then .ok (.d .non) { z1 with rho := z1.rho.set i (some (.l (xs ++ ys))) } else .bad
    | _, _ => .bad
def ePop (i : Nat) : Sm M S := fun z => match ownAt z i with
  | none => .bad
  | some xs => match xs[xs.length - 1]? with
    | some y => .ok (.d y) { z with rho := z.rho.set i (some (.l xs.dropLast)) }
    | none => .bad
theorem tyV_own {K : PySem.W.Frag} {H : Hp} {a : Addr} {xs : List V} (h : H a = some (.lst xs)) : tyV K "list" (.ref a) H := .inl ⟨rfl, _, SqL.of h⟩
theorem Ok.at {G : Gx} {σ : St} {H F : Hp} {z : Z M.T} (ok : Ok M G σ H F z) {i : Nat} {xs : List D} (h : ownAt z i = some xs) : ∃ a vs, σ[i]? = some (some (.ref a)) ∧ H a = some (.lst vs) ∧ DaAll G.K F vs xs := by
  obtain ⟨v, e, a, vs, rfl, h1, h2, _⟩ := ok.slot i _ (ownAt_some h)
  exact ⟨a, vs, e, h1, h2⟩
theorem de_append {i : Nat} {x : Str} {pn apos cpos : Pos} {e : Expr} {g : Sm M S} (hK : ∀ j, (X j).K = K) (hN : ∀ j, (X j).N[i]? = some x) (hv : ∀ j, Vis (X j).env.scope x) (hd : (x == ("__debug__" : Str)) = false) (hcd : (x == ("__classdict__" : Str)) = false) (h : DE M xr K X W e g)
    (hbase : ∀ j, attributeBase (.Name x pn) "append" (X j).env (eval (.Name x pn) (X j).env) = eval (.Name x pn) (X j).env := by intro _; rfl)
    (hfew : ∀ j, ((backTo cpos (starEach [e] (X j).env)).all (fun x => !x.1) && (backToKw cpos (keywordEach [] (X j).env)).all (fun x => x.1.isSome) && decide (([e] : List Expr).length + ([] : List Keyword).length + (if ([] : List Keyword).isEmpty then 0 else 1) < 30)) = true := by intro _; rfl)
    (hline : (apos.endLine == cpos.line) = true := by rfl) (hs : ∀ j, starEach [e] (X j).env = (false, eval e (X j).env) :: starEach [] (X j).env := by intro _; rfl) (hplain : ∀ j, (backTo cpos (starEach [] (X j).env)).any (·.1) = false := by intro _; rfl) :
    DE M xr K X W (.Call (.Attribute (.Name x pn) "append" apos) [e] [] cpos) (eApp i g) := by
  obtain ⟨t, p, c⟩ := h
  refine ⟨tBM K "list" rAppend (tVar i) (tCons t tNil), fun j => ?_, fun G σ H F z Q hGK hx ok hh => ?_⟩
  · rw [← hK j]
    exact pe_bm PySem.F.plainAttrs_list PySem.F.slot_list_append PySem.F.type_list_append mt_append (pe_var (hN j) (hv j) hd hcd) (pa_cons (p j) pa_nil (hs j)) (hbase j) (hfew j) hline (hs j) (hplain j)
  · unfold eApp at hh
    cases e0 : ownAt z i with
    | none => simp only [e0] at hh; exact hh.elim
    | some ys =>
      simp only [e0] at hh
      obtain ⟨a, vs, hσ, ha, _⟩ := ok.at e0
      refine ⟨.ref a, hσ, tyV_own ha, ?_⟩
      refine cmp_esc c G σ H F z _ hGK hx ok (hit_bind hh fun s z1 v H1 F1 _ sm ok1 ev h1 => ?_)
      cases e1 : ownAt z1 i with
      | none => simp only [e1] at h1; exact h1.elim
      | some xs =>
        simp only [e1] at h1
        cases s with
        | d y =>
          simp only at h1
          by_cases hl : xs.length < lim
          · rw [if_pos hl] at h1
            obtain ⟨b, ws, hσ1, hb, hdw⟩ := ok1.at e1
            rw [hσ] at hσ1
            cases hσ1
            refine ⟨a, ws, v, rfl, rfl, hb, by rw [hdw.length]; exact Nat.lt_trans hl lim_line, ?_⟩
            exact h1 .non _ F1 (Same.refl _) (ok1.setL (ownAt_some e1) hσ (hdw.append (.cons ev .nil))) Da.non
          · rw [if_neg hl] at h1; exact h1.elim
        | _ => exact h1.elim
theorem Rv.lst {K : PySem.W.Frag} {F H : Hp} (s : Same F H) {v : V} {xs : List D} (h : Rv K F H v (.lst xs)) : ∃ a vs, v = .ref a ∧ H a = some (.lst vs) ∧ DaAll K F vs xs := by
  rcases h with h | ⟨a, vs, ys, rfl, e, h1, h2⟩
  · cases h with
    | lst q r => exact ⟨_, _, rfl, s _ _ q, r⟩
  · cases e
    exact ⟨a, vs, rfl, h1, h2⟩
theorem de_extend {i : Nat} {x : Str} {pn apos cpos : Pos} {e : Expr} {g : Sm M S} (hK : ∀ j, (X j).K = K) (hN : ∀ j, (X j).N[i]? = some x) (hv : ∀ j, Vis (X j).env.scope x) (hd : (x == ("__debug__" : Str)) = false) (hcd : (x == ("__classdict__" : Str)) = false) (h : DE M xr K X W e g)
    (hbase : ∀ j, attributeBase (.Name x pn) "extend" (X j).env (eval (.Name x pn) (X j).env) = eval (.Name x pn) (X j).env := by intro _; rfl)
    (hfew : ∀ j, ((backTo cpos (starEach [e] (X j).env)).all (fun x => !x.1) && (backToKw cpos (keywordEach [] (X j).env)).all (fun x => x.1.isSome) && decide (([e] : List Expr).length + ([] : List Keyword).length + (if ([] : List Keyword).isEmpty then 0 else 1) < 30)) = true := by intro _; rfl)
    (hline : (apos.endLine == cpos.line) = true := by rfl) (hs : ∀ j, starEach [e] (X j).env = (false, eval e (X j).env) :: starEach [] (X j).env := by intro _; rfl) (hplain : ∀ j, (backTo cpos (starEach [] (X j).env)).any (·.1) = false := by intro _; rfl) :
    DE M xr K X W (.Call (.Attribute (.Name x pn) "extend" apos) [e] [] cpos) (eExt i g) := by
  obtain ⟨t, p, c⟩ := h
  refine ⟨tBM K "list" rExtend (tVar i) (tCons t tNil), fun j => ?_, fun G σ H F z Q hGK hx ok hh => ?_⟩
  · rw [← hK j]
    exact pe_bm PySem.F.plainAttrs_list PySem.F.slot_list_extend PySem.F.type_list_extend mt_extend (pe_var (hN j) (hv j) hd hcd) (pa_cons (p j) pa_nil (hs j)) (hbase j) (hfew j) hline (hs j) (hplain j)
  · unfold eExt at hh
    cases e0 : ownAt z i with
    | none => simp only [e0] at hh; exact hh.elim
    | some ys =>
      simp only [e0] at hh
      obtain ⟨a, vs, hσ, ha, _⟩ := ok.at e0
      refine ⟨.ref a, hσ, tyV_own ha, ?_⟩
      refine cmp_opd c G σ H F z _ hGK hx ok (hit_bind hh fun s z1 v H1 F1 _ sm ok1 ev h1 => ?_)
      cases e1 : ownAt z1 i with
      | none => simp only [e1] at h1; exact h1.elim
      | some xs =>
        cases e2 : rd z1 s with
        | none => simp only [e1, e2] at h1; exact h1.elim
        | some y =>
          cases y with
          | lst zs =>
            simp only [e1, e2] at h1
            by_cases hl : xs.length + zs.length ≤ lim
            · rw [if_pos hl] at h1
              obtain ⟨b, ws, hσ1, hb, hdw⟩ := ok1.at e1
              rw [hσ] at hσ1
              cases hσ1
              obtain ⟨c2, us, rfl, hc2, hdu⟩ := (EO.rv ok1 ev e2).lst ok1.sub
              refine ⟨a, c2, ws, us, rfl, rfl, hb, hc2, by rw [hdw.length, hdu.length]; exact Nat.le_trans hl (Nat.le_of_lt lim_line), ?_⟩
              exact h1 .non _ F1 (Same.refl _) (ok1.setL (ownAt_some e1) hσ (hdw.append hdu)) Da.non
            · rw [if_neg hl] at h1; exact h1.elim
          | _ => simp only [e1, e2] at h1; exact h1.elim
theorem de_pop {i : Nat} {x : Str} {pn apos cpos : Pos} (hK : ∀ j, (X j).K = K) (hN : ∀ j, (X j).N[i]? = some x) (hv : ∀ j, Vis (X j).env.scope x) (hd : (x == ("__debug__" : Str)) = false) (hcd : (x == ("__classdict__" : Str)) = false)
    (hbase : ∀ j, attributeBase (.Name x pn) "pop" (X j).env (eval (.Name x pn) (X j).env) = eval (.Name x pn) (X j).env := by intro _; rfl) (hline : (apos.endLine == cpos.line) = true := by rfl) :
    DE M xr K X W (.Call (.Attribute (.Name x pn) "pop" apos) [] [] cpos) (ePop i) := by
  refine ⟨tBM0 K "list" rPop (tVar i), fun j => ?_, fun G σ H F z Q hGK hx ok hh => ?_⟩
  · rw [← hK j]
    exact pe_bm0 PySem.F.plainAttrs_list PySem.F.slot_list_pop PySem.F.type_list_pop mt_pop (pe_var (hN j) (hv j) hd hcd) (hbase j) hline
  · unfold ePop at hh
    cases e0 : ownAt z i with
    | none => simp only [e0] at hh; exact hh.elim
    | some xs =>
      simp only [e0] at hh
      obtain ⟨a, vs, hσ, ha, hda⟩ := ok.at e0
      cases e1 : xs[xs.length - 1]? with
      | none => simp only [e1] at hh; exact hh.elim
      | some y =>
        simp only [e1] at hh
        obtain ⟨v, hv1, hv2⟩ := hda.get e1
        refine ⟨.ref a, hσ, tyV_own ha, a, vs, v, rfl, rfl, ha, by rw [hda.length]; exact hv1, ?_⟩
        exact hh v _ F (Same.refl _) (ok.setL (ownAt_some e0) hσ hda.dropLast) hv2

/-! ### calls of the text's own defs -/
def AV (K : PySem.W.Frag) (F : Hp) (ms : List Addr) (v : V) : S → Prop
  | .d x => Da K F v x
  | .m j => ∃ a, ms[j]? = some a ∧ v = .ref a
  | _ => False
structure RetC (M : MI) (K : PySem.W.Frag) (ms : List Addr) (H F H' F' : Hp) (t : M.T) : Prop where
  sub : Same F' H'
  mach : M.ok K F' H' ms t
  msx : ∀ a ∈ ms, F' a = none ∧ H' a ≠ none
  fr : ∀ b o, H b = some o → b ∉ ms → H' b = some o ∧ F' b = F b
def RetV (K : PySem.W.Frag) (ms : List Addr) (H H' F' : Hp) (v : V) : S → Prop
  | .d x => Da K F' v x
  | .l xs => ∃ a vs, v = .ref a ∧ H' a = some (.lst vs) ∧ DaAll K F' vs xs ∧ F' a = none ∧ H a = none ∧ a ∉ ms
  | .m j => ∃ a, ms[j]? = some a ∧ v = .ref a
  | .v _ => False
def spM (M : MI) (K : PySem.W.Frag) (xr : Str → Option Value) (n : Nat) (mir : List S → M.T → Rs S M.T) : Sp := fun vs H Q E => vs.length = n ∧ ∃ (ms : List Addr) (F : Hp) (args : List S) (t : M.T), Same F H ∧ M.ok K F H ms t ∧ (∀ a ∈ ms, F a = none ∧ H a ≠ none) ∧ Paired (AV K F ms) vs args ∧
  match mir args t with
  | .ok s t' => ∀ v H' F', Same F F' → RetC M K ms H F H' F' t' → RetV K ms H H' F' v s → Q v H'
  | .ex x t' => ∀ cls d H' F', Same F F' → RetC M K ms H F H' F' t' → XOk ⟨K, xr, ms, H, F⟩ F' H' x cls d → E cls d H'
  | .bad => False
def okArg : S → Bool
  | .d _ => true
  | .m _ => true
  | _ => false
def eCall (c : List S → M.T → Rs S M.T) (g : Sm M (List S)) : Sm M S := fun z => (g z).bind fun ss z1 => if ss.all okArg = true then (match c ss z1.m with
  | .ok s t => .ok s { z1 with m := t }
  | .ex x t => .ex x { z1 with m := t }
  | .bad => .bad) else .bad
theorem paired_av {G : Gx} {σ : St} {F : Hp} : ∀ {vs : List V} {ss : List S}, Paired (fun v s => EO G σ F v s) vs ss → ss.all okArg = true → Paired (AV G.K F G.ms) vs ss
  | _, _, .nil, _ => .nil
  | _, s :: ss, .cons a b, h => by
    rw [List.all_cons, Bool.and_eq_true] at h
    refine .cons ?_ (paired_av b h.2)
    cases s with
    | d x => exact a
    | m j => exact a
    | l _ => cases h.1
    | v _ => cases h.1
theorem Ok.call {G : Gx} {σ : St} {H H' F F' : Hp} {z : Z M.T} {t : M.T} (ok : Ok M G σ H F z) (sm : Same F F') (r : RetC M G.K G.ms H F H' F' t) : Ok M G σ H' F' { z with m := t } where
  sub := r.sub
  len := ok.len
  slot := fun i s e => by
    obtain ⟨v, h1, h2⟩ := ok.slot i s e
    refine ⟨v, h1, ?_⟩
    cases s with
    | d x => exact Da.mono sm h2
    | l xs =>
      obtain ⟨a, vs, rfl, h3, h4, h5, h6, h7⟩ := h2
      obtain ⟨q1, q2⟩ := r.fr a _ h3 h7
      exact ⟨a, vs, rfl, q1, h4.mono sm, q2.trans h5, h6, h7⟩
    | v _ => exact h2
    | m j => exact h2
  dist := ok.dist
  mach := r.mach
  msF := fun a ha => (r.msx a ha).1
  msP := ok.msP
  msH := fun a ha => (r.msx a ha).2
  fr := fun b o q => by
    obtain ⟨h1, h2⟩ := ok.fr b o q
    have n : b ∉ G.ms := fun hb => by rw [ok.msP b hb] at q; cases q
    obtain ⟨h3, h4⟩ := r.fr b o h1 n
    exact ⟨h3, h4.trans h2⟩
theorem cmp_call {n : Nat} {t : TA} {g : Sm M (List S)} {c : List S → M.T → Rs S M.T} (cg : Cmp M K xr W t RelA g) (hn : ∀ z ss z1, g z = .ok ss z1 → ss.length = n) : Cmp M K xr W (tCallS (spM M K xr n c) (WE W) t) RelE (eCall c g) := by
  intro G σ H F z Q hK hx ok hh
  refine cg G σ H F z _ hK hx ok (hit_bind hh fun ss z1 vs H1 F1 eg sm ok1 ea h1 => ?_)
  by_cases hd : ss.all okArg = true
  · rw [if_pos hd] at h1
    have hv := paired_av ea hd
    refine ⟨hv.length.trans (hn z ss z1 eg), G.ms, F1, ss, z1.m, ok1.sub, by rw [← hK]; exact ok1.mach, fun a ha => ⟨ok1.msF a ha, ok1.msH a ha⟩, by rw [← hK]; exact hv, ?_⟩
    subst hK hx
    cases e : c ss z1.m with
    | bad => rw [e] at h1; exact h1
    | ex x t' =>
      rw [e] at h1
      exact fun cls d H' F' s' r xo => h1 cls d H' F' s' (ok1.call s' r) xo
    | ok s t' =>
      rw [e] at h1
      intro v H' F' s' r rv
      refine h1 v H' F' s' (ok1.call s' r) ?_
      cases s with
      | d x => exact rv
      | m j => exact rv
      | v _ => exact rv.elim
      | l xs =>
        obtain ⟨a, us, rfl, q1, q2, q3, q4, q5⟩ := rv
        have hP : G.P a = none := ok1.freshP q4
        refine ⟨a, us, rfl, q1, q2, q3, hP, q5, fun ⟨i, ys, o1, o2⟩ => ?_⟩
        exact ok1.freshO q4 ⟨i, ys, o1, o2⟩
  · rw [if_neg hd] at h1; exact h1.elim
theorem len_nil {z : Z M.T} {ss : List S} {z1 : Z M.T} (h : (aNil : Sm M (List S)) z = .ok ss z1) : ss.length = 0 := by
  cases h
  rfl
theorem len_cons {f : Sm M S} {g : Sm M (List S)} {n : Nat} (hg : ∀ z ss z1, g z = .ok ss z1 → ss.length = n) : ∀ z ss z1, aCons f g z = .ok ss z1 → ss.length = n + 1 := fun z ss z1 h => by
  unfold aCons at h
  cases e : f z with
  | bad => rw [e] at h; cases h
  | ex x zz => rw [e] at h; cases h
  | ok s z2 =>
    rw [e] at h
    simp only [Rs.bind_ok] at h
    cases e2 : g z2 with
    | bad => rw [e2] at h; cases h
    | ex x zz => rw [e2] at h; cases h
    | ok ss' z3 =>
      rw [e2] at h
      cases h
      rw [List.length_cons, hg z2 ss' _ e2]
theorem pe_callF {X : Cx} {CX : CXT} {n : Nat} {f : Addr} {fd : FuncData} {ps : List Str} {sp : Sp} {E : St → XK} {x : Str} {p pos : Pos} {e : Expr} {es : List Expr} {t : TA} (F : FnG X.prog X.w X.K X.mg X.base CX n f fd ps sp) (hr : Room n X.A) (hgu : X.A.guards = some []) (hg : Gl X x) (hm : X.mg x = some (.ref f)) (hk : PySem.W.keepIn X.K (.ref f) = true) (hb : Binds X.K fd ps []) (hx : ∀ σ, PassesAt CX X σ (E σ)) (ha : PA X (e :: es) t)
    (hdb : (x == ("__debug__" : Str)) = false) (he : starEach (e :: es) X.env = (false, eval e X.env) :: starEach es X.env) (hpl : (backTo pos (starEach es X.env)).any (·.1) = false) : PE X (.Call (.Name x p) (e :: es) [] pos) (tCallS sp E t) := by
  have q := pe_callG (p := p) F hr hgu hg hm hk hb .nil hx ha hdb he hpl
  simp only [List.append_nil] at q
  exact q
theorem de_call {CX : CXT} {n k : Nat} {x : Str} {f : Addr} {fd : FuncData} {ps : List Str} {e : Expr} {es : List Expr} {g : Sm M (List S)} {c : List S → M.T → Rs S M.T} {p pos : Pos} (hF : ∀ j, FnG (X j).prog (X j).w (X j).K (X j).mg (X j).base CX k f fd ps (spM M K xr n c)) (hr : ∀ j, Room k (X j).A) (hgu : ∀ j, (X j).A.guards = some []) (hg : ∀ j, Gl (X j) x)
    (hm : ∀ j, (X j).mg x = some (.ref f)) (hk : ∀ j, PySem.W.keepIn (X j).K (.ref f) = true) (hb : ∀ j, Binds (X j).K fd ps []) (hx : ∀ j σ, PassesAt CX (X j) σ (WE W σ)) (ha : DA M xr K X W (e :: es) g) (hn : ∀ z ss z1, g z = .ok ss z1 → ss.length = n)
    (hdb : (x == ("__debug__" : Str)) = false := by decide) (he : ∀ j, starEach (e :: es) (X j).env = (false, eval e (X j).env) :: starEach es (X j).env := by intro _; rfl) (hpl : ∀ j, (backTo pos (starEach es (X j).env)).any (·.1) = false := by intro _; rfl) :
    DE M xr K X W (.Call (.Name x p) (e :: es) [] pos) (eCall c g) := by
  obtain ⟨t, pa, ca⟩ := ha
  exact ⟨_, fun j => pe_callF (hF j) (hr j) (hgu j) (hg j) (hm j) (hk j) (hb j) (hx j) (pa j) hdb (he j) (hpl j), cmp_call ca hn⟩
/-- defaults that fill up -/
def aDef (dd : List D) (g : Sm M (List S)) : Sm M (List S) := fun z => (g z).bind fun ss z1 => .ok (ss ++ dd.map S.d) z1
theorem paired_app {α β : Type} {R : α → β → Prop} : ∀ {as as' : List α} {bs bs' : List β}, Paired R as bs → Paired R as' bs' → Paired R (as ++ as') (bs ++ bs')
  | _, _, _, _, .nil, h => h
  | _, _, _, _, .cons r t, h => .cons r (paired_app t h)
theorem paired_dfl {G : Gx} {σ : St} {F : Hp} {v : V} {d : D} (h : Da G.K F v d) : Paired (fun v s => EO G σ F v s) [v] [S.d d] := .cons h .nil
theorem de_callD {CX : CXT} {n k : Nat} {x : Str} {f : Addr} {fd : FuncData} {ps : List Str} {e : Expr} {es : List Expr} {g : Sm M (List S)} {c : List S → M.T → Rs S M.T} {p pos : Pos} {dv : V} {dd : D} {ds : List Value} (hdd : ∀ F, Da K F dv dd) (hds : Vals [dv] ds) (hF : ∀ j, FnG (X j).prog (X j).w (X j).K (X j).mg (X j).base CX k f fd ps (spM M K xr n c)) (hr : ∀ j, Room k (X j).A) (hgu : ∀ j, (X j).A.guards = some []) (hg : ∀ j, Gl (X j) x)
    (hm : ∀ j, (X j).mg x = some (.ref f)) (hk : ∀ j, PySem.W.keepIn (X j).K (.ref f) = true) (hb : ∀ j, Binds (X j).K fd ps ds) (hx : ∀ j σ, PassesAt CX (X j) σ (WE W σ)) (ha : DA M xr K X W (e :: es) g) (hn : ∀ z ss z1, g z = .ok ss z1 → ss.length + 1 = n)
    (hdb : (x == ("__debug__" : Str)) = false := by decide) (he : ∀ j, starEach (e :: es) (X j).env = (false, eval e (X j).env) :: starEach es (X j).env := by intro _; rfl) (hpl : ∀ j, (backTo pos (starEach es (X j).env)).any (·.1) = false := by intro _; rfl) :
    DE M xr K X W (.Call (.Name x p) (e :: es) [] pos) (eCall c (aDef [dd] g)) := by
  obtain ⟨t, pa, ca⟩ := ha
  have cd : Cmp M K xr W (fun σ H Q => t σ H fun ws H1 => Q (ws ++ [dv]) H1) RelA (aDef [dd] g) := by
    intro G σ H F z Q hK hx ok hh
    refine ca G σ H F z _ hK hx ok (hit_bind hh fun ss z1 vs H1 F1 eg sm ok1 ea h1 => ?_)
    exact h1 _ H1 F1 (Same.refl _) ok1 (paired_app ea (paired_dfl (by rw [hK]; exact hdd F1)))
  refine ⟨_, fun j => pe_callG (E := WE W) (hF j) (hr j) (hgu j) (hg j) (hm j) (hk j) (hb j) hds (hx j) (pa j) hdb (he j) (hpl j), cmp_call cd (fun z ss z1 h => ?_)⟩
  unfold aDef at h
  cases eg : g z with
  | ok a z2 =>
    rw [eg] at h
    cases h
    rw [List.length_append, ← hn z a _ eg]
    rfl
  | ex _ _ => rw [eg] at h; cases h
  | bad => rw [eg] at h; cases h
theorem de_call0 {CX : CXT} {k : Nat} {x : Str} {f : Addr} {fd : FuncData} {ps : List Str} {c : List S → M.T → Rs S M.T} {p pos : Pos} (hF : ∀ j, FnG (X j).prog (X j).w (X j).K (X j).mg (X j).base CX k f fd ps (spM M K xr 0 c)) (hr : ∀ j, Room k (X j).A) (hgu : ∀ j, (X j).A.guards = some []) (hg : ∀ j, Gl (X j) x)
    (hm : ∀ j, (X j).mg x = some (.ref f)) (hk : ∀ j, PySem.W.keepIn (X j).K (.ref f) = true) (hb : ∀ j, Binds (X j).K fd ps []) (hx : ∀ j σ, PassesAt CX (X j) σ (WE W σ))
    (hdb : (x == ("__debug__" : Str)) = false := by decide) :
    DE M xr K X W (.Call (.Name x p) [] [] pos) (eCall c aNil) := by
  refine ⟨tCallS (spM M K xr 0 c) (WE W) tNil, fun j => ?_, cmp_call (fun G σ H F z Q _ _ ok h => h [] H F (Same.refl _) ok .nil) (fun _ _ _ h => len_nil h)⟩
  exact pe_call0G (hF j) (hr j) (hgu j) (hg j) (hm j) (hk j) (hb j) .nil (hx j) hdb
end
/-! ### a def -/
def fnM {M : MI} (n : Nat) (b : Sm M Out) : List S → M.T → Rs S M.T := fun args t => match b { rho := args.map some ++ List.replicate (n - args.length) none, m := t } with
  | .ok (.rt s) z => .ok s z.m
  | .ok .nx z => .ok (.d .non) z.m
  | .ok _ _ => .bad
  | .ex x z => .ex x z.m
  | .bad => .bad
theorem paired_get {α β : Type} {R : α → β → Prop} : ∀ {as : List α} {bs : List β} {i : Nat} {b : β}, Paired R as bs → bs[i]? = some b → ∃ a, as[i]? = some a ∧ R a b
  | _, _, _, _, .nil, e => by simp at e
  | _, _, 0, _, .cons r _, e => by simp at e; subst e; exact ⟨_, rfl, r⟩
  | _, _, i + 1, _, .cons _ t, e => by
    obtain ⟨a, h1, h2⟩ := paired_get (i := i) t (by simpa using e)
    exact ⟨a, by simpa using h1, h2⟩
theorem start_ok {M : MI} {K : PySem.W.Frag} {xr : Str → Option Value} {N : List Str} {vs : List V} {H F : Hp} {ms : List Addr} {args : List S} {t : M.T} (sub : Same F H) (mach : M.ok K F H ms t) (msx : ∀ a ∈ ms, F a = none ∧ H a ≠ none) (hv : Paired (AV K F ms) vs args) :
    Ok M ⟨K, xr, ms, fun b => if b ∈ ms then none else H b, F⟩ (L2.start N vs) H F { rho := args.map some ++ List.replicate (N.length - args.length) none, m := t } := by
  have hl : vs.length = args.length := hv.length
  have key : ∀ (i : Nat) (s : S), (args.map some ++ List.replicate (N.length - args.length) none)[i]? = some (some s) → args[i]? = some s := fun i s e => by
    by_cases h : i < args.length
    · rw [List.getElem?_append_left (by simpa using h), List.getElem?_map] at e
      cases q : args[i]? with
      | none => rw [q] at e; cases e
      | some s' => rw [q] at e; cases e; rfl
    · rw [List.getElem?_append_right (by simpa using h), List.getElem?_replicate] at e
      split at e
      · cases e
      · cases e
  refine ⟨sub, ?_, fun i s e => ?_, fun i j xs ys v e1 _ _ _ => ?_, mach, fun a ha => (msx a ha).1, fun a ha => if_pos ha, fun a ha => (msx a ha).2, fun b o q => ?_⟩
  · unfold L2.start
    simp [hl]
  · obtain ⟨v, h1, h2⟩ := paired_get hv (key i s e)
    refine ⟨v, ?_, ?_⟩
    · unfold L2.start
      have hi : i < vs.length := (List.getElem?_eq_some_iff.mp h1).1
      rw [List.getElem?_append_left (by simpa using hi), List.getElem?_map, h1]
      rfl
    · cases s with
      | d x => exact h2
      | l xs => exact h2.elim
      | v _ => exact h2.elim
      | m j => exact h2
  · obtain ⟨v, h1, h2⟩ := paired_get hv (key i _ e1)
    exact h2.elim
  · have q' : (if b ∈ ms then none else H b) = some o := q
    by_cases h : b ∈ ms
    · rw [if_pos h] at q'; cases q'
    · rw [if_neg h] at q'
      exact ⟨q', rfl⟩
theorem fr_out {M : MI} {K : PySem.W.Frag} {xr : Str → Option Value} {ms : List Addr} {H F H' F' : Hp} (h : ∀ b o, (⟨K, xr, ms, fun b => if b ∈ ms then none else H b, F⟩ : Gx).P b = some o → H' b = some o ∧ F' b = F b) : ∀ b o, H b = some o → b ∉ ms → H' b = some o ∧ F' b = F b := fun b o q n => h b o (by show (if b ∈ ms then none else H b) = some o; rw [if_neg n]; exact q)
/-- THE RULE for a def: its body's mirror is its promise -/
theorem okM {M : MI} {P : Program} {w : World} {K : PySem.W.Frag} {mg : Str → Option Value} {base : Heap} {xr : Str → Option Value} {x qual : Str} {st : Stmt} {f : Addr} {fd : FuncData} {dvs : List V} {N ps : List Str} {k : Nat} {b : Sm M Out} (Fn : FunD K x qual (defArgs st) (defBody st) (defScope st) dvs [] f fd) (Sc : FnScope N ps (defScope st))
    (hb : ∀ (cdv : Value) (A : Around) (outer : List Env) (s : Shared) (H : Hp) (E : XK), Room k (A.deeper (PyProof.Rows.envOfC qual (defScope st) s.heap.objs.size f cdv)) → A.guards = some [] →
      DSs M xr K (fun _ : Unit => cxOf (L2.CX P w) P w K mg base N qual (defScope st) f cdv A outer s H E) (fun cls d _ H => E cls d H) (defBody st) b) :
    FnG P w K mg base (L2.CX P w) (k + 1) f fd ps (spM M K xr ps.length (fnM N.length b)) := by
  obtain ⟨oc, od, dV, kV, doc, pm, an, cdv, ct, osl, rfl, lk, hcd, _, _⟩ := Fn.ex
  refine fnG lk hcd Sc (fun vs H Q E h => h.1) (fun A outer s H vs Q E hr hgu h => ?_)
  obtain ⟨hl, ms, F, args, t, sub, mach, msx, hv, h⟩ := h
  obtain ⟨tb, p, c⟩ := hb cdv A outer s H E hr hgu
  refine ⟨tb, p (), ?_⟩
  have ok := start_ok (xr := xr) (N := N) sub mach msx hv
  refine c _ _ H F _ _ rfl rfl ok ?_
  unfold fnM at h
  cases e : b { rho := args.map some ++ List.replicate (N.length - args.length) none, m := t } with
  | bad => rw [e] at h; exact h
  | ex x z =>
    rw [e] at h
    exact fun cls d σ H' F' s' ok' xo => h cls d H' F' s' ⟨ok'.sub, ok'.mach, fun a ha => ⟨ok'.msF a ha, ok'.msH a ha⟩, fr_out (M := M) ok'.fr⟩ xo
  | ok o z =>
    rw [e] at h
    cases o with
    | bk => exact h.elim
    | ct => exact h.elim
    | nx => exact fun σ H' F' s' ok' => h .non H' F' s' ⟨ok'.sub, ok'.mach, fun a ha => ⟨ok'.msF a ha, ok'.msH a ha⟩, fr_out (M := M) ok'.fr⟩ Da.non
    | rt q =>
      intro v H' F' s' r
      refine h v H' F' s' ⟨r.sub, r.mach, fun a ha => ⟨r.msF a ha, r.msH a ha⟩, fr_out (M := M) r.fr⟩ ?_
      have val := r.val
      cases q with
      | d x => exact val
      | m j => exact val
      | v _ => exact val.elim
      | l xs =>
        obtain ⟨a, vs', rfl, q1, q2, q3, q4, q5⟩ := val
        have q4' : (if a ∈ ms then none else H a) = none := q4
        have q5' : a ∉ ms := q5
        rw [if_neg q5'] at q4'
        exact ⟨a, vs', rfl, q1, q2, q3, q4', q5'⟩
end G
namespace G
open PySem L2
/-! ### what is read -/
section
variable {K : PySem.W.Frag} {F H : Hp} {v : V}
theorem Rv.da {x : D} (h : Rv K F H v x) (hn : ∀ xs, x ≠ .lst xs) : Da K F v x := by
  rcases h with h | ⟨a, vs, xs, _, e, _⟩
  · exact h
  · exact (hn xs e).elim
theorem Rv.int {i : Int} (h : Rv K F H v (.int i)) : v = .int i := by cases h.da (fun _ e => by cases e); rfl
theorem Rv.str {i : Str} (h : Rv K F H v (.str i)) : v = .str i := by cases h.da (fun _ e => by cases e); rfl
theorem Rv.bl {i : Bool} (h : Rv K F H v (.bl i)) : v = .bl i := by cases h.da (fun _ e => by cases e); rfl
theorem Rv.non (h : Rv K F H v .non) : v = .non := by cases h.da (fun _ e => by cases e); rfl
theorem Rv.tup (s : Same F H) {xs : List D} (h : Rv K F H v (.tup xs)) : ∃ a vs, v = .ref a ∧ SqT K H a vs ∧ DaAll K F vs xs := by
  cases h.da (fun _ e => by cases e) with
  | tup q r => exact ⟨_, _, rfl, sqT_mono s q, r⟩
theorem Rv.scr (s : Same F H) {ns : List Int} (h : Rv K F H v (.scr ns)) : ∃ a, v = .ref a ∧ SqL K H a (ns.map V.int) := by
  cases h.da (fun _ e => by cases e) with
  | scr q => exact ⟨_, rfl, s.seq q⟩
theorem Rv.emp (s : Same F H) (h : Rv K F H v .emp) : ∃ a, v = .ref a ∧ H a = some (.dK []) := by
  cases h.da (fun _ e => by cases e) with
  | emp q => exact ⟨_, rfl, s _ _ q⟩
end
/-! ### ints -/
def dI (C : Int → Int → Bool) (g : Int → Int → D) : D → D → Option R := fun a b => match a, b with
  | .int i, .int j => if C i j = true then some (.d (g i j)) else none
  | _, _ => none
theorem op2_I {K : PySem.W.Frag} {Cp : Int → Int → Prop} {C : Int → Int → Bool} {g : Int → Int → V} {g' : Int → Int → D} (hC : ∀ i j, C i j = true → Cp i j) (hg : ∀ F i j, Da K F (g i j) (g' i j)) : Op2 K (rI Cp g) (dI C g') := by
  intro F H x y a b Q s ha hb h
  cases a with
  | int i =>
    cases b with
    | int j =>
      unfold dI at h
      by_cases hc : C i j = true
      · simp only [if_pos hc] at h
        exact ⟨i, j, ha.int, hb.int, hC i j hc, h _ (hg F i j)⟩
      · simp only [if_neg hc] at h
        exact h.elim
    | _ => exact h.elim
  | _ => exact h.elim
theorem op2_I0 {K : PySem.W.Frag} {g : Int → Int → V} {g' : Int → Int → D} (hg : ∀ F i j, Da K F (g i j) (g' i j)) : Op2 K (rI0 g) (dI (fun _ _ => true) g') := by
  intro F H x y a b Q s ha hb h
  cases a with
  | int i =>
    cases b with
    | int j => exact ⟨i, j, ha.int, hb.int, h _ (hg F i j)⟩
    | _ => exact h.elim
  | _ => exact h.elim
def dSub := dI (fun _ _ => true) fun i j => .int (i - j)
def dMul := dI (fun i j => decide ((-(2 ^ 64) < i ∧ i < 2 ^ 64) ∨ (-(2 ^ 64) < j ∧ j < 2 ^ 64))) fun i j => .int (i * j)
def dFdiv := dI (fun _ j => decide (0 < j ∧ j < 1073741824)) fun i j => .int (i / j)
def dMod := dI (fun _ j => decide (0 < j)) fun i j => .int (i % j)
def dPow := dI (fun i j => decide (0 ≤ j ∧ j ≤ 1000000 ∧ i.natAbs < 2 ^ 64)) fun i j => .int (i ^ j.toNat)
def dShl := dI (fun i j => decide (0 ≤ j ∧ j ≤ 1000000 ∧ i.natAbs < 2 ^ 64)) fun i j => .int (i * 2 ^ j.toNat)
def dShr := dI (fun _ j => decide (0 ≤ j)) fun i j => .int (i / 2 ^ j.toNat)
def dLt := dI (fun _ _ => true) fun i j => .bl (decide (i < j))
def dLe := dI (fun _ _ => true) fun i j => .bl (decide (i ≤ j))
def dGt := dI (fun _ _ => true) fun i j => .bl (decide (j < i))
def dGe := dI (fun _ _ => true) fun i j => .bl (decide (j ≤ i))
def dNeg : D → Option R := fun a => match a with
  | .int i => some (.d (.int (-i)))
  | _ => none
/-! ### + -/
def dAdd : D → D → Option R := fun a b => match a, b with
  | .int i, .int j => some (.d (.int (i + j)))
  | .str x, .str y => if x.length + y.length ≤ lim then some (.d (.str (x ++ y))) else none
  | .lst xs, .lst ys => if xs.length + ys.length ≤ lim then some (.l (xs ++ ys)) else none
  | .tup xs, .tup ys => if xs.length + ys.length ≤ lim then some (.t (xs ++ ys)) else none
  | _, _ => none
theorem limLe {n : Nat} (h : n ≤ lim) : n ≤ sizeLine := Nat.le_trans h (Nat.le_of_lt lim_line)
def rAddAll (K : PySem.W.Frag) : R2 := fun x y H Q => (rI0 fun i j => .int (i + j)) x y H Q ∨ (∃ i j, x = .str i ∧ y = .str j ∧ i.length + j.length ≤ sizeLine ∧ Q (.str (i ++ j)) H) ∨ rCat x y H Q ∨ rCatA K x y H Q
theorem opAdd {X : Cx} : OpR X (binaryOp .Add) (rAddAll X.K) := op_add.or (op_add_str.or (op_cat.or op_catA))
theorem op2_add {K : PySem.W.Frag} : Op2 K (rAddAll K) dAdd := by
  intro F H x y a b Q s ha hb h
  unfold dAdd at h
  split at h
  · exact .inl ⟨_, _, ha.int, hb.int, h _ (.int _)⟩
  · rename_i i j
    by_cases hl : i.length + j.length ≤ lim
    · rw [if_pos hl] at h
      exact .inr (.inl ⟨_, _, ha.str, hb.str, limLe hl, h _ (.str _)⟩)
    · rw [if_neg hl] at h; exact h.elim
  · rename_i xs ys
    by_cases hl : xs.length + ys.length ≤ lim
    · rw [if_pos hl] at h
      obtain ⟨a, vs, rfl, h1, h2⟩ := ha.lst s
      obtain ⟨b, ws, rfl, h3, h4⟩ := hb.lst s
      exact .inr (.inr (.inl ⟨a, b, vs, ws, rfl, rfl, h1, h3, by rw [h2.length, h4.length]; exact limLe hl, fun p hp => h p _ hp (h2.append h4)⟩))
    · rw [if_neg hl] at h; exact h.elim
  · rename_i xs ys
    by_cases hl : xs.length + ys.length ≤ lim
    · rw [if_pos hl] at h
      obtain ⟨a, vs, rfl, h1, h2⟩ := ha.tup s
      obtain ⟨b, ws, rfl, h3, h4⟩ := hb.tup s
      refine .inr (.inr (.inr ⟨a, b, vs, ws, rfl, rfl, h1, h3, by rw [h2.length, h4.length]; exact limLe hl, fun e => ?_, fun _ e => ?_, fun _ _ p hp => h.2 p _ hp (h2.append h4)⟩))
      · subst e
        cases h2
        exact h.1 _ (hb.da (fun _ e => by cases e))
      · subst e
        cases h4
        rw [List.append_nil] at h
        exact h.1 _ (ha.da (fun _ e => by cases e))
    · rw [if_neg hl] at h; exact h.elim
  · exact h.elim
/-! ### ==, != -/
mutual
def toPy : D → PyData
  | .non => .none
  | .bl b => .bool b
  | .int i => .int i
  | .str x => .str x
  | .tup xs => .tuple (toPys xs)
  | .lst xs => .list (toPys xs)
  | .scr ns => .list (ns.map PyData.int)
  | .emp => .str ⟨#[4294967295]⟩
  | .exc _ _ => .str ⟨#[4294967295]⟩
def toPys : List D → List PyData
  | [] => []
  | x :: r => toPy x :: toPys r
end
theorem dp_ints {K : PySem.W.Frag} {H : Hp} : ∀ ns : List Int, DpAll K H (ns.map V.int) (ns.map PyData.int)
  | [] => .nil
  | n :: r => .cons (.int n) (dp_ints r)
mutual
def lay : D → Bool
  | .str x => PyData.strOk x
  | .tup xs => lays xs
  | .lst xs => lays xs
  | .emp => false
  | .exc _ _ => false
  | _ => true
def lays : List D → Bool
  | [] => true
  | x :: r => lay x && lays r
end
mutual
theorem Da.dp {K : PySem.W.Frag} {F H : Hp} (s : Same F H) : ∀ {v : V} {d : D}, Da K F v d → lay d = true → Dp K H v (toPy d)
  | _, _, .non, _ => .non
  | _, _, .bl b, _ => .bl b
  | _, _, .int i, _ => .int i
  | _, _, .str x, _ => .str x
  | _, _, .tup q r, l => .tup (sqT_mono s q) (DaAll.dp s r (by rwa [lay] at l))
  | _, _, .lst q r, l => .lst (SqL.of (s _ _ q)) (DaAll.dp s r (by rwa [lay] at l))
  | _, _, .scr q, _ => .lst (s.seq q) (dp_ints _)
  | _, _, .emp q, l => by rw [lay] at l; cases l
  | _, _, .exc _ _, l => by rw [lay] at l; cases l
theorem DaAll.dp {K : PySem.W.Frag} {F H : Hp} (s : Same F H) : ∀ {vs : List V} {ds : List D}, DaAll K F vs ds → lays ds = true → DpAll K H vs (toPys ds)
  | _, _, .nil, _ => .nil
  | _, _, .cons a b, l => by
    rw [lays, Bool.and_eq_true] at l
    exact .cons (Da.dp s a l.1) (DaAll.dp s b l.2)
end
theorem Rv.dp {K : PySem.W.Frag} {F H : Hp} (s : Same F H) {v : V} {d : D} (h : Rv K F H v d) (l : lay d = true) : Dp K H v (toPy d) := by
  rcases h with h | ⟨a, vs, xs, rfl, rfl, h1, h2⟩
  · exact h.dp s l
  · exact .lst (SqL.of h1) (h2.dp s (by rwa [lay] at l))
mutual
def dep : D → Nat
  | .tup xs => deps xs + 1
  | .lst xs => deps xs + 1
  | .scr _ => 1
  | _ => 0
def deps : List D → Nat
  | [] => 0
  | x :: r => max (dep x) (deps r)
end
theorem lay_ints : ∀ ns : List Int, PyData.canLayAll0 (ns.map PyData.int) = true
  | [] => rfl
  | n :: r => by rw [List.map_cons, PyData.canLayAll0, lay_ints r, PyData.canLay0]; rfl
theorem dep_ints : ∀ ns : List Int, PyData.depthAll (ns.map PyData.int) = 0
  | [] => rfl
  | n :: r => by rw [List.map_cons, PyData.depthAll, dep_ints r, PyData.depth]; rfl
mutual
theorem canLay_toPy : ∀ d : D, (toPy d).canLay0 = lay d
  | .non => by simp [toPy, lay, PyData.canLay0]
  | .bl _ => by simp [toPy, lay, PyData.canLay0]
  | .int _ => by simp [toPy, lay, PyData.canLay0]
  | .str _ => by simp [toPy, lay, PyData.canLay0]
  | .tup xs => by rw [toPy, lay, PyData.canLay0, canLays_toPy xs]
  | .lst xs => by rw [toPy, lay, PyData.canLay0, canLays_toPy xs]
  | .scr ns => by rw [toPy, lay, PyData.canLay0, lay_ints]; all_goals (intros; simp_all)
  | .emp => by rw [toPy, lay, PyData.canLay0]; decide +kernel
  | .exc _ _ => by rw [toPy, lay, PyData.canLay0]; decide +kernel
theorem canLays_toPy : ∀ ds : List D, PyData.canLayAll0 (toPys ds) = lays ds
  | [] => by simp [toPys, lays, PyData.canLayAll0]
  | d :: r => by rw [toPys, lays, PyData.canLayAll0, canLay_toPy d, canLays_toPy r]
end
mutual
theorem depth_toPy : ∀ d : D, (toPy d).depth = dep d
  | .non => by simp [toPy, dep, PyData.depth]
  | .bl _ => by simp [toPy, dep, PyData.depth]
  | .int _ => by simp [toPy, dep, PyData.depth]
  | .str _ => by simp [toPy, dep, PyData.depth]
  | .tup xs => by rw [toPy, dep, PyData.depth, depths_toPy xs]
  | .lst xs => by rw [toPy, dep, PyData.depth, depths_toPy xs]
  | .scr ns => by rw [toPy, dep, PyData.depth, dep_ints]
  | .emp => by simp [toPy, dep, PyData.depth]
  | .exc _ _ => by simp [toPy, dep, PyData.depth]
theorem depths_toPy : ∀ ds : List D, PyData.depthAll (toPys ds) = deps ds
  | [] => by simp [toPys, deps, PyData.depthAll]
  | d :: r => by rw [toPys, deps, PyData.depthAll, depth_toPy d, depths_toPy r]
end
def eqD (a b : D) : Bool := PyData.eqv (toPy a) (toPy b)
def eqOk (a b : D) : Bool := lay a && (lay b && decide (min (dep a) (dep b) ≤ 300))
def dEq : D → D → Option R := fun a b => if eqOk a b = true then some (.d (.bl (eqD a b))) else none
def dNe : D → D → Option R := fun a b => if eqOk a b = true then some (.d (.bl (!eqD a b))) else none
def rEqW (K : PySem.W.Frag) : R2 := fun x y H Q => ∃ d e, Dp K H x d ∧ Dp K H y e ∧ d.canLay0 = true ∧ e.canLay0 = true ∧ min d.depth e.depth ≤ 300 ∧ Q (.bl (PyData.eqv d e)) H
def rNeW (K : PySem.W.Frag) : R2 := fun x y H Q => ∃ d e, Dp K H x d ∧ Dp K H y e ∧ d.canLay0 = true ∧ e.canLay0 = true ∧ min d.depth e.depth ≤ 300 ∧ Q (.bl (!PyData.eqv d e)) H
theorem op_eqW {X : Cx} (hu : X.A.units + 300 < cLine) : OpR X (compareOp .Eq) (rEqW X.K) := by
  intro pins s σ H x y v u Q I rx ry h
  obtain ⟨d, e, hd, he, sd, se, hm, q⟩ := h
  obtain ⟨as, r1⟩ := Dp.reads I d x v hd rx
  obtain ⟨bs, r2⟩ := Dp.reads I e y u he ry
  exact SeqAt.compareEq_reads r1 r2 sd se (by omega) ⟨.bl _, H, I, rfl, q⟩
theorem op_neW {X : Cx} (hu : X.A.units + 300 < cLine) : OpR X (compareOp .NotEq) (rNeW X.K) := by
  intro pins s σ H x y v u Q I rx ry h
  obtain ⟨d, e, hd, he, sd, se, hm, q⟩ := h
  obtain ⟨as, r1⟩ := Dp.reads I d x v hd rx
  obtain ⟨bs, r2⟩ := Dp.reads I e y u he ry
  exact SeqAt.compareNe_reads r1 r2 sd se (by omega) ⟨.bl _, H, I, rfl, q⟩
theorem eqOk_of {a b : D} (h : eqOk a b = true) : (toPy a).canLay0 = true ∧ (toPy b).canLay0 = true ∧ min (toPy a).depth (toPy b).depth ≤ 300 := by
  unfold eqOk at h
  rw [Bool.and_eq_true, Bool.and_eq_true] at h
  rw [canLay_toPy, canLay_toPy, depth_toPy, depth_toPy]
  exact ⟨h.1, h.2.1, of_decide_eq_true h.2.2⟩
theorem op2_eq {K : PySem.W.Frag} : Op2 K (rEqW K) dEq := by
  intro F H x y a b Q s ha hb h
  unfold dEq at h
  by_cases hs : eqOk a b = true
  · rw [if_pos hs] at h
    obtain ⟨q1, q2, q3⟩ := eqOk_of hs
    exact ⟨_, _, ha.dp s (by rw [← canLay_toPy]; exact q1), hb.dp s (by rw [← canLay_toPy]; exact q2), q1, q2, q3, h _ (.bl _)⟩
  · rw [if_neg hs] at h; exact h.elim
theorem op2_ne {K : PySem.W.Frag} : Op2 K (rNeW K) dNe := by
  intro F H x y a b Q s ha hb h
  unfold dNe at h
  by_cases hs : eqOk a b = true
  · rw [if_pos hs] at h
    obtain ⟨q1, q2, q3⟩ := eqOk_of hs
    exact ⟨_, _, ha.dp s (by rw [← canLay_toPy]; exact q1), hb.dp s (by rw [← canLay_toPy]; exact q2), q1, q2, q3, h _ (.bl _)⟩
  · rw [if_neg hs] at h; exact h.elim
/-! ### is -/
def dIs : D → D → Option R := fun a b => match a, b with
  | .non, .non => some (.d (.bl true))
  | _, .non => some (.d (.bl false))
  | .bl x, .bl y => some (.d (.bl (decide (x = y))))
  | _, _ => none
def dIsNot : D → D → Option R := fun a b => match a, b with
  | .non, .non => some (.d (.bl false))
  | _, .non => some (.d (.bl true))
  | .bl x, .bl y => some (.d (.bl (!decide (x = y))))
  | _, _ => none
def rIsAll : R2 := fun x y H Q => (y = .non ∧ Q (.bl (decide (x = .non))) H) ∨ (∃ a b, x = .bl a ∧ y = .bl b ∧ Q (.bl (decide (a = b))) H)
def rIsNotAll : R2 := fun x y H Q => (y = .non ∧ Q (.bl (!decide (x = .non))) H) ∨ (∃ a b, x = .bl a ∧ y = .bl b ∧ Q (.bl (!decide (a = b))) H)
theorem opIs {X : Cx} : OpR X (compareOp .Is) rIsAll := op_isN.or op_is_bl
theorem opIsNot {X : Cx} : OpR X (compareOp .IsNot) rIsNotAll := op_notN.or op_isnot_bl
theorem Rv.notNon {K : PySem.W.Frag} {F H : Hp} {v : V} {d : D} (h : Rv K F H v d) (hd : d ≠ .non) : v ≠ .non := by
  rcases h with h | ⟨a, vs, xs, rfl, _, _, _⟩
  · cases h with
    | non => exact (hd rfl).elim
    | bl _ => intro e; cases e
    | int _ => intro e; cases e
    | str _ => intro e; cases e
    | tup _ _ => intro e; cases e
    | lst _ _ => intro e; cases e
    | scr _ => intro e; cases e
    | emp _ => intro e; cases e
    | exc _ _ => intro e; cases e
  · intro e; cases e
theorem op2_is {K : PySem.W.Frag} : Op2 K rIsAll dIs := by
  intro F H x y a b Q s ha hb h
  unfold dIs at h
  split at h
  · refine .inl ⟨hb.non, ?_⟩
    rw [ha.non]
    exact h _ (.bl true)
  · rename_i hn
    refine .inl ⟨hb.non, ?_⟩
    rw [decide_eq_false (ha.notNon hn)]
    exact h _ (.bl false)
  · exact .inr ⟨_, _, ha.bl, hb.bl, h _ (.bl _)⟩
  · exact h.elim
theorem op2_isNot {K : PySem.W.Frag} : Op2 K rIsNotAll dIsNot := by
  intro F H x y a b Q s ha hb h
  unfold dIsNot at h
  split at h
  · refine .inl ⟨hb.non, ?_⟩
    rw [ha.non]
    exact h _ (.bl false)
  · rename_i hn
    refine .inl ⟨hb.non, ?_⟩
    rw [decide_eq_false (ha.notNon hn)]
    exact h _ (.bl true)
  · exact .inr ⟨_, _, ha.bl, hb.bl, h _ (.bl _)⟩
  · exact h.elim
/-! ### in, not in -/
def flatD : D → Bool
  | .non => true
  | .bl _ => true
  | .int _ => true
  | .str _ => true
  | _ => false
def eqF : D → D → Bool
  | .non, .non => true
  | .bl a, .bl b => a == b
  | .bl a, .int b => (if a then 1 else 0) == b
  | .int a, .bl b => a == (if b then 1 else 0)
  | .int a, .int b => a == b
  | .str a, .str b => a == b
  | _, _ => false
def inD (x : D) (xs : List D) : Bool := xs.any fun y => eqF y x
def dInB : D → D → Option Bool := fun a b => match b with
  | .tup xs => if flatD a = true ∧ xs.all flatD = true then some (inD a xs) else none
  | .lst xs => if flatD a = true ∧ xs.all flatD = true then some (inD a xs) else none
  | .str z => (match a with
    | .str c => if c.cps.size = 1 then some (decide (c.cps.getD 0 0 ∈ z.cps.toList)) else none
    | _ => none)
  | _ => none
def dIn : D → D → Option R := fun a b => (dInB a b).map fun k => .d (.bl k)
def dNotIn : D → D → Option R := fun a b => (dInB a b).map fun k => .d (.bl (!k))
theorem da_flat {K : PySem.W.Frag} {F : Hp} {v : V} {d : D} (h : Da K F v d) (hf : flatD d = true) : flatV v = true := by
  cases h with
  | non => rfl
  | bl _ => rfl
  | int _ => rfl
  | str _ => rfl
  | tup _ _ => cases hf
  | lst _ _ => cases hf
  | scr _ => cases hf
  | emp _ => cases hf
  | exc _ _ => cases hf
theorem da_eqF {K : PySem.W.Frag} {F : Hp} {v u : V} {d e : D} (h : Da K F v d) (h' : Da K F u e) (hf : flatD d = true) (hf' : flatD e = true) : eqV v u = eqF d e := by
  cases h with
  | non => cases h' <;> first | rfl | cases hf'
  | bl _ => cases h' <;> first | rfl | cases hf'
  | int _ => cases h' <;> first | rfl | cases hf'
  | str _ => cases h' <;> first | rfl | cases hf'
  | tup _ _ => cases hf
  | lst _ _ => cases hf
  | scr _ => cases hf
  | emp _ => cases hf
  | exc _ _ => cases hf
theorem daAll_flat {K : PySem.W.Frag} {F : Hp} : ∀ {vs : List V} {ds : List D}, DaAll K F vs ds → ds.all flatD = true → vs.all flatV = true
  | _, _, .nil, _ => rfl
  | _, _, .cons a b, h => by
    rw [List.all_cons, Bool.and_eq_true] at h
    rw [List.all_cons, da_flat a h.1, daAll_flat b h.2]
    rfl
theorem daAll_in {K : PySem.W.Frag} {F : Hp} {x : V} {d : D} (hx : Da K F x d) (hf : flatD d = true) : ∀ {vs : List V} {ds : List D}, DaAll K F vs ds → ds.all flatD = true → inV x vs = inD d ds
  | _, _, .nil, _ => rfl
  | _, _, .cons a b, h => by
    rw [List.all_cons, Bool.and_eq_true] at h
    have ih := daAll_in hx hf b h.2
    unfold inV inD at ih ⊢
    rw [List.any_cons, List.any_cons, ih, da_eqF a hx h.1 hf]
theorem Rv.flat {K : PySem.W.Frag} {F H : Hp} {v : V} {d : D} (h : Rv K F H v d) (hf : flatD d = true) : Da K F v d := h.da (fun _ e => by rw [e] at hf; cases hf)
def rInAll (K : PySem.W.Frag) : R2 := fun x y H Q => rIn K false x y H Q ∨ ∃ (c : Nat) (z : Str), x = .str ⟨#[c]⟩ ∧ y = .str z ∧ Q (.bl (decide (c ∈ z.cps.toList))) H
def rNotInAll (K : PySem.W.Frag) : R2 := fun x y H Q => rIn K true x y H Q ∨ ∃ (c : Nat) (z : Str), x = .str ⟨#[c]⟩ ∧ y = .str z ∧ Q (.bl (!decide (c ∈ z.cps.toList))) H
theorem opIn {X : Cx} : OpR X (compareOp .In) (rInAll X.K) := op_in_seq.or op_in_sign
theorem opNotIn {X : Cx} : OpR X (compareOp .NotIn) (rNotInAll X.K) := op_notIn_seq.or op_notIn_sign
theorem one_sign {c : Str} (h : c.cps.size = 1) : c = ⟨#[c.cps.getD 0 0]⟩ := by
  obtain ⟨⟨l⟩⟩ := c
  match l, h with
  | [x], _ => rfl
theorem in_all {K : PySem.W.Frag} {neg : Bool} {F H : Hp} {x y : V} {a b : D} {Q : VK} {k : Bool} (s : Same F H) (ha : Rv K F H x a) (hb : Rv K F H y b) (e : dInB a b = some k) (h : ∀ u, Da K F u (.bl (if neg then !k else k)) → Q u H) :
    rIn K neg x y H Q ∨ ∃ (c : Nat) (z : Str), x = .str ⟨#[c]⟩ ∧ y = .str z ∧ Q (.bl (if neg then !decide (c ∈ z.cps.toList) else decide (c ∈ z.cps.toList))) H := by
  unfold dInB at e
  split at e
  · rename_i xs
    by_cases hc : flatD a = true ∧ xs.all flatD = true
    · rw [if_pos hc] at e
      cases e
      obtain ⟨p, vs, rfl, h1, h2⟩ := hb.tup s
      have da := ha.flat hc.1
      refine .inl ⟨p, vs, rfl, .inr h1, da_flat da hc.1, daAll_flat h2 hc.2, ?_⟩
      rw [daAll_in da hc.1 h2 hc.2]
      exact h _ (.bl _)
    · rw [if_neg hc] at e; cases e
  · rename_i xs
    by_cases hc : flatD a = true ∧ xs.all flatD = true
    · rw [if_pos hc] at e
      cases e
      obtain ⟨p, vs, rfl, h1, h2⟩ := hb.lst s
      have da := ha.flat hc.1
      refine .inl ⟨p, vs, rfl, .inl (SqL.of h1), da_flat da hc.1, daAll_flat h2 hc.2, ?_⟩
      rw [daAll_in da hc.1 h2 hc.2]
      exact h _ (.bl _)
    · rw [if_neg hc] at e; cases e
  · rename_i z
    split at e
    · rename_i c
      by_cases hc : c.cps.size = 1
      · rw [if_pos hc] at e
        cases e
        refine .inr ⟨c.cps.getD 0 0, z, ?_, hb.str, h _ (.bl _)⟩
        rw [← one_sign hc]
        exact ha.str
      · rw [if_neg hc] at e; cases e
    · cases e
  · cases e
theorem op2_in {K : PySem.W.Frag} : Op2 K (rInAll K) dIn := by
  intro F H x y a b Q s ha hb h
  unfold dIn at h
  cases e : dInB a b with
  | none => rw [e] at h; exact h.elim
  | some k =>
    rw [e] at h
    exact in_all (neg := false) s ha hb e h
theorem op2_notIn {K : PySem.W.Frag} : Op2 K (rNotInAll K) dNotIn := by
  intro F H x y a b Q s ha hb h
  unfold dNotIn at h
  cases e : dInB a b with
  | none => rw [e] at h; exact h.elim
  | some k =>
    rw [e] at h
    exact in_all (neg := true) s ha hb e h
/-! ### subscripts, slices -/
theorem atI_da {K : PySem.W.Frag} {F : Hp} {vs : List V} {ds : List D} {i : Int} {d : D} (h : DaAll K F vs ds) (e : atI ds i = some d) : ∃ v, atI vs i = some v ∧ Da K F v d := by
  unfold atI at e ⊢
  rw [h.length]
  cases q : ixN ds.length i with
  | none => rw [q] at e; cases e
  | some j =>
    rw [q] at e
    exact h.get e
def dIx : D → D → Option R := fun a b => match a, b with
  | .tup xs, .int i => (atI xs i).map .d
  | .lst xs, .int i => (atI xs i).map .d
  | .scr ns, .int i => (atI ns i).map fun n => .d (.int n)
  | .str z, .int i => if z.length ≤ lim then (atI z.cps.toList i).map fun c => .d (.str ⟨#[c]⟩) else none
  | _, _ => none
theorem atI_map {α β : Type} (f : α → β) (xs : List α) (i : Int) : atI (xs.map f) i = (atI xs i).map f := by
  unfold atI
  rw [List.length_map]
  cases ixN xs.length i with
  | none => rfl
  | some j => exact List.getElem?_map
theorem op2_ix {K : PySem.W.Frag} : Op2 K (rIx K) dIx := by
  intro F H x y a b Q s ha hb h
  unfold dIx at h
  split at h
  · rename_i xs i
    cases e : atI xs i with
    | none => rw [e] at h; exact h.elim
    | some d =>
      rw [e] at h
      obtain ⟨p, vs, rfl, h1, h2⟩ := ha.tup s
      obtain ⟨v, h3, h4⟩ := atI_da h2 e
      exact .inr (.inl ⟨p, vs, i, v, rfl, hb.int, h1, h3, h _ h4⟩)
  · rename_i xs i
    cases e : atI xs i with
    | none => rw [e] at h; exact h.elim
    | some d =>
      rw [e] at h
      obtain ⟨p, vs, rfl, h1, h2⟩ := ha.lst s
      obtain ⟨v, h3, h4⟩ := atI_da h2 e
      exact .inl ⟨p, vs, i, v, rfl, hb.int, SqL.of h1, h3, h _ h4⟩
  · rename_i ns i
    cases e : atI ns i with
    | none => rw [e] at h; exact h.elim
    | some n =>
      rw [e] at h
      obtain ⟨p, rfl, h1⟩ := ha.scr s
      exact .inl ⟨p, _, i, .int n, rfl, hb.int, h1, by rw [atI_map, e]; rfl, h _ (.int n)⟩
  · rename_i z i
    by_cases hl : z.length ≤ lim
    · rw [if_pos hl] at h
      cases e : atI z.cps.toList i with
      | none => rw [e] at h; exact h.elim
      | some c =>
        rw [e] at h
        exact .inr (.inr ⟨z, i, c, ha.str, hb.int, limLe hl, e, h _ (.str _)⟩)
    · rw [if_neg hl] at h; exact h.elim
  · exact h.elim
def cutD {α : Type} (xs : List α) (lo hi : Option Int) : List α := (xs.drop (HT.sIx xs.length 0 lo)).take (HT.sIx xs.length xs.length hi - HT.sIx xs.length 0 lo)
theorem cut_da {K : PySem.W.Frag} {F : Hp} {vs : List V} {ds : List D} (h : DaAll K F vs ds) (lo hi : Option Int) : DaAll K F (cutV vs lo hi) (cutD ds lo hi) := by
  unfold cutV cutD
  rw [h.length]
  exact (h.drop _).take _
theorem cutV_ints (ns : List Int) (lo hi : Option Int) : cutV (ns.map V.int) lo hi = (cutD ns lo hi).map V.int := by
  unfold cutV cutD
  rw [List.length_map, List.map_take, List.map_drop]
def dSl : D → Option Int → Option Int → Option R := fun a lo hi => match a with
  | .tup xs => some (.t (cutD xs lo hi))
  | .lst xs => some (.l (cutD xs lo hi))
  | .scr ns => some (.l ((cutD ns lo hi).map D.int))
  | .str z => if z.length ≤ lim then some (.d (.str (cutS z lo hi))) else none
  | _ => none
def rSlAll (K : PySem.W.Frag) : V → Option Int → Option Int → Hp → VK → Prop := fun x lo hi H Q => rSlA K x lo hi H Q ∨ rSlL K x lo hi H Q ∨ rSlS x lo hi H Q
theorem slAll {X : Cx} : SlR X (rSlAll X.K) := sl_tupA.or (sl_list.or sl_str)
theorem ops_sl {K : PySem.W.Frag} : OpS K (rSlAll K) dSl := by
  intro F H x a lo hi Q s ha h
  unfold dSl at h
  split at h
  · rename_i xs
    obtain ⟨p, vs, rfl, h1, h2⟩ := ha.tup s
    refine .inl ⟨p, vs, rfl, h1, fun e => ?_, fun _ p hp => h.2 p _ hp (cut_da h2 lo hi)⟩
    have q : cutD xs lo hi = xs := by
      unfold cutD
      rw [← h2.length, e.1, e.2, List.drop_zero, Nat.sub_zero, h2.length, List.take_length]
    rw [q] at h
    exact h.1 _ (ha.da (fun _ e => by cases e))
  · obtain ⟨p, vs, rfl, h1, h2⟩ := ha.lst s
    exact .inr (.inl ⟨p, vs, rfl, SqL.of h1, fun p hp => h p _ hp (cut_da h2 lo hi)⟩)
  · rename_i ns
    obtain ⟨p, rfl, h1⟩ := ha.scr s
    refine .inr (.inl ⟨p, _, rfl, h1, fun p hp => h p _ hp ?_⟩)
    rw [cutV_ints]
    exact DaAll.ints _
  · rename_i z
    by_cases hl : z.length ≤ lim
    · rw [if_pos hl] at h
      exact .inr (.inr ⟨z, ha.str, limLe hl, h _ (.str _)⟩)
    · rw [if_neg hl] at h; exact h.elim
  · exact h.elim
end G
namespace G
open PySem L2
/-! ### built-in functions -/
def intsOf : List D → Option (List Int)
  | [] => some []
  | .int i :: r => (intsOf r).map (i :: ·)
  | _ :: _ => none
def blsOf : List D → Option (List Bool)
  | [] => some []
  | .bl i :: r => (blsOf r).map (i :: ·)
  | _ :: _ => none
theorem da_ints {K : PySem.W.Frag} {F : Hp} : ∀ {vs : List V} {ds : List D} {ns : List Int}, DaAll K F vs ds → intsOf ds = some ns → vs = ns.map V.int
  | _, _, _, .nil, e => by cases e; rfl
  | _, _, ns, .cons a b, e => by
    cases a with
    | int i =>
      rename_i ds
      unfold intsOf at e
      cases q : intsOf ds with
      | none => rw [q] at e; cases e
      | some ms =>
        rw [q] at e
        cases e
        rw [da_ints b q]
        rfl
    | _ => cases e
theorem da_bls {K : PySem.W.Frag} {F : Hp} : ∀ {vs : List V} {ds : List D} {ns : List Bool}, DaAll K F vs ds → blsOf ds = some ns → vs = ns.map V.bl
  | _, _, _, .nil, e => by cases e; rfl
  | _, _, ns, .cons a b, e => by
    cases a with
    | bl i =>
      rename_i ds
      unfold blsOf at e
      cases q : blsOf ds with
      | none => rw [q] at e; cases e
      | some ms =>
        rw [q] at e
        cases e
        rw [da_bls b q]
        rfl
    | _ => cases e
def maxL : List Int → Int
  | [] => 0
  | [x] => x
  | x :: r => if maxL r > x then maxL r else x
def minL : List Int → Int
  | [] => 0
  | [x] => x
  | x :: r => if minL r < x then minL r else x
theorem maxL_is : ∀ {ns : List Int}, ns ≠ [] → maxL ns ∈ ns ∧ ∀ y ∈ ns, y ≤ maxL ns
  | [], h => (h rfl).elim
  | [x], _ => ⟨List.mem_singleton.mpr rfl, fun y hy => by rw [List.mem_singleton.mp hy]; exact Int.le_refl _⟩
  | x :: y :: r, _ => by
    obtain ⟨h1, h2⟩ := maxL_is (ns := y :: r) (by intro e; cases e)
    show (if maxL (y :: r) > x then maxL (y :: r) else x) ∈ _ ∧ ∀ u ∈ _, u ≤ (if maxL (y :: r) > x then maxL (y :: r) else x)
    by_cases hc : maxL (y :: r) > x
    · rw [if_pos hc]
      exact ⟨List.mem_cons_of_mem _ h1, fun u hu => by
        rcases List.mem_cons.mp hu with rfl | hu
        · exact Int.le_of_lt hc
        · exact h2 u hu⟩
    · rw [if_neg hc]
      exact ⟨List.mem_cons_self, fun u hu => by
        rcases List.mem_cons.mp hu with rfl | hu
        · exact Int.le_refl _
        · exact Int.le_trans (h2 u hu) (Int.not_lt.mp hc)⟩
theorem minL_is : ∀ {ns : List Int}, ns ≠ [] → minL ns ∈ ns ∧ ∀ y ∈ ns, minL ns ≤ y
  | [], h => (h rfl).elim
  | [x], _ => ⟨List.mem_singleton.mpr rfl, fun y hy => by rw [List.mem_singleton.mp hy]; exact Int.le_refl _⟩
  | x :: y :: r, _ => by
    obtain ⟨h1, h2⟩ := minL_is (ns := y :: r) (by intro e; cases e)
    show (if minL (y :: r) < x then minL (y :: r) else x) ∈ _ ∧ ∀ u ∈ _, (if minL (y :: r) < x then minL (y :: r) else x) ≤ u
    by_cases hc : minL (y :: r) < x
    · rw [if_pos hc]
      exact ⟨List.mem_cons_of_mem _ h1, fun u hu => by
        rcases List.mem_cons.mp hu with rfl | hu
        · exact Int.le_of_lt hc
        · exact h2 u hu⟩
    · rw [if_neg hc]
      exact ⟨List.mem_cons_self, fun u hu => by
        rcases List.mem_cons.mp hu with rfl | hu
        · exact Int.le_refl _
        · exact Int.le_trans (Int.not_lt.mp hc) (h2 u hu)⟩
def fLen : List D → Option R := fun as => match as with
  | [.tup xs] => some (.d (.int xs.length))
  | [.lst xs] => some (.d (.int xs.length))
  | [.scr xs] => some (.d (.int xs.length))
  | [.str z] => if z.length ≤ lim then some (.d (.int z.length)) else none
  | _ => none
def fMax : List D → Option R := fun as => match as with
  | [.int i, .int j] => some (.d (.int (if j > i then j else i)))
  | [.lst xs] => (match intsOf xs with
    | some (n :: ns) => some (.d (.int (maxL (n :: ns))))
    | _ => none)
  | _ => none
def fMin : List D → Option R := fun as => match as with
  | [.int i, .int j] => some (.d (.int (if j < i then j else i)))
  | [.lst xs] => (match intsOf xs with
    | some (n :: ns) => some (.d (.int (minL (n :: ns))))
    | _ => none)
  | _ => none
def fSum : List D → Option R := fun as => match as with
  | [.lst xs] => (intsOf xs).map fun ns => .d (.int ns.sum)
  | _ => none
def fAll : List D → Option R := fun as => match as with
  | [.lst xs] => (blsOf xs).map fun ns => .d (.bl (ns.all id))
  | _ => none
def fAny : List D → Option R := fun as => match as with
  | [.lst xs] => (blsOf xs).map fun ns => .d (.bl (ns.any id))
  | _ => none
def fInt : List D → Option R := fun as => match as with
  | [.int i] => some (.d (.int i))
  | [.bl k] => some (.d (.int (if k then 1 else 0)))
  | _ => none
def fStr : List D → Option R := fun as => match as with
  | [.int i] => if i.natAbs.log2 < 1920 then some (.d (.str (toString i))) else none
  | _ => none
def fList : List D → Option R := fun as => match as with
  | [.tup xs] => some (.l xs)
  | [.lst xs] => some (.l xs)
  | [.scr ns] => some (.l (ns.map D.int))
  | _ => none
def fTuple : List D → Option R := fun as => match as with
  | [.tup xs] => some (.t xs)
  | [.lst xs] => some (.t xs)
  | _ => none
section
variable {K : PySem.W.Frag}
def rLenAll (K : PySem.W.Frag) : List V → Hp → VK → Prop := fun xs H Q => (∃ p ys, xs = [.ref p] ∧ (SqL K H p ys ∨ SqT K H p ys) ∧ Q (.int ys.length) H) ∨ ∃ z, xs = [.str z] ∧ z.length ≤ sizeLine ∧ Q (.int z.length) H
theorem lenAll {X : Cx} : CallR X (.builtin "len") (rLenAll X.K) := call_len_seq.or call_len_str
theorem p1 {P : V → D → Prop} {xs : List V} {a : D} (h : Paired P xs [a]) : ∃ x, xs = [x] ∧ P x a := by
  cases h with
  | cons r t => cases t; exact ⟨_, rfl, r⟩
theorem p2 {P : V → D → Prop} {xs : List V} {a b : D} (h : Paired P xs [a, b]) : ∃ x y, xs = [x, y] ∧ P x a ∧ P y b := by
  cases h with
  | cons r t =>
    obtain ⟨y, rfl, q⟩ := p1 t
    exact ⟨_, _, rfl, r, q⟩
theorem opn_len : OpN K (rLenAll K) fLen := by
  intro F H xs as Q s hp h
  unfold fLen at h
  split at h
  · obtain ⟨x, rfl, r⟩ := p1 hp
    obtain ⟨a, vs, rfl, h1, h2⟩ := r.tup s
    exact .inl ⟨a, vs, rfl, .inr h1, by rw [h2.length]; exact h _ (.int _)⟩
  · obtain ⟨x, rfl, r⟩ := p1 hp
    obtain ⟨a, vs, rfl, h1, h2⟩ := r.lst s
    exact .inl ⟨a, vs, rfl, .inl (SqL.of h1), by rw [h2.length]; exact h _ (.int _)⟩
  · obtain ⟨x, rfl, r⟩ := p1 hp
    obtain ⟨a, rfl, h1⟩ := r.scr s
    exact .inl ⟨a, _, rfl, .inl h1, by rw [List.length_map]; exact h _ (.int _)⟩
  · rename_i z
    obtain ⟨x, rfl, r⟩ := p1 hp
    by_cases hl : z.length ≤ lim
    · rw [if_pos hl] at h
      exact .inr ⟨z, by rw [r.str], limLe hl, h _ (.int _)⟩
    · rw [if_neg hl] at h; exact h.elim
  · exact h.elim
def rMaxAll (K : PySem.W.Frag) : List V → Hp → VK → Prop := fun xs H Q => (∃ i j, xs = [.int i, .int j] ∧ Q (.int (if j > i then j else i)) H) ∨ rMax K xs H Q
def rMinAll (K : PySem.W.Frag) : List V → Hp → VK → Prop := fun xs H Q => (∃ i j, xs = [.int i, .int j] ∧ Q (.int (if j < i then j else i)) H) ∨ rMin K xs H Q
theorem maxAll {X : Cx} (hc : X.calm = true) : CallR X (.builtin "max") (rMaxAll X.K) := (call_max2 hc).or (cr_max hc)
theorem minAll {X : Cx} (hc : X.calm = true) : CallR X (.builtin "min") (rMinAll X.K) := (call_min2 hc).or (cr_min hc)
theorem opn_max : OpN K (rMaxAll K) fMax := by
  intro F H xs as Q s hp h
  unfold fMax at h
  split at h
  · obtain ⟨x, y, rfl, r1, r2⟩ := p2 hp
    exact .inl ⟨_, _, by rw [r1.int, r2.int], h _ (.int _)⟩
  · rename_i ds
    obtain ⟨x, rfl, r⟩ := p1 hp
    obtain ⟨a, vs, rfl, h1, h2⟩ := r.lst s
    split at h
    · rename_i n ns e
      have q := da_ints h2 e
      subst q
      refine .inr ⟨a, n :: ns, rfl, SqL.of h1, Nat.succ_pos _, fun m hm hy => ?_⟩
      obtain ⟨g1, g2⟩ := maxL_is (ns := n :: ns) (by intro e; cases e)
      have em : m = maxL (n :: ns) := Int.le_antisymm (g2 m hm) (hy _ g1)
      rw [em]
      exact h _ (.int _)
    · exact h.elim
  · exact h.elim
theorem opn_min : OpN K (rMinAll K) fMin := by
  intro F H xs as Q s hp h
  unfold fMin at h
  split at h
  · obtain ⟨x, y, rfl, r1, r2⟩ := p2 hp
    exact .inl ⟨_, _, by rw [r1.int, r2.int], h _ (.int _)⟩
  · rename_i ds
    obtain ⟨x, rfl, r⟩ := p1 hp
    obtain ⟨a, vs, rfl, h1, h2⟩ := r.lst s
    split at h
    · rename_i n ns e
      have q := da_ints h2 e
      subst q
      refine .inr ⟨a, n :: ns, rfl, SqL.of h1, Nat.succ_pos _, fun m hm hy => ?_⟩
      obtain ⟨g1, g2⟩ := minL_is (ns := n :: ns) (by intro e; cases e)
      have em : m = minL (n :: ns) := Int.le_antisymm (hy _ g1) (g2 m hm)
      rw [em]
      exact h _ (.int _)
    · exact h.elim
  · exact h.elim
theorem opn_sum : OpN K (rSum K) fSum := by
  intro F H xs as Q s hp h
  unfold fSum at h
  split at h
  · rename_i ds
    obtain ⟨x, rfl, r⟩ := p1 hp
    obtain ⟨a, vs, rfl, h1, h2⟩ := r.lst s
    cases e : intsOf ds with
    | none => rw [e] at h; exact h.elim
    | some ns =>
      rw [e] at h
      have q := da_ints h2 e
      subst q
      exact ⟨a, ns, rfl, SqL.of h1, h _ (.int _)⟩
  · exact h.elim
theorem opn_all : OpN K (rAll K) fAll := by
  intro F H xs as Q s hp h
  unfold fAll at h
  split at h
  · rename_i ds
    obtain ⟨x, rfl, r⟩ := p1 hp
    obtain ⟨a, vs, rfl, h1, h2⟩ := r.lst s
    cases e : blsOf ds with
    | none => rw [e] at h; exact h.elim
    | some ns =>
      rw [e] at h
      have q := da_bls h2 e
      subst q
      exact ⟨a, ns, rfl, SqL.of h1, h _ (.bl _)⟩
  · exact h.elim
theorem opn_any : OpN K (rAny K) fAny := by
  intro F H xs as Q s hp h
  unfold fAny at h
  split at h
  · rename_i ds
    obtain ⟨x, rfl, r⟩ := p1 hp
    obtain ⟨a, vs, rfl, h1, h2⟩ := r.lst s
    cases e : blsOf ds with
    | none => rw [e] at h; exact h.elim
    | some ns =>
      rw [e] at h
      have q := da_bls h2 e
      subst q
      exact ⟨a, ns, rfl, SqL.of h1, h _ (.bl _)⟩
  · exact h.elim
def rInt1 : List V → Hp → VK → Prop := fun xs H Q => (∃ i, xs = [.int i] ∧ Q (.int i) H) ∨ ∃ k, xs = [.bl k] ∧ Q (.int (if k then 1 else 0)) H
theorem opn_int : OpN K rInt1 fInt := by
  intro F H xs as Q s hp h
  unfold fInt at h
  split at h
  · obtain ⟨x, rfl, r⟩ := p1 hp
    exact .inl ⟨_, by rw [r.int], h _ (.int _)⟩
  · obtain ⟨x, rfl, r⟩ := p1 hp
    exact .inr ⟨_, by rw [r.bl], h _ (.int _)⟩
  · exact h.elim
def rStr1 : List V → Hp → VK → Prop := fun xs H Q => ∃ i, xs = [.int i] ∧ i.natAbs.log2 < 1920 ∧ Q (.str (toString i)) H
theorem opn_str : OpN K rStr1 fStr := by
  intro F H xs as Q s hp h
  unfold fStr at h
  split at h
  · rename_i i
    obtain ⟨x, rfl, r⟩ := p1 hp
    by_cases hl : i.natAbs.log2 < 1920
    · rw [if_pos hl] at h
      exact ⟨i, by rw [r.int], hl, h _ (.str _)⟩
    · rw [if_neg hl] at h; exact h.elim
  · exact h.elim
def rListOf (K : PySem.W.Frag) : List V → Hp → VK → Prop := fun xs H Q => ∃ p ys, xs = [.ref p] ∧ (SqL K H p ys ∨ SqT K H p ys) ∧ ∀ l, H l = none → Q (.ref l) (upd H l (.lst ys))
theorem opn_list : OpN K (rListOf K) fList := by
  intro F H xs as Q s hp h
  unfold fList at h
  split at h
  · obtain ⟨x, rfl, r⟩ := p1 hp
    obtain ⟨a, vs, rfl, h1, h2⟩ := r.tup s
    exact ⟨a, vs, rfl, .inr h1, fun l hl => h l vs hl h2⟩
  · obtain ⟨x, rfl, r⟩ := p1 hp
    obtain ⟨a, vs, rfl, h1, h2⟩ := r.lst s
    exact ⟨a, vs, rfl, .inl (SqL.of h1), fun l hl => h l vs hl h2⟩
  · obtain ⟨x, rfl, r⟩ := p1 hp
    obtain ⟨a, rfl, h1⟩ := r.scr s
    exact ⟨a, _, rfl, .inl h1, fun l hl => h l _ hl (DaAll.ints _)⟩
  · exact h.elim
def rTupleOf (K : PySem.W.Frag) : List V → Hp → VK → Prop := fun xs H Q => ∃ p ys, xs = [.ref p] ∧ ((SqL K H p ys ∧ ∀ l, H l = none → Q (.ref l) (upd H l (.tup ys))) ∨ (SqT K H p ys ∧ Q (.ref p) H))
theorem opn_tuple : OpN K (rTupleOf K) fTuple := by
  intro F H xs as Q s hp h
  unfold fTuple at h
  split at h
  · obtain ⟨x, rfl, r⟩ := p1 hp
    obtain ⟨a, vs, rfl, h1, h2⟩ := r.tup s
    exact ⟨a, vs, rfl, .inr ⟨h1, h.1 _ (r.da (fun _ e => by cases e))⟩⟩
  · obtain ⟨x, rfl, r⟩ := p1 hp
    obtain ⟨a, vs, rfl, h1, h2⟩ := r.lst s
    exact ⟨a, vs, rfl, .inl ⟨SqL.of h1, fun l hl => h.2 l vs hl h2⟩⟩
  · exact h.elim
end
/-! ### isinstance(x, T), T a built-in class -/
def tyD : D → String
  | .non => "NoneType"
  | .bl _ => "bool"
  | .int _ => "int"
  | .str _ => "str"
  | .tup _ => "tuple"
  | .lst _ => "list"
  | .scr _ => "list"
  | .emp => "dict"
  | .exc _ _ => "object"
/-- values whose class is a built-in one, by tyD -/
def notScr : D → Bool
  | .scr _ => false
  | .exc _ _ => false
  | _ => true
def dIsi (T : String) : D → Option R := fun a => (kitB (tyD a) T).map fun b => .d (.bl b)
theorem Rv.ty {K : PySem.W.Frag} {F H : Hp} {v : V} {d : D} (s : Same F H) (h : Rv K F H v d) (hs : notScr d = true) : TyX K H v (.type (tyD d)) := by
  cases d with
  | non => rw [h.non]; exact .base .non
  | bl b => rw [h.bl]; exact .base (.bl b)
  | int i => rw [h.int]; exact .base (.int i)
  | str x => rw [h.str]; exact .base (.str x)
  | tup xs =>
    obtain ⟨a, vs, rfl, h1, h2⟩ := h.tup s
    rcases h1 with (h1 | ⟨o, h1⟩) | ⟨o, its, n, h1, h2, _⟩
    · exact .base (.tup h1)
    · exact .fTuple h1
    · exact .kTuple h1 h2
  | lst xs =>
    obtain ⟨a, vs, rfl, h1, h2⟩ := h.lst s
    exact .base (.lst h1)
  | scr ns => cases hs
  | exc _ _ => cases hs
  | emp =>
    obtain ⟨a, rfl, h1⟩ := h.emp s
    exact .base (.dK h1)
end G
namespace G
open PySem L2
section
variable {ι : Type} {M : MI} {xr : Str → Option Value} {K : PySem.W.Frag} {X : ι → Cx} {W : WX} {a b : Expr} {f f' : Sm M S} {pos : Pos}
/-- what every place of a def's text has: its written part, calm, no name twice -/
structure Pl (K : PySem.W.Frag) (X : ι → Cx) (N : List Str) (mg : Str → Option Value) : Prop where
  k : ∀ j, (X j).K = K
  c : ∀ j, (X j).calm = true
  n : ∀ j, (X j).N = N
  nd : N.Nodup
  g : ∀ j, (X j).mg = mg
  u : ∀ j, (X j).A.units + 300 < cLine
variable {N : List Str} {mg : Str → Option Value}
theorem Pl.nds (p : Pl K X N mg) : ∀ j, (X j).N.Nodup := fun j => by rw [p.n j]; exact p.nd
theorem Pl.blk (p : Pl K X N mg) (scope : Scope) : Pl K (Blk X scope) N mg := ⟨fun q => p.k q.1, fun q => p.c q.1, fun q => p.n q.1, p.nd, fun q => p.g q.1, fun q => p.u q.1⟩
theorem de_add (p : Pl K X N mg) (ha : DE M xr K X W a f) (hb : DE M xr K X W b f') : DE M xr K X W (.BinOp a .Add b pos) (eBin dAdd f f') := de_bin (fun j => by rw [← p.k j]; exact opAdd) op2_add ha hb
theorem de_sub (ha : DE M xr K X W a f) (hb : DE M xr K X W b f') : DE M xr K X W (.BinOp a .Sub b pos) (eBin dSub f f') := de_bin (fun j => op_sub) (op2_I0 fun _ _ _ => .int _) ha hb
theorem de_mul (ha : DE M xr K X W a f) (hb : DE M xr K X W b f') : DE M xr K X W (.BinOp a .Mult b pos) (eBin dMul f f') := de_bin (fun j => op_mul) (op2_I (fun i j h => show (-(2 ^ 64) < i ∧ i < 2 ^ 64) ∨ (-(2 ^ 64) < j ∧ j < 2 ^ 64) from of_decide_eq_true h) fun _ _ _ => .int _) ha hb
theorem de_fdiv (ha : DE M xr K X W a f) (hb : DE M xr K X W b f') : DE M xr K X W (.BinOp a .FloorDiv b pos) (eBin dFdiv f f') := de_bin (fun j => op_fdiv) (op2_I (fun i j h => show 0 < j ∧ j < 1073741824 from of_decide_eq_true h) fun _ _ _ => .int _) ha hb
theorem de_mod (ha : DE M xr K X W a f) (hb : DE M xr K X W b f') : DE M xr K X W (.BinOp a .Mod b pos) (eBin dMod f f') := de_bin (fun j => op_mod) (op2_I (fun _ _ h => of_decide_eq_true h) fun _ _ _ => .int _) ha hb
theorem de_pow (ha : DE M xr K X W a f) (hb : DE M xr K X W b f') : DE M xr K X W (.BinOp a .Pow b pos) (eBin dPow f f') := de_bin (fun j => op_pow) (op2_I (fun i j h => show 0 ≤ j ∧ j ≤ 1000000 ∧ i.natAbs < 2 ^ 64 from of_decide_eq_true h) fun _ _ _ => .int _) ha hb
theorem de_shl (ha : DE M xr K X W a f) (hb : DE M xr K X W b f') : DE M xr K X W (.BinOp a .LShift b pos) (eBin dShl f f') := de_bin (fun j => op_shl) (op2_I (fun i j h => show 0 ≤ j ∧ j ≤ 1000000 ∧ i.natAbs < 2 ^ 64 from of_decide_eq_true h) fun _ _ _ => .int _) ha hb
theorem de_shr (ha : DE M xr K X W a f) (hb : DE M xr K X W b f') : DE M xr K X W (.BinOp a .RShift b pos) (eBin dShr f f') := de_bin (fun j => op_shr) (op2_I (fun _ _ h => of_decide_eq_true h) fun _ _ _ => .int _) ha hb
theorem op1_neg : Op1 K (rU fun i => .int (-i)) dNeg := by
  intro F H x a Q s ha h
  cases a with
  | int i => exact ⟨i, ha.int, h _ (.int _)⟩
  | _ => exact h.elim
theorem de_neg (ha : DE M xr K X W a f) : DE M xr K X W (.UnaryOp .USub a pos) (eUn dNeg f) := de_un (fun j => un_neg) op1_neg ha
/-- comparisons: a relation by its operator, with what it computes -/
inductive Cp (K : PySem.W.Frag) (X : ι → Cx) : CmpOp → (D → D → Option R) → Prop
  | mk {op : CmpOp} {g : D → D → Option R} (r : R2) (ho : ∀ j, OpR (X j) (compareOp op) r) (hd : Op2 K r g) : Cp K X op g
theorem Cp.de {op : CmpOp} {g : D → D → Option R} (c : Cp K X op g) (ha : DE M xr K X W a f) (hb : DE M xr K X W b f') (hm : behindInMarks op b = false) : DE M xr K X W (.Compare a [op] [b] pos) (eBin g f f') := by
  cases c with
  | mk r ho hd => exact de_cmp ho hd ha hb hm
theorem Cp.dt {op : CmpOp} {g : D → D → Option R} (c : Cp K X op g) (ha : DE M xr K X W a f) (hb : DE M xr K X W b f') (hm : behindInMarks op b = false) : DT M xr K X W (.Compare a [op] [b] pos) (tOf (eBin g f f')) := by
  cases c with
  | mk r ho hd => exact dt_cmp ho hd ha hb hm
theorem cp_lt : Cp K X .Lt dLt := ⟨_, fun j => op_lt, op2_I0 fun _ _ _ => .bl _⟩
theorem cp_le : Cp K X .LtE dLe := ⟨_, fun j => op_le, op2_I0 fun _ _ _ => .bl _⟩
theorem cp_gt : Cp K X .Gt dGt := ⟨_, fun j => op_gt, op2_I0 fun _ _ _ => .bl _⟩
theorem cp_ge : Cp K X .GtE dGe := ⟨_, fun j => op_ge, op2_I0 fun _ _ _ => .bl _⟩
theorem cp_eq (p : Pl K X N mg) : Cp K X .Eq dEq := ⟨rEqW K, fun j => by rw [← p.k j]; exact op_eqW (p.u j), op2_eq⟩
theorem cp_ne (p : Pl K X N mg) : Cp K X .NotEq dNe := ⟨rNeW K, fun j => by rw [← p.k j]; exact op_neW (p.u j), op2_ne⟩
theorem cp_is : Cp K X .Is dIs := ⟨_, fun j => opIs, op2_is⟩
theorem cp_isNot : Cp K X .IsNot dIsNot := ⟨_, fun j => opIsNot, op2_isNot⟩
theorem cp_in (p : Pl K X N mg) : Cp K X .In dIn := ⟨rInAll K, fun j => by rw [← p.k j]; exact opIn, op2_in⟩
theorem cp_notIn (p : Pl K X N mg) : Cp K X .NotIn dNotIn := ⟨rNotInAll K, fun j => by rw [← p.k j]; exact opNotIn, op2_notIn⟩
/-- a < b < c -/
def eChain (g g' : D → D → Option R) (f f' f'' : Sm M S) : Sm M S := fun z => (opd f z).bind fun s z1 => (opd f' z1).bind fun s' z2 => (fin ((rd z2 s).bind fun x => (rd z2 s').bind fun y => g x y) z2).bind fun r z3 => match r with
  | .d (.bl true) => (opd f'' z3).bind fun s'' z4 => fin ((rd z4 s').bind fun x => (rd z4 s'').bind fun y => g' x y) z4
  | .d (.bl false) => .ok (.d (.bl false)) z3
  | _ => .bad
theorem de_ixA (p : Pl K X N mg) (ha : DE M xr K X W a f) (hb : DE M xr K X W b f') (hs : PlainIx b := by exact fun _ _ => rfl) : DE M xr K X W (.Subscript a b pos) (eBin dIx f f') := de_ix (fun j => by rw [← p.k j]; exact ix_seq) op2_ix ha hb hs
theorem de_sl {lo hi : Option Expr} {fl fh : Sm M (Option Int)} {p2 : Pos} (p : Pl K X N mg) (h : DE M xr K X W a f) (hl : DO M xr K X W lo fl) (hh : DO M xr K X W hi fh) : DE M xr K X W (.Subscript a (.Slice lo hi none p2) pos) (eSl dSl f fl fh) := de_slice (fun j => by rw [← p.k j]; exact slAll) ops_sl h hl hh
/-! built-in functions by name: x is not the text's own -/
inductive Fb (K : PySem.W.Frag) (X : ι → Cx) : Str → (List D → Option R) → Prop
  | fn {x : Str} {g : List D → Option R} (id : String) (r : List V → Hp → VK → Prop) (hc : ∀ j, CallR (X j) (.builtin id) r) (hd : OpN K r g) (hv : bootBuiltins x = some (.builtin id)) (hn : x ≠ "__name__") (hb : (x == ("__debug__" : Str)) = false) : Fb K X x g
  | ty {x : Str} {g : List D → Option R} (T : String) (r : List V → Hp → VK → Prop) (hc : ∀ j, CallR (X j) (.type T) r) (hd : OpN K r g) (hv : bootBuiltins x = some (.type T)) (hn : x ≠ "__name__") (hb : (x == ("__debug__" : Str)) = false) : Fb K X x g
theorem Fb.de {x : Str} {g : List D → Option R} (c : Fb K X x g) {e : Expr} {es : List Expr} {h : Sm M (List S)} {pp : Pos} (p : Pl K X N mg) (hm : mg x = none) (ha : DA M xr K X W (e :: es) h) (hg : ∀ j, Gl (X j) x := by intro _; rfl)
    (he : ∀ j, starEach (e :: es) (X j).env = (false, eval e (X j).env) :: starEach es (X j).env := by intro _; rfl) (hpl : ∀ j, (backTo pos (starEach es (X j).env)).any (·.1) = false := by intro _; rfl) : DE M xr K X W (.Call (.Name x pp) (e :: es) [] pos) (eFn g h) := by
  cases c with
  | fn id r hc hd hv hn hb => exact de_callB hc hd hg (fun j => by rw [p.g j]; exact hm) hv ha hn hb he hpl
  | ty T r hc hd hv hn hb => exact de_callTy hc hd hg (fun j => by rw [p.g j]; exact hm) hv ha hn hb he hpl
theorem fb_len (p : Pl K X N mg) : Fb K X "len" fLen := .fn "len" (rLenAll K) (fun j => by rw [← p.k j]; exact lenAll) opn_len boot_len (by decide) (by decide)
theorem fb_max (p : Pl K X N mg) : Fb K X "max" fMax := .fn "max" (rMaxAll K) (fun j => by rw [← p.k j]; exact maxAll (p.c j)) opn_max PyProof.Rows.boot_max (by decide) (by decide)
theorem fb_min (p : Pl K X N mg) : Fb K X "min" fMin := .fn "min" (rMinAll K) (fun j => by rw [← p.k j]; exact minAll (p.c j)) opn_min PyProof.Rows.boot_min (by decide) (by decide)
theorem fb_sum (p : Pl K X N mg) : Fb K X "sum" fSum := .fn "sum" (rSum K) (fun j => by rw [← p.k j]; exact cr_sum (p.c j)) opn_sum PyProof.Rows.boot_sum (by decide) (by decide)
theorem fb_all (p : Pl K X N mg) : Fb K X "all" fAll := .fn "all" (rAll K) (fun j => by rw [← p.k j]; exact cr_all (p.c j)) opn_all PyProof.Rows.boot_all (by decide) (by decide)
theorem fb_any (p : Pl K X N mg) : Fb K X "any" fAny := .fn "any" (rAny K) (fun j => by rw [← p.k j]; exact cr_any (p.c j)) opn_any PyProof.Rows.boot_any (by decide) (by decide)
theorem fb_int : Fb K X "int" fInt := .ty "int" rInt1 (fun j => call_int1) opn_int PyProof.Rows.boot_int (by decide) (by decide)
theorem fb_str : Fb K X "str" fStr := .ty "str" rStr1 (fun j => call_str_int) opn_str PyProof.Rows.boot_str (by decide) (by decide)
theorem fb_list (p : Pl K X N mg) : Fb K X "list" fList := .ty "list" (rListOf K) (fun j => by rw [← p.k j]; exact call_list_of) opn_list PyProof.Rows.boot_list (by decide) (by decide)
theorem fb_tuple (p : Pl K X N mg) : Fb K X "tuple" fTuple := .ty "tuple" (rTupleOf K) (fun j => by rw [← p.k j]; exact call_tuple_of) opn_tuple PyProof.Rows.boot_tuple (by decide) (by decide)
/-- isinstance(e, T) -/
def dIsiN (T : String) : D → Option R := fun x => if notScr x = true then dIsi T x else none
theorem de_isi {T : Str} {t : String} {e : Expr} {pp pt : Pos} {g : Sm M S} (p : Pl K X N mg) (hm : mg "isinstance" = none) (hmT : mg T = none) (hvT : bootBuiltins T = some (.type t)) (h : DE M xr K X W e g) (hg : ∀ j, Gl (X j) "isinstance" := by intro _; rfl) (hgT : ∀ j, Gl (X j) T := by intro _; rfl) (hnT : T ≠ "__name__" := by decide) (hbT : (T == ("__debug__" : Str)) = false := by decide)
    (he : ∀ j, starEach [e, .Name T pt] (X j).env = (false, eval e (X j).env) :: starEach [.Name T pt] (X j).env := by intro _; rfl) (he2 : ∀ j, starEach [.Name T pt] (X j).env = (false, eval (.Name T pt) (X j).env) :: starEach [] (X j).env := by intro _; rfl) (hpl : ∀ j, (backTo pos (starEach [.Name T pt] (X j).env)).any (·.1) = false := by intro _; rfl) :
    DE M xr K X W (.Call (.Name "isinstance" pp) [e, .Name T pt] [] pos) (eUn (dIsiN t) g) := by
  obtain ⟨tt, pe, c⟩ := h
  refine ⟨tCB (rIsi K) (tCons tt (tCons (tC (.ty t)) tNil)), fun j => ?_, fun G σ H F z Q hK hx ok hh => ?_⟩
  · rw [← p.k j]
    exact pe_callB call_isi (hg j) (by rw [p.g j]; exact hm) PyProof.Rows.boot_isinstance (pa_cons (pe j) (pa_cons (pe_bltn (v := .ty t) (hgT j) (by rw [p.g j]; exact hmT) hvT rfl hnT hbT) pa_nil (he2 j)) (he j)) (by decide) (by decide) (he j) (hpl j)
  · refine cmp_opd c G σ H F z _ hK hx ok (hit_bind hh fun s z1 v H1 F1 _ sm1 ok1 e1 h1 => ?_)
    have q := fin_hit ok1 h1
    cases er : rd z1 s with
    | none => rw [er] at q; exact q.elim
    | some x =>
      rw [er] at q
      have q' : Hit0 G.K F1 H1 (dIsiN t x) Q := q
      unfold dIsiN at q'
      by_cases hn : notScr x = true
      · rw [if_pos hn] at q'
        unfold dIsi at q'
        cases ek : kitB (tyD x) t with
        | none => rw [ek] at q'; exact q'.elim
        | some b =>
          rw [ek] at q'
          have ty := (EO.rv ok1 e1 er).ty ok1.sub hn
          exact ⟨v, .ty t, .type (tyD x), .type t, b, rfl, .ty t, by rw [← hK]; exact ty, kit_ty ek, q' _ (.bl b)⟩
      · rw [if_neg hn] at q'; exact q'.elim
/-! ### truth of a value -/
def dTru : D → Option Bool := fun a => match a with
  | .non => some false
  | .bl b => some b
  | .int i => some (i != 0)
  | .str z => if z.length ≤ lim then some ((z.length : Int) != 0) else none
  | .tup xs => some (!xs.isEmpty)
  | .lst xs => some (!xs.isEmpty)
  | .scr xs => some (!xs.isEmpty)
  | .emp => none
  | .exc _ _ => none
theorem da_empty {K : PySem.W.Frag} {F : Hp} {vs : List V} {ds : List D} (h : DaAll K F vs ds) : (!vs.isEmpty) = !ds.isEmpty := by
  cases h <;> rfl
theorem tru_rv {F H : Hp} {v : V} {d : D} {k : Bool} (s : Same F H) (h : Rv K F H v d) (e : dTru d = some k) : TruV K v H k := by
  cases d with
  | non => cases e; rw [h.non]; rfl
  | bl b => cases e; rw [h.bl]; rfl
  | int i => cases e; rw [h.int]; rfl
  | str z =>
    unfold dTru at e
    by_cases hl : z.length ≤ lim
    · simp only [if_pos hl] at e
      cases e
      rw [h.str]
      exact ⟨limLe hl, rfl⟩
    · simp only [if_neg hl] at e
      cases e
  | tup xs =>
    cases e
    obtain ⟨a, vs, rfl, h1, h2⟩ := h.tup s
    exact .inr (.inl ⟨vs, h1, (da_empty h2).symm⟩)
  | lst xs =>
    cases e
    obtain ⟨a, vs, rfl, h1, h2⟩ := h.lst s
    exact .inl ⟨vs, SqL.of h1, (da_empty h2).symm⟩
  | scr xs =>
    cases e
    obtain ⟨a, rfl, h1⟩ := h.scr s
    exact .inl ⟨_, h1, by cases xs <;> rfl⟩
  | emp => cases e
  | exc _ _ => cases e
theorem dt_tru {e : Expr} {g : Sm M S} (p : Pl K X N mg) (h : DE M xr K X W e g) (he : ∀ j whole, isTrue e (X j).env whole = (do let v ← whole; standAt e.pos; holding [v] (truthy v)) := by intro _ _; rfl) : DT M xr K X W e (tTru dTru g) := by
  obtain ⟨t, pe, c⟩ := h
  refine ⟨fun σ H Q => t σ H fun x H1 => ∃ k, TruV K x H1 k ∧ Q k H1, fun j => ?_, fun G σ H F z Q hK hx ok hh => ?_⟩
  · rw [← p.k j]
    exact pt_truth (pe j) (he j)
  · refine cmp_opd c G σ H F z _ hK hx ok (hit_bind hh fun s z1 v H1 F1 _ sm1 ok1 e1 h1 => ?_)
    cases er : rd z1 s with
    | none => rw [er] at h1; exact h1.elim
    | some x =>
      rw [er] at h1
      have h2 : HitG M G W σ F1 (RelB G σ) (Rs.opt (dTru x) z1) Q := h1
      cases ek : dTru x with
      | none => rw [ek] at h2; exact h2.elim
      | some k =>
        rw [ek] at h2
        exact ⟨k, by rw [← hK]; exact tru_rv ok1.sub (EO.rv ok1 e1 er) ek, h2 k H1 F1 (Same.refl _) ok1 rfl⟩
/-! ### what is walked -/
def iAny (K : PySem.W.Frag) (tl : TE) : TI := fun σ H R => tl σ H fun x H1 => (∃ a, x = .ref a ∧ (∃ xs, SqL K H1 a xs) ∧ R (Itl K a) H1) ∨ (∃ a, x = .ref a ∧ (∃ xs, SqT K H1 a xs) ∧ R (Itt K a) H1) ∨ ∃ y, x = .str y ∧ R (Its y) H1
theorem pi_any {Y : Cx} {tg l : Expr} {tl : TE} (hl : PE Y l tl) : PI Y tg l (iAny Y.K tl) := by
  refine ⟨fun pins s σ H R I h => ?_⟩
  refine thn (hl.run pins s σ H _ I h) fun v s1 ⟨x, H1, I1, r1, q1⟩ => ?_
  rcases q1 with ⟨a, rfl, ⟨xs, hq⟩, q⟩ | ⟨a, rfl, ⟨xs, hq⟩, q⟩ | ⟨y, rfl, q⟩
  · cases r1
    obtain ⟨its, rv, p, hz⟩ := I1.list hq
    exact wpAny_pyIter_list p.isList (pi_one (tk := s1.toks) I1 _ (turn_list a _) ⟨_, Heap.get?_push_size _ rfl, rfl, rfl⟩ q)
  · cases r1
    obtain ⟨its, rv, p, hz⟩ := I1.tuple hq
    exact wpAny_pyIter_tuple (show s1.heap.IsTuple a its.toArray from p) (pi_one (tk := s1.toks) I1 _ (turn_tuple a _) ⟨_, Heap.get?_push_size _ rfl, rfl, rfl⟩ q)
  · obtain ⟨t, rfl⟩ := r1
    cases ha : y.cps.all (· < 128)
    · exact wpAny_pyIter_wide ha (pi_one (tk := s1.toks) I1 _ (turn_str _ y t "str_iterator" (.inr rfl)) ⟨_, Heap.get?_push_size _ rfl, rfl, rfl⟩ q)
    · exact wpAny_pyIter_ascii ha (pi_one (tk := s1.toks) I1 _ (turn_str _ y t "str_ascii_iterator" (.inl rfl)) ⟨_, Heap.get?_push_size _ rfl, rfl, rfl⟩ q)
def itemsD : D → Option (List D)
  | .lst xs => some xs
  | .tup xs => some xs
  | .scr ns => some (ns.map D.int)
  | .str z => some (z.cps.toList.map fun c => .str ⟨#[c]⟩)
  | _ => none
def iAnyM (f : Sm M S) : Sm M (List D) := fun z => (escf f z).bind fun s z1 => match s with
  | .d x => Rs.opt (itemsD x) z1
  | _ => .bad
theorem yd_old {F : Hp} {ds : List D} {i : Nat} {H : Hp} {v : V} {d : D} (hd : ds[i]? = some d) (da : Da K F v d) : YD K F ds i H v H := ⟨d, hd, fun F1 s1 s2 => ⟨F1, Same.refl _, s2, fun b o e => ⟨e, rfl⟩, da.mono s1⟩⟩
theorem di_any {tg l : Expr} {g : Sm M S} (p : Pl K X N mg) (h : DE M xr K X W l g) : DI M xr K X W tg l (iAnyM g) := by
  obtain ⟨t, pe, c⟩ := h
  refine ⟨iAny K t, fun j => by rw [← p.k j]; exact pi_any (pe j), fun G σ H F z Q hK hx ok hh => ?_⟩
  refine cmp_esc c G σ H F z _ hK hx ok (hit_bind hh fun s z1 v H1 F1 _ sm ok1 ev h1 => ?_)
  subst hK
  cases s with
  | d x =>
    have ev' : Da G.K F1 v x := ev
    cases x with
    | lst xs =>
      cases ev' with
      | lst q r =>
        rename_i a vs
        refine .inl ⟨a, rfl, ⟨vs, SqL.of (ok1.sub _ _ q)⟩, h1 _ H1 F1 (Same.refl _) ok1 ?_⟩
        have w := (walk_list (K := G.K) (a := a) (xs := vs)).mono (G' := fun H => Same F1 H) (Y' := YD G.K F1 xs) (fun H s => SqL.of (s _ _ q)) (fun i H x H' hi _ ⟨e1, e2⟩ => by
          obtain ⟨d, hd, da⟩ := r.getV e2
          rw [e1]
          exact yd_old hd da)
        rw [r.length] at w
        exact w
    | tup xs =>
      cases ev' with
      | tup q r =>
        rename_i a vs
        refine .inr (.inl ⟨a, rfl, ⟨vs, sqT_mono ok1.sub q⟩, h1 _ H1 F1 (Same.refl _) ok1 ?_⟩)
        have w := (walk_tup (K := G.K) (a := a) (xs := vs)).mono (G' := fun H => Same F1 H) (Y' := YD G.K F1 xs) (fun H s => sqT_mono s q) (fun i H x H' hi _ ⟨e1, e2⟩ => by
          obtain ⟨d, hd, da⟩ := r.getV e2
          rw [e1]
          exact yd_old hd da)
        rw [r.length] at w
        exact w
    | scr ns =>
      cases ev' with
      | scr q =>
        rename_i a
        refine .inl ⟨a, rfl, ⟨_, ok1.sub.seq q⟩, h1 _ H1 F1 (Same.refl _) ok1 ?_⟩
        have w := (walk_list (K := G.K) (a := a) (xs := ns.map V.int)).mono (G' := fun H => Same F1 H) (Y' := YD G.K F1 (ns.map D.int)) (fun H s => s.seq q) (fun i H x H' hi _ ⟨e1, e2⟩ => by
          obtain ⟨d, hd, da⟩ := (DaAll.ints (K := G.K) (F := F1) ns).getV e2
          rw [e1]
          exact yd_old hd da)
        rw [List.length_map] at w
        show Walk _ (ns.map D.int).length _ _
        rw [List.length_map]
        exact w
    | str y =>
      cases ev'
      refine .inr (.inr ⟨y, rfl, h1 _ H1 F1 (Same.refl _) ok1 ?_⟩)
      have w := (walk_str (z := y)).mono (G' := fun H => Same F1 H) (Y' := YD G.K F1 (y.cps.toList.map fun c => D.str ⟨#[c]⟩)) (fun H s => trivial) (fun i H x H' hi _ ⟨e1, c, e2, e3⟩ => by
        rw [e1, e3]
        exact yd_old (by rw [List.getElem?_map, Array.getElem?_toList, e2]; rfl) (.str _))
      show Walk _ (y.cps.toList.map fun c => D.str ⟨#[c]⟩).length _ _
      rw [List.length_map, Array.length_toList]
      exact w
    | _ => exact h1.elim
  | _ => exact h1.elim
def rangeD (lo : Int) (n : Nat) : List D := (List.range n).map fun (i : Nat) => D.int (lo + (i : Int))
def iRg1M (g : Sm M (List S)) : Sm M (List D) := fun z => (g z).bind fun ss z1 => match ss with
  | [.d (.int j)] => if -(2 ^ 62) ≤ j ∧ j < 2 ^ 62 then .ok (rangeD 0 j.toNat) z1 else .bad
  | _ => .bad
theorem wk_range {F : Hp} (lo : Int) (n : Nat) : Wk K F (Itr lo n) (rangeD lo n) := by
  have w := (walk_range (lo := lo) (n := n)).mono (G' := fun H => Same F H) (Y' := YD K F (rangeD lo n)) (fun H s => trivial) (fun i H x H' hi _ ⟨e1, e2⟩ => by
    rw [e1, e2]
    refine yd_old (d := .int (lo + (i : Int))) ?_ (.int _)
    unfold rangeD
    rw [List.getElem?_map, List.getElem?_range hi]
    rfl)
  unfold Wk
  have e : (rangeD lo n).length = n := by
    unfold rangeD
    rw [List.length_map, List.length_range]
  rw [e]
  exact w
theorem di_range1 {tg e : Expr} {g : Sm M (List S)} {pp : Pos} (p : Pl K X N mg) (hm : mg "range" = none) (ha : DA M xr K X W [e] g) (hg : ∀ j, Gl (X j) "range" := by intro _; rfl) (hs : ∀ j, starEach [e] (X j).env = [(false, eval e (X j).env)] := by intro _; rfl) : DI M xr K X W tg (.Call (.Name "range" pp) [e] [] pos) (iRg1M g) := by
  obtain ⟨t, pa, c⟩ := ha
  refine ⟨_, fun j => pi_range1 (hg j) (by rw [p.g j]; exact hm) (pa j) (hs j), fun G σ H F z Q hK hx ok hh => ?_⟩
  refine c G σ H F z _ hK hx ok (hit_bind hh fun ss z1 vs H1 F1 _ sm ok1 ea h1 => ?_)
  unfold RelA at ea
  match ss, ea, h1 with
  | [.d (.int j)], ea, h1 =>
    by_cases hj : -(2 ^ 62) ≤ j ∧ j < 2 ^ 62
    · simp only [if_pos hj] at h1
      cases ea with
      | cons r t =>
        cases t
        cases (show Da G.K F1 _ (.int j) from r)
        exact ⟨j, rfl, hj.1, hj.2, h1 _ H1 F1 (Same.refl _) ok1 (wk_range 0 j.toNat)⟩
    · simp only [if_neg hj] at h1
      exact h1.elim
  | [], _, h1 => exact h1.elim
  | [.l _], _, h1 => exact h1.elim
  | [.v _], _, h1 => exact h1.elim
  | [.m _], _, h1 => exact h1.elim
  | [.d .non], _, h1 => exact h1.elim
  | [.d (.bl _)], _, h1 => exact h1.elim
  | [.d (.str _)], _, h1 => exact h1.elim
  | [.d (.tup _)], _, h1 => exact h1.elim
  | [.d (.lst _)], _, h1 => exact h1.elim
  | [.d (.scr _)], _, h1 => exact h1.elim
  | [.d .emp], _, h1 => exact h1.elim
  | [.d (.exc _ _)], _, h1 => exact h1.elim
  | .d (.int _) :: _ :: _, _, h1 => exact h1.elim
  | .d .non :: _ :: _, _, h1 => exact h1.elim
  | .d (.bl _) :: _ :: _, _, h1 => exact h1.elim
  | .d (.str _) :: _ :: _, _, h1 => exact h1.elim
  | .d (.tup _) :: _ :: _, _, h1 => exact h1.elim
  | .d (.lst _) :: _ :: _, _, h1 => exact h1.elim
  | .d (.scr _) :: _ :: _, _, h1 => exact h1.elim
  | .d .emp :: _ :: _, _, h1 => exact h1.elim
  | .d (.exc _ _) :: _ :: _, _, h1 => exact h1.elim
  | .l _ :: _ :: _, _, h1 => exact h1.elim
  | .v _ :: _ :: _, _, h1 => exact h1.elim
  | .m _ :: _ :: _, _, h1 => exact h1.elim
end
end G
namespace G
open PySem L2
/-! ### the law's drawing machine: a dict with cells, at, left -/
structure Mach where
  cells : List Int
  at_ : Nat
  left : List Int
def mkvs (c lf : Addr) (k : Int) : List (Key × V) := [(Sum.inr ("cells" : Str), .ref c), (Sum.inr ("at" : Str), .int k), (Sum.inr ("left" : Str), .ref lf)]
theorem k_ca : ¬ ((Sum.inr ("cells" : Str) : Key) = Sum.inr ("at" : Str)) := by decide +kernel
theorem k_cl : ¬ ((Sum.inr ("cells" : Str) : Key) = Sum.inr ("left" : Str)) := by decide +kernel
theorem k_al : ¬ ((Sum.inr ("at" : Str) : Key) = Sum.inr ("left" : Str)) := by decide +kernel
theorem k_la : ¬ ((Sum.inr ("left" : Str) : Key) = Sum.inr ("at" : Str)) := by decide +kernel
theorem mk_at (c lf : Addr) (k : Int) : valV (mkvs c lf k) (Sum.inr ("at" : Str)) = some (.int k) := by
  unfold mkvs
  rw [valV_neg k_ca, valV_pos rfl]
theorem mk_cells (c lf : Addr) (k : Int) : valV (mkvs c lf k) (Sum.inr ("cells" : Str)) = some (.ref c) := by
  unfold mkvs
  rw [valV_pos rfl]
theorem mk_left (c lf : Addr) (k : Int) : valV (mkvs c lf k) (Sum.inr ("left" : Str)) = some (.ref lf) := by
  unfold mkvs
  rw [valV_neg k_cl, valV_neg k_al, valV_pos rfl]
theorem mk_put (c lf : Addr) (k j : Int) : putK (mkvs c lf k) (Sum.inr ("at" : Str)) (.int j) = mkvs c lf j := by
  unfold putK mkvs
  rw [if_pos (by simp)]
  simp only [List.map_cons, List.map_nil, if_neg k_ca, if_neg k_la, if_true]
abbrev M1 : MI where
  T := Mach
  ok := fun _ F H ms t => ∃ m lf c, ms = [m, lf] ∧ m ≠ lf ∧ H m = some (.dK (mkvs c lf t.at_)) ∧ H lf = some (.lst (t.left.map V.int)) ∧ F c = some (.lst (t.cells.map V.int)) ∧ t.left.length = t.cells.length
  mono := fun {K F F' H H' ms t} hF hm h => by
    obtain ⟨m, lf, c, rfl, hn, h1, h2, h3, h4⟩ := h
    exact ⟨m, lf, c, rfl, hn, (hm m (by simp)).trans h1, (hm lf (by simp)).trans h2, hF _ _ h3, h4⟩
def atOf (t : Mach) : Nat := t.at_ % max 1 t.cells.length
def rawNum (c k : Int) : Int := ((c + 7919 * k * k + 31 * k) * 48271 % 2147483647 * 69621 % 2147483629) / 64 * 16807 % 2147483647 / 32
def nextM (t : Mach) (many : Int) : Int × Mach :=
  if t.cells ≠ [] ∧ t.left.getD (atOf t) 0 > 0 then (t.left.getD (atOf t) 0 % many, { t with at_ := t.at_ + 1, left := t.left.set (atOf t) (t.left.getD (atOf t) 0 / many) })
  else (rawNum (if t.cells ≠ [] then t.cells.getD (atOf t) 0 % 2147483647 else 17) t.at_ % many, { t with at_ := t.at_ + 1 })
def drawLim : Nat := 2 ^ 60
def nextS : List S → Mach → Rs S Mach := fun args t => match args with
  | [.m 0, .d (.int many)] => if 0 < many ∧ many < 1073741824 ∧ t.at_ < drawLim then .ok (.d (.int (nextM t many).1)) (nextM t many).2 else .bad
  | _ => .bad
def t_fin : TS :=
  tSeq (tAsg (tOp (rI (fun _ j => 0 < j) fun i j => .int (i % j)) (tOp (rI CMul fun i j => .int (i * j)) (tOp (rI (fun _ j => 0 < j) fun i j => .int (i % j)) (tOp (rI CMul fun i j => .int (i * j)) (tOp (rI0 fun i j => .int (i + j)) (tOp (rI0 fun i j => .int (i + j)) (tVar 6) (tOp (rI CMul fun i j => .int (i * j)) (tOp (rI CMul fun i j => .int (i * j)) (tC (.int 7919)) (tVar 2)) (tVar 2))) (tOp (rI CMul fun i j => .int (i * j)) (tC (.int 31)) (tVar 2))) (tC (.int 48271))) (tC (.int 2147483647))) (tC (.int 69621))) (tC (.int 2147483629))) (gName 7))
  (tRet (tOp (rI (fun _ j => 0 < j) fun i j => .int (i % j)) (tOp (rI CDiv fun i j => .int (i / j)) (tOp (rI (fun _ j => 0 < j) fun i j => .int (i % j)) (tOp (rI CMul fun i j => .int (i * j)) (tOp (rI CDiv fun i j => .int (i / j)) (tVar 7) (tC (.int 64))) (tC (.int 16807))) (tC (.int 2147483647))) (tC (.int 32))) (tVar 1)))
def t_tail (K : PySem.W.Frag) : TS :=
  tSeq (tAsg (tC (.int 17)) (gName 6))
  (tSeq (tIfS (tTest (tOp (rNeD K) (tVar 3) (tLst tNil))) (tAsg (tOp (rI (fun _ j => 0 < j) fun i j => .int (i % j)) (tOp (rIxL K) (tVar 3) (tVar 4)) (tC (.int 2147483647))) (gName 6)) tNext)
  t_fin)
def t_rest (K : PySem.W.Frag) : TS :=
  tSeq (tIfS (tAnd (tTest (tOp (rNeD K) (tVar 3) (tLst tNil))) (tTest (tOp (rI0 fun i j => .bl (decide (j < i))) (tOp (rIxL K) (tDGet (tVar 0) (tC (.str "left"))) (tVar 4)) (tC (.int 0)))))
      (tSeq (tAsg (tOp (rI (fun _ j => 0 < j) fun i j => .int (i % j)) (tOp (rIxL K) (tDGet (tVar 0) (tC (.str "left"))) (tVar 4)) (tVar 1)) (gName 5))
      (tSeq (tAsg (tOp (rI CDiv fun i j => .int (i / j)) (tOp (rIxL K) (tDGet (tVar 0) (tC (.str "left"))) (tVar 4)) (tVar 1)) (gSub (tDGet (tVar 0) (tC (.str "left"))) (tVar 4) rSetL))
      (tRet (tVar 5)))) tNext)
  (t_tail K)
def t_next (K : PySem.W.Frag) : TS :=
  tSeq (tAsg (tDGet (tVar 0) (tC (.str "at"))) (gName 2))
  (tSeq (sDPut (tVar 0) (tC (.str "at")) (tOp (rI0 fun i j => .int (i + j)) (tVar 2) (tC (.int 1))))
  (tSeq (tAsg (tDGet (tVar 0) (tC (.str "cells"))) (gName 3))
  (tSeq (tAsg (tOp (rI (fun _ j => 0 < j) fun i j => .int (i % j)) (tVar 2) (tCB (fun xs H Q => ∃ i j, xs = [.int i, .int j] ∧ Q (.int (if j > i then j else i)) H) (tCons (tC (.int 1)) (tCons (tCB (fun xs H Q => ∃ p ys, xs = [.ref p] ∧ (SqL K H p ys ∨ SqT K H p ys) ∧ Q (.int ys.length) H) (tCons (tVar 3) tNil)) tNil)))) (gName 4))
  (t_rest K))))
def nextN : List Str := ["_law_m", "_law_many", "_law_k", "_law_cells", "_law_at", "_law_found", "_law_cell", "_law_number"]
theorem eqvAll_ints : ∀ ns : List Int, PyData.eqvAll (ns.map PyData.int) [] = ns.isEmpty
  | [] => by rw [List.map_nil, PyData.eqvAll]; rfl
  | n :: r => by rw [List.map_cons, PyData.eqvAll]; rfl
theorem eqv_ints (ns : List Int) : PyData.eqv (.list (ns.map PyData.int)) (.list []) = ns.isEmpty := by
  rw [PyData.eqv]
  exact eqvAll_ints ns
theorem shaped_nil : SeqAt.shaped (.list []) = true := by decide +kernel
theorem shaped_ints (ns : List Int) : SeqAt.shaped (.list (ns.map PyData.int)) = true := by
  have a : ∀ ns : List Int, PyData.canLayAll0 (ns.map PyData.int) = true := fun ns => by
    induction ns with
    | nil => rfl
    | cons n r ih =>
      rw [List.map_cons, PyData.canLayAll0, ih, PyData.canLay0]
      rfl
  have b : ∀ ns : List Int, PyData.depthAll (ns.map PyData.int) ≤ 2 := fun ns => by
    induction ns with
    | nil => simp [PyData.depthAll]
    | cons n r ih =>
      rw [List.map_cons, PyData.depthAll, PyData.depth]
      omega
  unfold SeqAt.shaped
  rw [PyData.canLay0, a, PyData.depth]
  have := b ns
  simp
  omega
theorem max1 (n : Nat) : (if ((n : Nat) : Int) > 1 then ((n : Nat) : Int) else 1) = ((max 1 n : Nat) : Int) := by
  split <;> omega
theorem atOf_lt {t : Mach} (h : t.cells ≠ []) : atOf t < t.cells.length := by
  have : 0 < t.cells.length := List.length_pos_iff.mpr h
  unfold atOf
  have := Nat.mod_lt t.at_ (show 0 < max 1 t.cells.length by omega)
  omega
theorem getI {ns : List Int} {i : Nat} (h : i < ns.length) : atI (ns.map V.int) ((i : Nat) : Int) = some (.int (ns.getD i 0)) := by
  refine atI_nat ?_
  rw [List.getElem?_map, List.getElem?_eq_getElem h, List.getD_eq_getElem?_getD, List.getElem?_eq_getElem h]
  rfl
theorem set_ints (ns : List Int) (i : Nat) (n : Int) : (ns.map V.int).set i (.int n) = (ns.set i n).map V.int := (List.map_set).symm
theorem ce_ne {H : Hp} {a b : Addr} {o u : HO} (h : H a = some o) (h' : H b = some u) (d : o ≠ u) : a ≠ b := ne_of h h' d
theorem run_fin {D : Ends} {many k cv : Int} {a0 a3 a4 a5 : Option V} {H : Hp} (hp : 0 < many) (h0 : 0 ≤ k) (hk : k < 2 ^ 60) (h : D.rt (.int (rawNum cv k % many)) H) : t_fin D [a0, some (.int many), some (.int k), a3, a4, a5, some (.int cv), none] H := by
  refine ⟨_, rfl, _, rfl, _, _, rfl, rfl, .inl ⟨by decide, by decide⟩, _, rfl, _, k, rfl, rfl, .inr ⟨by omega, by omega⟩, _, _, rfl, rfl, _, rfl, _, _, rfl, rfl, .inl ⟨by decide, by decide⟩, _, _, rfl, rfl, _, _, rfl, rfl, .inr ⟨by decide, by decide⟩, _, _, rfl, rfl, (by show (0 : Int) < 2147483647; decide), _, _, rfl, rfl, .inr ⟨by decide, by decide⟩, _, _, rfl, rfl, (by show (0 : Int) < 2147483629; decide), ?_⟩
  refine ⟨_, rfl, _, _, rfl, rfl, ⟨by decide, by decide⟩, _, _, rfl, rfl, .inr ⟨by decide, by decide⟩, _, _, rfl, rfl, (by show (0 : Int) < 2147483647; decide), _, _, rfl, rfl, ⟨by decide, by decide⟩, _, rfl, _, _, rfl, rfl, hp, ?_⟩
  exact h
theorem ne_nil_ints (K : PySem.W.Frag) {H : Hp} {c p : Addr} {ns : List Int} {Q : VK} (hc : H c = some (.lst (ns.map V.int))) (hp : H p = some (.lst [])) (q : Q (.bl (!ns.isEmpty)) H) : rNeD K (.ref c) (.ref p) H Q := by
  refine ⟨.list (ns.map PyData.int), .list [], .lst (SqL.of hc) (dp_ints _), .lst (SqL.of hp) .nil, shaped_ints _, shaped_nil, ?_⟩
  rw [eqv_ints]
  exact q
theorem run_tail {K : PySem.W.Frag} {D : Ends} {many k : Int} {c : Addr} {ns : List Int} {a : Nat} {a0 a5 : Option V} {H : Hp} (hp : 0 < many) (h0 : 0 ≤ k) (hk : k < 2 ^ 60) (hc : H c = some (.lst (ns.map V.int))) (ha : ns ≠ [] → a < ns.length)
    (h : ∀ p, H p = none → D.rt (.int (rawNum (if ns ≠ [] then ns.getD a 0 % 2147483647 else 17) k % many)) (upd H p (.lst []))) : t_tail K D [a0, some (.int many), some (.int k), some (.ref c), some (.int ((a : Nat) : Int)), a5, none, none] H := by
  refine ⟨_, rfl, Nat.zero_le _, fun p hpn => ?_⟩
  have hc2 : (upd H p (.lst [])) c = some (.lst (ns.map V.int)) := by rw [upd_ne (ne_of_none hc hpn)]; exact hc
  have h' := h p hpn
  refine ne_nil_ints K hc2 upd_same ⟨_, rfl, ?_⟩
  cases ns with
  | nil =>
    refine iteF ?_
    exact run_fin hp h0 hk h'
  | cons n r =>
    refine iteT ?_
    refine ⟨_, rfl, _, rfl, c, _, _, _, rfl, rfl, SqL.of hc2, getI (ha (by intro e; cases e)), _, _, rfl, rfl, (by show (0 : Int) < 2147483647; decide), ?_⟩
    exact run_fin hp h0 hk h'
theorem nextS_inv {args : List S} {t : Mach} (h : nextS args t ≠ .bad) : ∃ many, args = [.m 0, .d (.int many)] ∧ 0 < many ∧ many < 1073741824 ∧ t.at_ < drawLim ∧ nextS args t = .ok (.d (.int (nextM t many).1)) (nextM t many).2 := by
  unfold nextS at h ⊢
  split at h
  · rename_i many
    by_cases hc : 0 < many ∧ many < 1073741824 ∧ t.at_ < drawLim
    · exact ⟨many, rfl, hc.1, hc.2.1, hc.2.2, if_pos hc⟩
    · rw [if_neg hc] at h; exact (h rfl).elim
  · exact (h rfl).elim
theorem run_next {K : PySem.W.Frag} {xr : Str → Option Value} {vs : List V} {H : Hp} {Q : VK} {E : XK} (h : spM M1 K xr 2 nextS vs H Q E) : t_next K { nx := fun _ H' => Q .non H', rt := Q } (L2.start nextN vs) H := by
  obtain ⟨hl, ms, F, args, t, sub, mach, msx, hv, h⟩ := h
  obtain ⟨m, lf, c, rfl, hne, h1, h2, h3, h4⟩ := mach
  have hb : nextS args t ≠ .bad := fun e => by rw [e] at h; exact h
  obtain ⟨many, rfl, hp, hq, hd, en⟩ := nextS_inv hb
  rw [en] at h
  obtain ⟨v0, v1, rfl, ra, rb⟩ : ∃ v0 v1, vs = [v0, v1] ∧ AV K F [m, lf] v0 (.m 0) ∧ AV K F [m, lf] v1 (.d (.int many)) := by
    cases hv with
    | cons a b => cases b with
      | cons b c => cases c; exact ⟨_, _, rfl, a, b⟩
  obtain ⟨m', hm', rfl⟩ := ra
  have em : m = m' := Option.some.inj hm'
  subst em
  cases (show Da K F v1 (.int many) from rb)
  have hcH : H c = some (.lst (t.cells.map V.int)) := sub _ _ h3
  have hmF : F m = none := (msx m (by simp)).1
  have hlF : F lf = none := (msx lf (by simp)).1
  have ncm : c ≠ m := fun e => by rw [e, hmF] at h3; cases h3
  have ncl : c ≠ lf := fun e => by rw [e, hlF] at h3; cases h3
  -- k = m['at']; m['at'] = k + 1
  refine ⟨.ref m, rfl, m, .int (t.at_ : Int), rfl, by rw [← mk_at c lf]; exact DGet.k (k := Sum.inr ("at" : Str)) h1, ?_⟩
  have dp := DPut.k (k := Sum.inr ("at" : Str)) (v := .int ((t.at_ : Int) + 1)) h1 (small1000 (by show 3 ≤ 1000; decide))
  rw [mk_put] at dp
  refine ⟨.int (t.at_ : Int), rfl, (t.at_ : Int), 1, rfl, rfl, .ref m, rfl, m, _, rfl, dp, ?_⟩
  generalize hH1 : upd H m (.dK (mkvs c lf ((t.at_ : Int) + 1))) = H1
  have e1 : H1 m = some (.dK (mkvs c lf ((t.at_ : Int) + 1))) := by rw [← hH1]; exact upd_same
  have e2 : H1 lf = some (.lst (t.left.map V.int)) := by rw [← hH1, upd_ne hne.symm]; exact h2
  have e3 : H1 c = some (.lst (t.cells.map V.int)) := by rw [← hH1, upd_ne ncm]; exact hcH
  have s1 : Same F H1 := by rw [← hH1]; exact same_updR sub hmF
  have fr1 : ∀ b o, H b = some o → b ∉ [m, lf] → H1 b = some o := fun b o e n => by
    rw [← hH1, upd_ne (fun z => n (by rw [z]; simp))]
    exact e
  -- cells = m['cells']; at = k % max(1, len(cells))
  refine ⟨.ref m, rfl, m, .ref c, rfl, by rw [← mk_cells c lf]; exact DGet.k (k := Sum.inr ("cells" : Str)) e1, ?_⟩
  refine ⟨.int (t.at_ : Int), rfl, .ref c, rfl, c, _, rfl, .inl (SqL.of e3), 1, _, rfl, (t.at_ : Int), _, rfl, rfl, ?_, ?_⟩
  · split <;> omega
  have ea : (t.at_ : Int) % (if (((t.cells.map V.int).length : Nat) : Int) > 1 then (((t.cells.map V.int).length : Nat) : Int) else 1) = ((atOf t : Nat) : Int) := by
    rw [max1, List.length_map]
    exact (Int.natCast_emod _ _).symm
  show t_rest K _ [some (.ref m), some (.int many), some (.int (t.at_ : Int)), some (.ref c), some (.int ((t.at_ : Int) % (if (((t.cells.map V.int).length : Nat) : Int) > 1 then (((t.cells.map V.int).length : Nat) : Int) else 1))), none, none, none] H1
  rw [ea]
  have dpc : ∀ {G : Hp}, G c = some (.lst (t.cells.map V.int)) → Dp K G (.ref c) (.list (t.cells.map PyData.int)) := fun e => .lst (SqL.of e) (dp_ints _)
  have tail : t.cells ≠ [] ∧ t.left.getD (atOf t) 0 > 0 → False → False := fun _ z => z
  -- the way out of the first if
  have rest2 : ∀ H2 : Hp, Same F H2 → H2 m = H1 m → H2 lf = H1 lf → H2 c = some (.lst (t.cells.map V.int)) → (∀ b o, H1 b = some o → H2 b = some o) → ¬ (t.cells ≠ [] ∧ t.left.getD (atOf t) 0 > 0) →
      Q (.int (nextM t many).1) H2 := fun H2 g1 g2 g3 g4 g5 hn => by
    have en : nextM t many = (rawNum (if t.cells ≠ [] then t.cells.getD (atOf t) 0 % 2147483647 else 17) t.at_ % many, { t with at_ := t.at_ + 1 }) := if_neg hn
    refine h _ H2 F (Same.refl _) ⟨g1, ⟨m, lf, c, rfl, hne, ?_, ?_, ?_, ?_⟩, fun a ha => ?_, fun b o e n => ⟨g5 _ _ (fr1 b o e n), rfl⟩⟩ (Da.int _)
    · rw [g2, e1, en]
      rfl
    · rw [g3, e2, en]
    · rw [en]; exact h3
    · rw [en]; exact h4
    · refine ⟨(msx a ha).1, fun z => ?_⟩
      rcases List.mem_cons.mp ha with rfl | ha
      · rw [g2, e1] at z; cases z
      · have ea2 : a = lf := by simpa using ha
        rw [ea2, g3, e2] at z; cases z
  have hk0 : (0 : Int) ≤ (t.at_ : Int) := Int.natCast_nonneg _
  have hk : (t.at_ : Int) < 2 ^ 60 := by
    have : t.at_ < 2 ^ 60 := hd
    omega
  have hal : t.cells ≠ [] → atOf t < t.cells.length := atOf_lt
  -- if cells != [] and m['left'][at] > 0
  refine ⟨_, rfl, Nat.zero_le _, fun p hpn => ?_⟩
  have nmp : m ≠ p := ne_of_none e1 hpn
  have nlp : lf ≠ p := ne_of_none e2 hpn
  have ncp : c ≠ p := ne_of_none e3 hpn
  have f1 : (upd H1 p (.lst [])) m = some (.dK (mkvs c lf ((t.at_ : Int) + 1))) := (upd_ne nmp).trans e1
  have f2 : (upd H1 p (.lst [])) lf = some (.lst (t.left.map V.int)) := (upd_ne nlp).trans e2
  have f3 : (upd H1 p (.lst [])) c = some (.lst (t.cells.map V.int)) := (upd_ne ncp).trans e3
  have f4 : Same F (upd H1 p (.lst [])) := same_updR s1 (s1.free hpn)
  have f5 : ∀ b o, H1 b = some o → (upd H1 p (.lst [])) b = some o := fun b o e => (upd_ne (ne_of_none e hpn)).trans e
  have final : ¬ (t.cells ≠ [] ∧ t.left.getD (atOf t) 0 > 0) → ∀ q, (upd H1 p (.lst [])) q = none → Q (.int (rawNum (if t.cells ≠ [] then t.cells.getD (atOf t) 0 % 2147483647 else 17) t.at_ % many)) (upd (upd H1 p (.lst [])) q (.lst [])) := fun hn q hqn => by
    have en : nextM t many = (rawNum (if t.cells ≠ [] then t.cells.getD (atOf t) 0 % 2147483647 else 17) t.at_ % many, { t with at_ := t.at_ + 1 }) := if_neg hn
    have z := rest2 (upd (upd H1 p (.lst [])) q (.lst [])) (same_updR f4 (f4.free hqn)) ((upd_ne (ne_of_none f1 hqn)).trans (f1.trans e1.symm)) ((upd_ne (ne_of_none f2 hqn)).trans (f2.trans e2.symm)) ((upd_ne (ne_of_none f3 hqn)).trans f3)
      (fun b o e => (upd_ne (ne_of_none (f5 b o e) hqn)).trans (f5 b o e)) hn
    rw [en] at z
    exact z
  refine ne_nil_ints K f3 upd_same ⟨_, rfl, ?_⟩
  by_cases hcs : t.cells = []
  · have eb : (!t.cells.isEmpty) = false := by rw [hcs]; rfl
    rw [eb]
    refine iteF ?_
    refine iteF ?_
    exact run_tail hp hk0 hk f3 hal (final (fun z => z.1 hcs))
  · have eb : (!t.cells.isEmpty) = true := by
      cases q : t.cells with
      | nil => exact (hcs q).elim
      | cons _ _ => rfl
    rw [eb]
    refine iteT ?_
    have hla : atOf t < t.left.length := by rw [h4]; exact hal hcs
    have gl : ∀ {G : Hp}, G m = some (.dK (mkvs c lf ((t.at_ : Int) + 1))) → DGet G m (.str "left") (some (.ref lf)) := fun e => by
      rw [← mk_left c lf ((t.at_ : Int) + 1)]
      exact DGet.k (k := Sum.inr ("left" : Str)) e
    refine ⟨_, rfl, m, _, rfl, gl f1, _, rfl, lf, _, _, _, rfl, rfl, SqL.of f2, getI hla, _, _, rfl, rfl, _, rfl, ?_⟩
    refine ite2 (fun hgt => ?_) (fun hgt => ?_)
    · have hg : t.left.getD (atOf t) 0 > 0 := of_decide_eq_true hgt
      have en : nextM t many = (t.left.getD (atOf t) 0 % many, { t with at_ := t.at_ + 1, left := t.left.set (atOf t) (t.left.getD (atOf t) 0 / many) }) := if_pos ⟨hcs, hg⟩
      refine ⟨_, rfl, m, _, rfl, gl f1, _, rfl, lf, _, _, _, rfl, rfl, SqL.of f2, getI hla, _, rfl, _, _, rfl, rfl, hp, ?_⟩
      refine ⟨_, rfl, m, _, rfl, gl f1, _, rfl, lf, _, _, _, rfl, rfl, SqL.of f2, getI hla, _, rfl, _, _, rfl, rfl, ⟨hp, hq⟩, ?_⟩
      refine ⟨_, rfl, m, _, rfl, gl f1, _, rfl, lf, _, _, atOf t, rfl, rfl, f2, ?_, ?_⟩
      · unfold ixN
        rw [List.length_map, if_pos (by omega), if_pos (by omega), Int.toNat_natCast]
      · refine ⟨_, rfl, ?_⟩
        rw [set_ints]
        have z := h (.int (t.left.getD (atOf t) 0 % many)) (upd (upd H1 p (.lst [])) lf (.lst ((t.left.set (atOf t) (t.left.getD (atOf t) 0 / many)).map V.int))) F (Same.refl _)
        rw [en] at z
        refine z ⟨same_updR f4 hlF, ⟨m, lf, c, rfl, hne, (upd_ne hne).trans f1, upd_same, h3, by simp [h4]⟩, fun a ha => ⟨(msx a ha).1, fun y => ?_⟩, fun b o e n => ⟨?_, rfl⟩⟩ (Da.int _)
        · rcases List.mem_cons.mp ha with rfl | ha
          · rw [upd_ne hne, f1] at y; cases y
          · have ea2 : a = lf := by simpa using ha
            rw [ea2, upd_same] at y; cases y
        · rw [upd_ne (fun y => n (by rw [y]; simp))]
          exact f5 _ _ (fr1 b o e n)
    · have hg : ¬ t.left.getD (atOf t) 0 > 0 := fun z => hgt (decide_eq_true z)
      exact run_tail hp hk0 hk f3 hal (final (fun z => hg z.2))
end G
namespace G
open PySem L2
/-! ### _law_begun -/
def leftF (c : Int) : Int := c * (if decide ((10 : Int) ^ 18 ≤ c) then 1 else 0)
def leftOf (ns : List Int) : List Int := ns.map leftF
def t_begun (K : PySem.W.Frag) : TS :=
  tSeq (tAsg (tSl (rSlL K) (tVar 0) tNoPart (tPart (tC (.int 63)))) (gName 1))
  (tRet (tDisp [(tC (.str "cells"), tVar 1), (tC (.str "at"), tC (.int 0)), (tC (.str "left"), tLc (iList K (tVar 1)) (gName 2) tYes
    (tOp (rI CMul fun i j => .int (i * j)) (tVar 2) (tCB rInt1 (tCons (tOp (rI0 fun i j => .bl (decide (j ≤ i))) (tVar 2) (tOp (rI CPow fun i j => .int (i ^ j.toNat)) (tC (.int 10)) (tC (.int 18)))) tNil))) [2])]))
def begunN : List Str := ["_law_script", "_law_cells", "_law_cell"]
def spBegun (K : PySem.W.Frag) : Sp := fun vs H Q _ => ∃ (a : Addr) (ns : List Int), vs = [.ref a] ∧ SqL K H a (ns.map V.int) ∧ ns.length ≤ 63 ∧
  ∀ H' m c lf, Same H H' → H m = none → H c = none → H lf = none → m ≠ lf → m ≠ c → c ≠ lf → H' m = some (.dK (mkvs c lf 0)) → H' lf = some (.lst ((leftOf ns).map V.int)) → H' c = some (.lst (ns.map V.int)) → Q (.ref m) H'
theorem cut63 {ns : List Int} (h : ns.length ≤ 63) : cutV (ns.map V.int) none (some 63) = ns.map V.int := by
  unfold cutV
  rw [HT.sIx_none, show HT.sIx (ns.map V.int).length (ns.map V.int).length (some 63) = min 63 (ns.map V.int).length from HT.sIx_nat _ _ 63, List.drop_zero, Nat.sub_zero]
  refine List.take_of_length_le ?_
  rw [List.length_map]
  omega
theorem merge3 (c lf : Addr) : mergeK [] [((Sum.inr ("cells" : Str) : Key), V.ref c), (Sum.inr ("at" : Str), V.int 0), (Sum.inr ("left" : Str), V.ref lf)] = mkvs c lf 0 := by
  show putK (putK (putK [] (Sum.inr ("cells" : Str) : Key) (V.ref c)) (Sum.inr ("at" : Str)) (V.int 0)) (Sum.inr ("left" : Str)) (V.ref lf) = mkvs c lf 0
  rw [putK_new (kvs := []) _ rfl, putK_new (k := (Sum.inr ("at" : Str) : Key)) _ (by rw [List.nil_append, valV_neg k_ca]; rfl), putK_new (k := (Sum.inr ("left" : Str) : Key)) _ (by
    rw [List.nil_append]
    show valV [((Sum.inr ("cells" : Str) : Key), V.ref c), (Sum.inr ("at" : Str), V.int 0)] _ = none
    rw [valV_neg k_cl, valV_neg k_al]
    rfl)]
  rfl
theorem run_begun {K : PySem.W.Frag} {vs : List V} {H : Hp} {Q : VK} {E : XK} (h : spBegun K vs H Q E) : t_begun K { nx := fun _ H' => Q .non H', rt := Q } (L2.start begunN vs) H := by
  obtain ⟨a, ns, rfl, hs, hl, h⟩ := h
  refine ⟨_, rfl, 63, rfl, a, _, rfl, hs, fun c hc => ?_⟩
  rw [cut63 hl]
  have s1 : Same H (upd H c (.lst (ns.map V.int))) := same_upd hc
  intro m hm
  have ncm : c ≠ m := fun e => by rw [e, upd_same] at hm; cases hm
  have hmH : H m = none := by rw [upd_ne ncm.symm] at hm; exact hm
  refine ⟨_, rfl, _, rfl, c, rfl, ⟨_, SqL.of ((upd_ne ncm).trans upd_same)⟩, fun lf hlf => ?_⟩
  have nlm : lf ≠ m := fun e => by rw [e, upd_same] at hlf; cases hlf
  have nlc : lf ≠ c := fun e => by rw [e, upd_ne ncm, upd_same] at hlf; cases hlf
  have hlH : H lf = none := by rw [upd_ne nlm, upd_ne nlc] at hlf; exact hlf
  refine lc_list (K := K) (a := c) (xs := ns.map V.int) (fun i H' => H' = upd (upd (upd H c (.lst (ns.map V.int))) m (.dK [])) lf (.lst ((leftOf (ns.take i)).map V.int))) rfl (fun i H' _ e => by
      rw [e]
      exact SqL.of ((upd_ne nlc.symm).trans ((upd_ne ncm).trans upd_same))) ?_ ?_
  · rintro i x H' hi rfl
    obtain ⟨z, hz, rfl⟩ : ∃ z, ns[i]? = some z ∧ x = .int z := by
      rw [List.getElem?_map] at hi
      cases e : ns[i]? with
      | none => rw [e] at hi; cases hi
      | some z => rw [e] at hi; cases hi; exact ⟨z, rfl, rfl⟩
    refine ⟨rfl, ?_⟩
    simp only [tYes, if_true]
    refine ⟨_, rfl, _, rfl, _, _, rfl, rfl, ⟨by decide, by decide, by decide⟩, _, _, rfl, rfl, ?_⟩
    refine .inr ⟨_, rfl, _, _, rfl, rfl, .inr ?_, ?_⟩
    · split <;> exact ⟨by decide, by decide⟩
    · refine ⟨_, upd_same, ?_, ?_⟩
      · rw [List.length_map]
        unfold leftOf
        rw [List.length_map, List.length_take]
        exact small1000 (by omega)
      · rw [upd_upd]
        have hil : i < ns.length := (List.getElem?_eq_some_iff.mp hz).1
        have ez : ns[i] = z := (List.getElem?_eq_some_iff.mp hz).2
        rw [List.take_succ_eq_append_getElem hil, ez]
        unfold leftOf
        rw [List.map_append, List.map_append]
        rfl
  · rintro H' rfl
    rw [List.length_map, List.take_length]
    refine ⟨(upd_ne nlm.symm).trans upd_same, [((Sum.inr ("cells" : Str) : Key), V.ref c), (Sum.inr ("at" : Str), V.int 0), (Sum.inr ("left" : Str), V.ref lf)], rfl, (by show 3 ≤ 15; decide), ?_⟩
    rw [merge3]
    refine h _ m c lf (fun b o e => ?_) hmH hc hlH nlm.symm ncm.symm nlc.symm upd_same ?_ ?_
    · rw [upd_ne (ne_of_none e hmH), upd_ne (ne_of_none e hlH), upd_ne (ne_of_none e hmH), upd_ne (ne_of_none e hc)]
      exact e
    · rw [upd_ne nlm, upd_same]
    · rw [upd_ne ncm, upd_ne nlc.symm, upd_ne ncm, upd_same]
/-! ### law: the machine made, then the mirror -/
def spLaw (K : PySem.W.Frag) : Sp := fun vs H Q _ => ∃ (a : Addr) (ns : List Int), vs = [.ref a] ∧ SqL K H a (ns.map V.int) ∧ ns.length ≤ 63 ∧ (∀ z ∈ ns, Builtin.Int.intBits z ≤ 1048576) ∧ ∀ H', Q (.bl true) H'
def z0 (n : Nat) (ns : List Int) : Z Mach := { rho := some (.d (.scr ns)) :: some (.m 0) :: List.replicate n none, m := ⟨ns, 0, leftOf ns⟩ }
theorem law_run {K : PySem.W.Frag} {xr : Str → Option Value} {E : XK} {N : List Str} {t : TS} {f : Sm M1 Out} {vs : List V} {H : Hp} {Q : VK} (hN : 2 ≤ N.length) (hf : ∀ ns : List Int, ns.length ≤ 63 → (∀ z ∈ ns, Builtin.Int.intBits z ≤ 1048576) → ∃ z', f (z0 (N.length - 2) ns) = .ok (.rt (.d (.bl true))) z')
    (c : SR M1 K xr (fun cls d _ H => E cls d H) t f) (h : spLaw K vs H Q E) : tSeq (tAsg (tCallS (spBegun K) (WE fun cls d _ H => E cls d H) (tCons (tVar 0) tNil)) (gName 1)) t { nx := fun _ H' => Q .non H', rt := Q } (L2.start N vs) H := by
  obtain ⟨a, ns, rfl, hs, hl, hbits, hq⟩ := h
  obtain ⟨z', hz⟩ := hf ns hl hbits
  have st : L2.start N [.ref a] = some (.ref a) :: List.replicate (N.length - 1) none := rfl
  rw [st]
  refine ⟨_, rfl, a, ns, rfl, hs, hl, fun H' m cc lf sm hm hc hlf n1 n2 n3 e1 e2 e3 => ?_⟩
  have es : (some (V.ref a) :: List.replicate (N.length - 1) none).set 1 (some (.ref m)) = some (V.ref a) :: some (.ref m) :: List.replicate (N.length - 2) none := by
    obtain ⟨k, hk⟩ : ∃ k, N.length = k + 2 := ⟨N.length - 2, by omega⟩
    rw [hk]
    rfl
  show t _ ((some (V.ref a) :: List.replicate (N.length - 1) none).set 1 (some (.ref m))) H'
  rw [es]
  let F : Hp := fun b => if b = cc then some (.lst (ns.map V.int)) else if b = a then H a else none
  have Fm : F m = none := by
    show (if m = cc then _ else if m = a then H a else none) = none
    rw [if_neg n2]
    by_cases e : m = a
    · rw [if_pos e, ← e]; exact hm
    · rw [if_neg e]
  have Fl : F lf = none := by
    show (if lf = cc then _ else if lf = a then H a else none) = none
    rw [if_neg n3.symm]
    by_cases e : lf = a
    · rw [if_pos e, ← e]; exact hlf
    · rw [if_neg e]
  have Fc : F cc = some (.lst (ns.map V.int)) := if_pos rfl
  have sF : Same F H' := fun b o q => by
    have q' : (if b = cc then some (HO.lst (ns.map V.int)) else if b = a then H a else none) = some o := q
    by_cases e : b = cc
    · rw [if_pos e] at q'; rw [e, e3]; exact q'
    · rw [if_neg e] at q'
      by_cases e' : b = a
      · rw [if_pos e'] at q'; rw [e']; exact sm a o q'
      · rw [if_neg e'] at q'; cases q'
  have hsF : SqL K F a (ns.map V.int) := by
    have Fa : ∀ o, H a = some o → F a = some o := fun o q => by
      have n : a ≠ cc := ne_of_none q hc
      show (if a = cc then _ else if a = a then H a else none) = some o
      rw [if_neg n, if_pos rfl]
      exact q
    rcases hs with (q | ⟨o, q⟩) | q
    · exact .inl (.inl (Fa _ q))
    · exact .inl (.inr ⟨o, Fa _ q⟩)
    · exact .inr q
  have key : ∀ (i : Nat) (s : S), (z0 (N.length - 2) ns).rho[i]? = some (some s) → (i = 0 ∧ s = .d (.scr ns)) ∨ (i = 1 ∧ s = .m 0) := fun i s e => by
    have e' : (some (S.d (.scr ns)) :: some (S.m 0) :: List.replicate (N.length - 2) none)[i]? = some (some s) := e
    match i, e' with
    | 0, e' => cases e'; exact .inl ⟨rfl, rfl⟩
    | 1, e' => cases e'; exact .inr ⟨rfl, rfl⟩
    | i + 2, e' =>
      rw [List.getElem?_cons_succ, List.getElem?_cons_succ, List.getElem?_replicate] at e'
      split at e' <;> cases e'
  refine c ⟨K, xr, [m, lf], fun _ => none, F⟩ _ H' F (z0 (N.length - 2) ns) _ rfl rfl ⟨sF, ?_, fun i s e => ?_, fun i j xs ys v q1 _ _ _ => ?_, ⟨m, lf, cc, rfl, n1, e1, e2, Fc, by simp [z0, leftOf]⟩, fun b hb => ?_, fun _ _ => rfl, fun b hb => ?_, fun b o q => by cases q⟩ ?_
  · simp [z0]
  · rcases key i s e with ⟨rfl, rfl⟩ | ⟨rfl, rfl⟩
    · exact ⟨_, rfl, Da.scr hsF⟩
    · exact ⟨_, rfl, m, rfl, rfl⟩
  · rcases key i _ q1 with ⟨_, q⟩ | ⟨_, q⟩ <;> cases q
  · rcases List.mem_cons.mp hb with rfl | hb
    · exact Fm
    · have e : b = lf := by simpa using hb
      rw [e]; exact Fl
  · rcases List.mem_cons.mp hb with rfl | hb
    · intro z; rw [e1] at z; cases z
    · have e : b = lf := by simpa using hb
      rw [e]
      intro z; rw [e2] at z; cases z
  · rw [hz]
    intro v H2 F2 s2 r
    cases (show Da K F2 v (.bl true) from r.val)
    exact hq H2
end G
namespace G
open PySem L2
/-- a place of a def's text: all that the rules ask of it -/
structure Pc {ι : Type} (P : Program) (w : World) (K : PySem.W.Frag) (mg : Str → Option Value) (base : Heap) (N : List Str) (W : WX) (lv : Nat) (X : ι → Cx) : Prop extends Pl K X N mg where
  pr : ∀ j, (X j).prog = P
  pw : ∀ j, (X j).w = w
  pb : ∀ j, (X j).base = base
  room : ∀ j, Room (lv + 8) (X j).A
  pass : ∀ j σ, PassesAt (L2.CX P w) (X j) σ (WE W σ)
  gd : ∀ j, (X j).A.guards = some []
section
variable {ι : Type} {M : MI} {P : Program} {w : World} {K : PySem.W.Frag} {mg : Str → Option Value} {base : Heap} {N : List Str} {W : WX} {n : Nat} {X : ι → Cx} {xr : Str → Option Value}
theorem pass0W {Y : Cx} (σ : St) : PassesAt (L2.CX P w) Y σ (WE W0 σ) := fun _ _ _ _ _ _ h => by
  obtain ⟨_, _, _, _, _, _, _, _, _, _, _, _, z⟩ := h
  exact z.elim
theorem Pc.blk (p : Pc P w K mg base N W n X) (scope : Scope) : Pc P w K mg base N W0 n (Blk X scope) :=
  ⟨p.toPl.blk scope, fun q => p.pr q.1, fun q => p.pw q.1, fun q => p.pb q.1, fun q => p.room q.1, fun q σ => pass0W σ, fun q => p.gd q.1⟩
theorem pc_def {qual : Str} {st : Stmt} {f : Addr} {ps : List Str} {cdv : Value} {A : Around} {outer : List Env} {s : Shared} {H : Hp} {E : XK} (Sc : FnScope N ps (defScope st)) (hr : Room (n + 8) (A.deeper (PyProof.Rows.envOfC qual (defScope st) s.heap.objs.size f cdv))) (hgu : A.guards = some []) :
    Pc P w K mg base N (fun cls d _ H => E cls d H) n (fun _ : Unit => cxOf (L2.CX P w) P w K mg base N qual (defScope st) f cdv A outer s H E) :=
  ⟨⟨fun _ => rfl, fun _ => rfl, fun _ => rfl, Sc.nd, fun _ => rfl, fun _ => by have := hr.un; show (A.deeper _).units + 300 < cLine; omega⟩, fun _ => rfl, fun _ => rfl, fun _ => rfl, fun _ => hr, fun _ σ => passAt (takes_of rfl rfl rfl rfl) σ, fun _ => hgu⟩
theorem own_def {qual : Str} {st : Stmt} {f : Addr} {cdv : Value} {A : Around} {outer : List Env} {s : Shared} {H : Hp} {E : XK} :
    ∀ j : Unit, PassesOwn (model ((fun _ : Unit => cxOf (L2.CX P w) P w K mg base N qual (defScope st) f cdv A outer s H E) j).prog ((fun _ : Unit => cxOf (L2.CX P w) P w K mg base N qual (defScope st) f cdv A outer s H E) j).w) ((fun _ : Unit => cxOf (L2.CX P w) P w K mg base N qual (defScope st) f cdv A outer s H E) j).A ((fun _ : Unit => cxOf (L2.CX P w) P w K mg base N qual (defScope st) f cdv A outer s H E) j).env ((fun _ : Unit => cxOf (L2.CX P w) P w K mg base N qual (defScope st) f cdv A outer s H E) j).xe := fun _ => passes_of rfl
/-- a def of the text keeps the mirror c at level n -/
def FnAt (M : MI) (P : Program) (w : World) (K : PySem.W.Frag) (mg : Str → Option Value) (base : Heap) (xr : Str → Option Value) (n : Nat) (x : Str) (ps : List Str) (dvs : List V) (c : List S → M.T → Rs S M.T) : Prop :=
  ∃ f fd, FnG P w K mg base (L2.CX P w) (n + 8) f fd ps (spM M K xr ps.length c) ∧ Binds K fd ps [] ∧ (∃ ds, Vals dvs ds ∧ Binds K fd ps ds) ∧ PySem.W.keepIn K (.ref f) = true ∧ mg x = some (.ref f)
theorem de_fn {x : Str} {ps : List Str} {dvs : List V} {e : Expr} {es : List Expr} {g : Sm M (List S)} {c : List S → M.T → Rs S M.T} {pp pos : Pos} (p : Pc P w K mg base N W n X) (h : FnAt M P w K mg base xr n x ps dvs c) (ha : DA M xr K X W (e :: es) g) (hn : ∀ z ss z1, g z = .ok ss z1 → ss.length = ps.length) (hg : ∀ j, Gl (X j) x := by intro _; rfl)
    (hdb : (x == ("__debug__" : Str)) = false := by decide) (he : ∀ j, starEach (e :: es) (X j).env = (false, eval e (X j).env) :: starEach es (X j).env := by intro _; rfl) (hpl : ∀ j, (backTo pos (starEach es (X j).env)).any (·.1) = false := by intro _; rfl) :
    DE M xr K X W (.Call (.Name x pp) (e :: es) [] pos) (eCall c g) := by
  obtain ⟨f, fd, hF, hb, _, hk, hm⟩ := h
  exact de_call (CX := L2.CX P w) (f := f) (fd := fd) (ps := ps) (k := n + 8) (fun j => by rw [p.pr j, p.pw j, p.k j, p.g j, p.pb j]; exact hF) p.room p.gd hg (fun j => by rw [p.g j]; exact hm) (fun j => by rw [p.k j]; exact hk) (fun j => by rw [p.k j]; exact hb) p.pass ha hn hdb he hpl
/-- the last parameter is filled by its default -/
theorem de_fnD {x : Str} {ps : List Str} {dv : V} {dd : D} {e : Expr} {es : List Expr} {g : Sm M (List S)} {c : List S → M.T → Rs S M.T} {pp pos : Pos} (p : Pc P w K mg base N W n X) (h : FnAt M P w K mg base xr n x ps [dv] c) (hdd : ∀ F, Da K F dv dd) (ha : DA M xr K X W (e :: es) g) (hn : ∀ z ss z1, g z = .ok ss z1 → ss.length + 1 = ps.length) (hg : ∀ j, Gl (X j) x := by intro _; rfl)
    (hdb : (x == ("__debug__" : Str)) = false := by decide) (he : ∀ j, starEach (e :: es) (X j).env = (false, eval e (X j).env) :: starEach es (X j).env := by intro _; rfl) (hpl : ∀ j, (backTo pos (starEach es (X j).env)).any (·.1) = false := by intro _; rfl) :
    DE M xr K X W (.Call (.Name x pp) (e :: es) [] pos) (eCall c (aDef [dd] g)) := by
  obtain ⟨f, fd, hF, _, ⟨ds, hv, hb⟩, hk, hm⟩ := h
  exact de_callD (CX := L2.CX P w) (f := f) (fd := fd) (ps := ps) (k := n + 8) hdd hv (fun j => by rw [p.pr j, p.pw j, p.k j, p.g j, p.pb j]; exact hF) p.room p.gd hg (fun j => by rw [p.g j]; exact hm) (fun j => by rw [p.k j]; exact hk) (fun j => by rw [p.k j]; exact hb) p.pass ha hn hdb he hpl
theorem de_fn0 {x : Str} {dvs : List V} {c : List S → M.T → Rs S M.T} {pp pos : Pos} (p : Pc P w K mg base N W n X) (h : FnAt M P w K mg base xr n x [] dvs c) (hg : ∀ j, Gl (X j) x := by intro _; rfl) (hdb : (x == ("__debug__" : Str)) = false := by decide) :
    DE M xr K X W (.Call (.Name x pp) [] [] pos) (eCall c aNil) := by
  obtain ⟨f, fd, hF, hb, _, hk, hm⟩ := h
  exact de_call0 (CX := L2.CX P w) (f := f) (fd := fd) (ps := []) (k := n + 8) (fun j => by rw [p.pr j, p.pw j, p.k j, p.g j, p.pb j]; exact hF) p.room p.gd hg (fun j => by rw [p.g j]; exact hm) (fun j => by rw [p.k j]; exact hk) (fun j => by rw [p.k j]; exact hb) p.pass hdb
/-- where a def stands in the text -/
def FnIn (K : PySem.W.Frag) (mg : Str → Option Value) (x : Str) (st : Stmt) (ps : List Str) (dvs : List V) : Prop := ∃ f fd, FunD K x x (defArgs st) (defBody st) (defScope st) dvs [] f fd ∧ Binds K fd ps [] ∧ (∃ ds, Vals dvs ds ∧ Binds K fd ps ds) ∧ mg x = some (.ref f)
theorem fnAt_zero {x : Str} {st : Stmt} {ps : List Str} {dvs : List V} (h : FnIn K mg x st ps dvs) : FnAt M P w K mg base xr 0 x ps dvs (fun _ _ => .bad) := by
  obtain ⟨f, fd, hF, hb, hd, hm⟩ := h
  have no : ∀ vs H Q E, ¬ spM M K xr ps.length (fun _ _ => .bad) vs H Q E := fun vs H Q E h => by
    obtain ⟨_, _, _, _, _, _, _, _, _, z⟩ := h
    exact z
  exact ⟨f, fd, ⟨fun vs H Q E h => absurd h (no vs H Q E), fun A outer s H args us vs Q E _ _ _ _ _ h => absurd h (no vs H Q E)⟩, hb, hd, hF.kp, hm⟩
theorem fnAt_succ {x : Str} {st : Stmt} {ps : List Str} {dvs : List V} {b : Sm M Out} (h : FnIn K mg x st ps dvs) (Sc : FnScope N ps (defScope st))
    (hb : ∀ (f : Addr) (cdv : Value) (A : Around) (outer : List Env) (s : Shared) (H : Hp) (E : XK), Room (n + 8) (A.deeper (PyProof.Rows.envOfC x (defScope st) s.heap.objs.size f cdv)) → A.guards = some [] →
      DSs M xr K (fun _ : Unit => cxOf (L2.CX P w) P w K mg base N x (defScope st) f cdv A outer s H E) (fun cls d _ H => E cls d H) (defBody st) b) : FnAt M P w K mg base xr (n + 1) x ps dvs (fnM N.length b) := by
  obtain ⟨f, fd, hF, hbd, hd, hm⟩ := h
  exact ⟨f, fd, okM hF Sc (hb f), hbd, hd, hF.kp, hm⟩
end
/-- a module's constant that is data -/
def GlD (K : PySem.W.Frag) (mg : Str → Option Value) (x : Str) (d : D) : Prop := ∃ v u, mg x = some u ∧ RelV v u ∧ ∀ F, Da K F v d
section
variable {ι : Type} {M : MI} {xr : Str → Option Value} {K : PySem.W.Frag} {X : ι → Cx} {W : WX} {N : List Str} {mg : Str → Option Value}
theorem de_const {x : Str} {d : D} {pos : Pos} (p : Pl K X N mg) (h : GlD K mg x d) (hg : ∀ j, Gl (X j) x := by intro _; rfl) (hb : (x == ("__debug__" : Str)) = false := by decide) : DE M xr K X W (.Name x pos) (eC d) := by
  obtain ⟨v, u, hm, r, hd⟩ := h
  exact de_glob hg (fun j => by rw [p.g j]; exact hm) r hd hb
theorem cmp_chain {r r' : R2} {g g' : D → D → Option R} {ta tb tc : TE} {f f' f'' : Sm M S} (hd : Op2 K r g) (hd' : Op2 K r' g') (ha : Cmp M K xr W ta RelE f) (hb : Cmp M K xr W tb RelE f') (hc : Cmp M K xr W tc RelE f'') : Cmp M K xr W (tChain r r' ta tb tc) RelE (eChain g g' f f' f'') := by
  intro G σ H F z Q hK hx ok h
  refine cmp_opd ha G σ H F z _ hK hx ok (hit_bind h fun s z1 v H1 F1 _ sm1 ok1 e1 h1 => ?_)
  refine cmp_opd hb G σ H1 F1 z1 _ hK hx ok1 (hit_bind h1 fun s' z2 v' H2 F2 _ sm2 ok2 e2 h2 => ?_)
  have h3 : HitG M G W σ F2 (RelE G σ) (fin ((rd z2 s).bind fun x => (rd z2 s').bind fun y => g x y) z2) (fun z H3 => ∃ k, z = .bl k ∧ if k = true then tc σ H3 fun w H4 => r' v' w H4 Q else Q (.bl false) H3) := by
    refine hit_bind h2 fun s3 z3 v3 H3 F3 e3 sm3 ok3 ev3 h3 => ?_
    have ez : z3 = z2 := by
      unfold fin at e3
      split at e3
      · cases e3; rfl
      · cases e3
    subst ez
    cases s3 with
    | d x =>
      cases x with
      | bl b =>
        cases (show Da G.K F3 v3 (.bl b) from ev3)
        refine ⟨b, rfl, ?_⟩
        cases b with
        | false =>
          rw [if_neg Bool.false_ne_true]
          exact h3 (.bl false) H3 F3 (Same.refl _) ok3 (Da.bl false)
        | true =>
          rw [if_pos rfl]
          refine cmp_opd hc G σ H3 F3 z3 _ hK hx ok3 (hit_bind h3 fun s4 z4 v4 H4 F4 _ sm4 ok4 e4 h4 => ?_)
          have q := fin_hit ok4 h4
          subst hK
          cases ea : rd z4 s' with
          | none => rw [ea] at q; exact q.elim
          | some x =>
            cases eb : rd z4 s4 with
            | none => rw [ea, eb] at q; exact q.elim
            | some y =>
              rw [ea, eb] at q
              exact hd' F4 H4 v' v4 x y Q ok4.sub (EO.rv ok4 (EO.mono (sm3.trans sm4) e2) ea) (EO.rv ok4 e4 eb) q
      | _ => exact h3.elim
    | _ => exact h3.elim
  have q := fin_hit ok2 h3
  subst hK
  cases ea : rd z2 s with
  | none => rw [ea] at q; exact q.elim
  | some x =>
    cases eb : rd z2 s' with
    | none => rw [ea, eb] at q; exact q.elim
    | some y =>
      rw [ea, eb] at q
      exact hd F2 H2 v v' x y _ ok2.sub (EO.rv ok2 (EO.mono sm2 e1) ea) (EO.rv ok2 e2 eb) q
theorem Cp.chain {op op' : CmpOp} {g g' : D → D → Option R} {a b c : Expr} {f f' f'' : Sm M S} {pos : Pos} (c1 : Cp K X op g) (c2 : Cp K X op' g') (ha : DE M xr K X W a f) (hb : DE M xr K X W b f') (hc : DE M xr K X W c f'') (hm : lastMarks [op, op'] [b, c] = false := by with_unfolding_all rfl) : DE M xr K X W (.Compare a [op, op'] [b, c] pos) (eChain g g' f f' f'') := by
  cases c1 with
  | mk r ho hd =>
    cases c2 with
    | mk r' ho' hd' =>
      obtain ⟨ta, pa, ca⟩ := ha
      obtain ⟨tb, pb, cb⟩ := hb
      obtain ⟨tc, pc, cc⟩ := hc
      exact ⟨_, fun j => pe_chain (ho j) (ho' j) (pa j) (pb j) (pc j) hm, cmp_chain hd hd' ca cb cc⟩
theorem Cp.chainT {op op' : CmpOp} {g g' : D → D → Option R} {a b c : Expr} {f f' f'' : Sm M S} {pos : Pos} (c1 : Cp K X op g) (c2 : Cp K X op' g') (ha : DE M xr K X W a f) (hb : DE M xr K X W b f') (hc : DE M xr K X W c f'') (hm : lastMarks [op, op'] [b, c] = false := by with_unfolding_all rfl) : DT M xr K X W (.Compare a [op, op'] [b, c] pos) (tOf (eChain g g' f f' f'')) := by
  cases c1 with
  | mk r ho hd =>
    cases c2 with
    | mk r' ho' hd' =>
      obtain ⟨ta, pa, ca⟩ := ha
      obtain ⟨tb, pb, cb⟩ := hb
      obtain ⟨tc, pc, cc⟩ := hc
      exact ⟨_, fun j => pt_chain (ho j) (ho' j) (pa j) (pb j) (pc j) hm, cmp_tOf (cmp_chain hd hd' ca cb cc)⟩
end
theorem daAll_strs {K : PySem.W.Frag} {F : Hp} : ∀ ss : List Str, DaAll K F (ss.map V.str) (ss.map D.str)
  | [] => .nil
  | s :: r => .cons (.str s) (daAll_strs r)
theorem glD_strs {K : PySem.W.Frag} {mg : Str → Option Value} {x : Str} (ss : List Str) {a : Addr} {o : Obj} {its : List Value} {n : Nat} (g : mg x = some (.ref a)) (gl : K.lookup a = some o) (gc : o.cls = .type "tuple") (gd : o.data = .seq its.toArray n) (hv : Vals (ss.map V.str) its) (hl : ss.length ≤ 1000) : GlD K mg x (.tup (ss.map D.str)) :=
  ⟨.ref a, _, g, rfl, fun F => .tup (.inr ⟨o, _, n, gl, gc, gd, by
    have e := hv.length
    rw [List.length_map] at e
    rw [List.size_toArray, ← e]
    exact Nat.le_of_lt (small1000 hl), hv⟩) (daAll_strs ss)⟩
theorem funD_mk {K : PySem.W.Frag} {x : Str} {st : Stmt} {f : Addr} {oc : Value} {od an : Option Addr} {osl : Array (Option Value)} {kV doc pm cdv ct : Value} (l : K.lookup f = some ⟨oc, od, .func (PySem.W.fnOf x x (defArgs st) (defBody st) (defScope st) .none kV doc pm an cdv ct), osl⟩) (c : PySem.W.codeIn K cdv x = true) (k : PySem.W.keepIn K (.ref f) = true) :
    FunD K x x (defArgs st) (defBody st) (defScope st) [] [] f (PySem.W.fnOf x x (defArgs st) (defBody st) (defScope st) .none kV doc pm an cdv ct) := ⟨⟨oc, od, .none, kV, doc, pm, an, cdv, ct, osl, rfl, l, c, .inl ⟨rfl, rfl⟩, .inl rfl⟩, k⟩
theorem fnIn_mk {K : PySem.W.Frag} {h : Heap} {mg : Str → Option Value} {x : Str} {st : Stmt} {ps : List Str} {f : Addr} {oc : Value} {od an : Option Addr} {osl : Array (Option Value)} {kV doc pm cdv ct : Value} (X : K.In h) (G : h.Ns mainGlobals mg) (a : PySem.W.nsIn K mainGlobals x = some (some (.ref f)))
    (l : K.lookup f = some ⟨oc, od, .func (PySem.W.fnOf x x (defArgs st) (defBody st) (defScope st) .none kV doc pm an cdv ct), osl⟩) (c : PySem.W.codeIn K cdv x = true) (k : PySem.W.keepIn K (.ref f) = true)
    (hb : ∀ (kV doc pm : Value) (an : Option Addr) (cdv ct : Value) (us : List Value), us.length = ps.length → bindArgs (PySem.W.fnOf x x (defArgs st) (defBody st) (defScope st) .none kV doc pm an cdv ct) ⟨us, []⟩ = pure (ps.zip us)) : FnIn K mg x st ps [] :=
  ⟨f, _, funD_mk (st := st) l c k, (fun_mk (st := st) l c k).binds hb, ⟨[], .nil, (fun_mk (st := st) l c k).binds hb⟩, PySem.W.mg_of X G a⟩
theorem seq_bindS {α β : Type} {m : Sem α} {k k' : α → Sem β} (h : k = k') : m >>= k = m >>= k' := by rw [h]
/-- a def whose last parameter has an int for a default -/
theorem fnIn_mkD {K : PySem.W.Frag} {h : Heap} {mg : Str → Option Value} {x : Str} {st : Stmt} {ps : List Str} {f T : Addr} {oc ocT : Value} {od an odT : Option Addr} {osl oslT : Array (Option Value)} {kV doc pm cdv ct : Value} {i : Int} {tk : Tok} {nT : Nat} (X : K.In h) (G : h.Ns mainGlobals mg) (a : PySem.W.nsIn K mainGlobals x = some (some (.ref f)))
    (l : K.lookup f = some ⟨oc, od, .func (PySem.W.fnOf x x (defArgs st) (defBody st) (defScope st) (.ref T) kV doc pm an cdv ct), osl⟩) (c : PySem.W.codeIn K cdv x = true) (k : PySem.W.keepIn K (.ref f) = true) (lT : K.lookup T = some ⟨ocT, odT, .seq #[.int i tk] nT, oslT⟩)
    (hb0 : ∀ (kV doc pm : Value) (an : Option Addr) (cdv ct : Value) (us its : List Value), us.length = ps.length → its.length = 1 → ∃ k, bindArgs (PySem.W.fnOf x x (defArgs st) (defBody st) (defScope st) (.ref T) kV doc pm an cdv ct) ⟨us, []⟩ = seqItems? (.ref T) >>= k ∧ k (some its.toArray) = pure (ps.zip (us ++ its.drop 1)))
    (hb1 : ∀ (kV doc pm : Value) (an : Option Addr) (cdv ct : Value) (us its : List Value), us.length + 1 = ps.length → its.length = 1 → ∃ k, bindArgs (PySem.W.fnOf x x (defArgs st) (defBody st) (defScope st) (.ref T) kV doc pm an cdv ct) ⟨us, []⟩ = seqItems? (.ref T) >>= k ∧ k (some its.toArray) = pure (ps.zip (us ++ its.drop 0))) (hp : 1 ≤ ps.length) : FnIn K mg x st ps [V.int i] := by
  have F : FunD K x x (defArgs st) (defBody st) (defScope st) [V.int i] [] f (PySem.W.fnOf x x (defArgs st) (defBody st) (defScope st) (.ref T) kV doc pm an cdv ct) := ⟨⟨oc, od, .ref T, kV, doc, pm, an, cdv, ct, osl, rfl, l, c, .inr ⟨by simp, T, _, [.int i tk], nT, rfl, lT, rfl, .cons ⟨tk, rfl⟩ .nil⟩, .inl rfl⟩, k⟩
  have mk : ∀ (us : List Value) (s : Shared), K.In s.heap → us.length = ps.length → BindsTo s (PySem.W.fnOf x x (defArgs st) (defBody st) (defScope st) (.ref T) kV doc pm an cdv ct) ⟨us, []⟩ (ps.zip us) := fun us s hK hl => by
    obtain ⟨kk, e1, e2⟩ := hb0 kV doc pm an cdv ct us [.int i tk] hl rfl
    refine BindsTo.of_looks fun M => ?_
    rw [e1]
    exact looks_items (its := [Value.int i tk].toArray) hK lT rfl (.of_pure (by rw [e2]; simp))
  have mk1 : ∀ (us : List Value) (s : Shared), K.In s.heap → us.length + 1 = ps.length → BindsTo s (PySem.W.fnOf x x (defArgs st) (defBody st) (defScope st) (.ref T) kV doc pm an cdv ct) ⟨us, []⟩ (ps.zip (us ++ [.int i tk])) := fun us s hK hl => by
    obtain ⟨kk, e1, e2⟩ := hb1 kV doc pm an cdv ct us [.int i tk] hl rfl
    refine BindsTo.of_looks fun M => ?_
    rw [e1]
    exact looks_items (its := [Value.int i tk].toArray) hK lT rfl (.of_pure e2)
  refine ⟨f, _, F, fun s us hK hl => ?_, ⟨[.int i tk], .cons ⟨tk, rfl⟩ .nil, fun s us hK hl => mk1 us s hK (by rw [List.length_append] at hl; exact hl)⟩, PySem.W.mg_of X G a⟩
  rw [List.append_nil] at hl ⊢
  exact mk us s hK hl
end G
namespace G
open PySem L2
/-! ### what is never reached needs no rule -/
section
variable {ι : Type} {M : MI} {xr : Str → Option Value} {K : PySem.W.Frag} {X : ι → Cx} {W : WX}
def sBad : Sm M Out := fun _ => .bad
def eBad : Sm M S := fun _ => .bad
theorem ds_bad {st : Stmt} : DS M xr K X W st sBad := ⟨fun _ _ _ => False, fun _ => ⟨fun _ _ _ _ _ _ h => h.elim⟩, fun _ _ _ _ _ _ _ _ _ h => h⟩
theorem de_bad {e : Expr} : DE M xr K X W e eBad := ⟨fun _ _ _ => False, fun _ => ⟨fun _ _ _ _ _ _ h => h.elim⟩, fun _ _ _ _ _ _ _ _ _ h => h⟩
end
/-! ### repr of tuples and lists -/
def rRepr (K : PySem.W.Frag) : List V → Hp → VK → Prop := fun xs H Q => ∃ a d, xs = [.ref a] ∧ Dp K H (.ref a) d ∧ d.canLay0 = true ∧ d.showable = true ∧ d.depth ≤ 290 ∧ d.shown.length ≤ sizeLine ∧ Q (.str d.shown) H
theorem call_repr {X : Cx} (hg : X.A.guards = some []) (hu : X.A.units + 300 < cLine) : CallR X (.builtin "repr") (rRepr X.K) := by
  intro pins s σ H xs us Q I r h
  obtain ⟨a, d, rfl, hd, h1, h2, h3, h4, q⟩ := h
  cases r with
  | cons ru rt =>
    cases rt
    cases ru
    obtain ⟨as, rr⟩ := Dp.reads I d (.ref a) (.ref a) hd rfl
    exact repr_of_reads' rr h2 (PyData.noDict_hsm (PyData.hasDict_of_canLay d h1)) hg (by omega) (fun b o e => e) (fun h' u tk hk => ⟨.str d.shown, H, I.kept hk, ⟨u, rfl⟩, q⟩) h4
def shw (d : D) : Str := (toPy d).shown
def showOk (d : D) : Bool := lay d && ((toPy d).showable && (decide (dep d ≤ 290) && decide ((shw d).length ≤ lim)))
def fRepr : List D → Option R := fun as => match as with
  | [.tup xs] => if showOk (.tup xs) = true then some (.d (.str (shw (.tup xs)))) else none
  | [.lst xs] => if showOk (.lst xs) = true then some (.d (.str (shw (.lst xs)))) else none
  | _ => none
theorem repr_hit {K : PySem.W.Frag} {F H : Hp} {v : V} {d : D} {Q : VK} (s : Same F H) (r : Rv K F H v d) (hv : ∃ a, v = .ref a) (h : Hit0 K F H (if showOk d = true then some (.d (.str (shw d))) else none) Q) : rRepr K [v] H Q := by
  obtain ⟨a, rfl⟩ := hv
  by_cases hs : showOk d = true
  · rw [if_pos hs] at h
    unfold showOk at hs
    rw [Bool.and_eq_true, Bool.and_eq_true, Bool.and_eq_true] at hs
    exact ⟨a, toPy d, rfl, r.dp s hs.1, by rw [canLay_toPy]; exact hs.1, hs.2.1, by rw [depth_toPy]; exact of_decide_eq_true hs.2.2.1, limLe (of_decide_eq_true hs.2.2.2), h _ (.str _)⟩
  · rw [if_neg hs] at h
    exact h.elim
theorem opn_repr {K : PySem.W.Frag} : OpN K (rRepr K) fRepr := by
  intro F H xs as Q s hp h
  match as, hp, h with
  | [.tup ds], hp, h =>
    obtain ⟨x, rfl, r⟩ := p1 hp
    obtain ⟨a, vs, rfl, _, _⟩ := r.tup s
    exact repr_hit s r ⟨a, rfl⟩ h
  | [.lst ds], hp, h =>
    obtain ⟨x, rfl, r⟩ := p1 hp
    obtain ⟨a, vs, rfl, _, _⟩ := r.lst s
    exact repr_hit s r ⟨a, rfl⟩ h
  | [], _, h => exact h.elim
  | [.non], _, h => exact h.elim
  | [.bl _], _, h => exact h.elim
  | [.int _], _, h => exact h.elim
  | [.str _], _, h => exact h.elim
  | [.scr _], _, h => exact h.elim
  | [.emp], _, h => exact h.elim
  | [.exc _ _], _, h => exact h.elim
  | .non :: _ :: _, _, h => exact h.elim
  | .bl _ :: _ :: _, _, h => exact h.elim
  | .int _ :: _ :: _, _, h => exact h.elim
  | .str _ :: _ :: _, _, h => exact h.elim
  | .tup _ :: _ :: _, _, h => exact h.elim
  | .lst _ :: _ :: _, _, h => exact h.elim
  | .scr _ :: _ :: _, _, h => exact h.elim
  | .emp :: _ :: _, _, h => exact h.elim
  | .exc _ _ :: _ :: _, _, h => exact h.elim
section
variable {ι : Type} {P : Program} {w : World} {K : PySem.W.Frag} {mg : Str → Option Value} {base : Heap} {N : List Str} {W : WX} {n : Nat} {X : ι → Cx}
theorem fb_repr (p : Pc P w K mg base N W n X) : Fb K X "repr" fRepr := .fn "repr" (rRepr K) (fun j => by rw [← p.k j]; exact call_repr (p.gd j) (p.u j)) opn_repr PyProof.Rows.boot_repr (by decide) (by decide)
end
end G
namespace G
open PySem L2
section
variable {ι : Type} {M : MI} {xr : Str → Option Value} {K : PySem.W.Frag} {X : ι → Cx} {W : WX} {N : List Str} {mg : Str → Option Value} {pos : Pos}
/-! ### range of two, and downwards -/
def intsS : List S → Option (List Int)
  | [] => some []
  | .d (.int i) :: r => (intsS r).map (i :: ·)
  | _ => none
theorem intsS_eq {G : Gx} {σ : St} {F : Hp} : ∀ {ss : List S} {vs : List V} {is : List Int}, Paired (fun v s => EO G σ F v s) vs ss → intsS ss = some is → vs = is.map V.int
  | [], _, _, .nil, e => by cases e; rfl
  | .d (.int i) :: r, _, is, .cons a t, e => by
    unfold intsS at e
    cases h : intsS r with
    | none => rw [h] at e; cases e
    | some js =>
      rw [h] at e
      cases e
      rw [List.map_cons, intsS_eq t h]
      cases (show Da G.K F _ (.int i) from a)
      rfl
  | .d .non :: _, _, _, _, e => by cases e
  | .d (.bl _) :: _, _, _, _, e => by cases e
  | .d (.str _) :: _, _, _, _, e => by cases e
  | .d (.tup _) :: _, _, _, _, e => by cases e
  | .d (.lst _) :: _, _, _, _, e => by cases e
  | .d (.scr _) :: _, _, _, _, e => by cases e
  | .d .emp :: _, _, _, _, e => by cases e
  | .d (.exc _ _) :: _, _, _, _, e => by cases e
  | .l _ :: _, _, _, _, e => by cases e
  | .v _ :: _, _, _, _, e => by cases e
  | .m _ :: _, _, _, _, e => by cases e
def inR (j : Int) : Bool := decide (-(2 ^ 62) ≤ j ∧ j < 2 ^ 62)
def rg2D : Option (List Int) → Option (List D)
  | some [i, j] => if (inR i && inR j) = true then some (rangeD i (j - i).toNat) else none
  | _ => none
def downD (i : Int) (n : Nat) : List D := (List.range n).map fun (k : Nat) => D.int (i + (k : Int) * (-1))
def rg3D : Option (List Int) → Option (List D)
  | some [i, j, -1] => if (inR i && inR j) = true then some (downD i (i - j).toNat) else none
  | _ => none
def iRg2M (g : Sm M (List S)) : Sm M (List D) := fun z => (g z).bind fun ss z1 => Rs.opt (rg2D (intsS ss)) z1
def iRg3M (g : Sm M (List S)) : Sm M (List D) := fun z => (g z).bind fun ss z1 => Rs.opt (rg3D (intsS ss)) z1
theorem wk_down {F : Hp} (lo : Int) (n : Nat) : Wk K F (Itc lo (-1) n) (downD lo n) := by
  have w := (walk_rangeC (lo := lo) (c := -1) (n := n)).mono (G' := fun H => Same F H) (Y' := YD K F (downD lo n)) (fun H s => trivial) (fun i H x H' hi _ ⟨e1, e2⟩ => by
    rw [e1, e2]
    refine yd_old (d := .int (lo + (i : Int) * (-1))) ?_ (.int _)
    unfold downD
    rw [List.getElem?_map, List.getElem?_range hi]
    rfl)
  have e : (downD lo n).length = n := by unfold downD; rw [List.length_map, List.length_range]
  unfold Wk
  rw [e]
  exact w
theorem inR_of {j : Int} (h : inR j = true) : -(2 ^ 62) ≤ j ∧ j < 2 ^ 62 := of_decide_eq_true h
theorem di_range3 {tg a b c : Expr} {g : Sm M (List S)} {pp : Pos} (p : Pl K X N mg) (hm : mg "range" = none) (ha : DA M xr K X W [a, b, c] g) (hg : ∀ j, Gl (X j) "range" := by intro _; rfl) (hs : ∀ j, starEach [a, b, c] (X j).env = (false, eval a (X j).env) :: starEach [b, c] (X j).env := by intro _; rfl) (hpl : ∀ j, (backTo pos (starEach [b, c] (X j).env)).any (·.1) = false := by intro _; rfl) :
    DI M xr K X W tg (.Call (.Name "range" pp) [a, b, c] [] pos) (iRg3M g) := by
  obtain ⟨t, pa, ca⟩ := ha
  refine ⟨_, fun j => pi_range3 (hg j) (by rw [p.g j]; exact hm) (pa j) (hs j) (hpl j), fun G σ H F z Q hK hx ok hh => ?_⟩
  refine ca G σ H F z _ hK hx ok (hit_bind hh fun ss z1 vs H1 F1 _ sm ok1 ea h1 => ?_)
  cases e : intsS ss with
  | none => rw [e] at h1; exact h1.elim
  | some is =>
    have ev := intsS_eq ea e
    rw [e] at h1
    unfold rg3D at h1
    split at h1
    · rename_i i j q
      cases q
      by_cases hb : (inR i && inR j) = true
      · rw [if_pos hb] at h1
        rw [Bool.and_eq_true] at hb
        have b1 := inR_of hb.1
        have b2 := inR_of hb.2
        exact ⟨i, j, -1, (i - j).toNat, ev, RgC.neg b1.1 b1.2 b2.1 b2.2, h1 _ H1 F1 (Same.refl _) ok1 (wk_down i _)⟩
      · rw [if_neg hb] at h1
        exact h1.elim
    · exact h1.elim
end
end G
namespace G
open PySem L2
theorem okG {P : Program} {w : World} {K : PySem.W.Frag} {mg : Str → Option Value} {base : Heap} {x qual : Str} {st : Stmt} {f : Addr} {fd : FuncData} {dvs : List V} {N ps : List Str} {k : Nat} {sp : Sp} (F : FunD K x qual (defArgs st) (defBody st) (defScope st) dvs [] f fd) (Sc : FnScope N ps (defScope st)) (len : ∀ vs H Q E, sp vs H Q E → vs.length = ps.length)
    (hb : ∀ (cdv : Value) (A : Around) (outer : List Env) (s : Shared) (H : Hp) (vs : List V) (Q : VK) (E : XK), Room k (A.deeper (PyProof.Rows.envOfC qual (defScope st) s.heap.objs.size f cdv)) → A.guards = some [] → sp vs H Q E →
      ∃ t, PSs (cxOf (L2.CX P w) P w K mg base N qual (defScope st) f cdv A outer s H E) (defBody st) t ∧ t { nx := fun _ H' => Q .non H', rt := Q } (start N vs) H) : FnG P w K mg base (L2.CX P w) (k + 1) f fd ps sp := by
  obtain ⟨oc, od, dV, kV, doc, pm, an, cdv, ct, osl, rfl, lk, hcd, _, _⟩ := F.ex
  exact fnG lk hcd Sc len (fun A outer s H vs Q E hr hg h => hb cdv A outer s H vs Q E hr hg h)
end G
namespace G
open PySem L2
section
variable {ι : Type} {M : MI} {xr : Str → Option Value} {K : PySem.W.Frag} {X : ι → Cx} {W : WX}
/-- a, b = x, y -/
def sPar (i j : Nat) (g : Sm M (List S)) : Sm M Out := fun z => (g z).bind fun ss z1 => match ss with
  | [.d x, .d y] => .ok .nx { z1 with rho := (z1.rho.set i (some (.d x))).set j (some (.d y)) }
  | _ => .bad
theorem ds_par {i j : Nat} {x y : Str} {a b : Expr} {g : Sm M (List S)} {px py pt pos : Pos} {kt k2 pt2} (hc : ∀ q, (X q).calm = true) (hN : ∀ q, (X q).N.Nodup) (hi : ∀ q, (X q).N[i]? = some x) (hj : ∀ q, (X q).N[j]? = some y) (hij : i ≠ j) (hx : ∀ q, (X q).env.scope.names.lookup x = some .local) (hy : ∀ q, (X q).env.scope.names.lookup y = some .local) (ha : DA M xr K X W [a, b] g)
    (hw : ∀ q, swappedStores [.Tuple [.Name x px, .Name y py] kt pt] (.Tuple [a, b] k2 pt2) (X q).env = pure (some [x, y]) := by intro _; rfl) (hs : ∀ q, swapsWithSole [.Tuple [.Name x px, .Name y py] kt pt] (.Tuple [a, b] k2 pt2) pos.line (X q).env = pure false := by intro _; rfl) :
    DS M xr K X W (.Assign [.Tuple [.Name x px, .Name y py] kt pt] (.Tuple [a, b] k2 pt2) pos) (sPar i j g) := by
  obtain ⟨t, p, c⟩ := ha
  refine ⟨_, fun q => ps_par (hc q) (hN q) (hi q) (hj q) hij (hx q) (hy q) (p q) (hw q) (hs q), fun G σ H F z D hK hx ok hh => ?_⟩
  refine c G σ H F z _ hK hx ok (hits_bind hh fun ss z1 vs H1 F1 _ sm ok1 ea h2 => ?_)
  match ss, vs, ea, h2 with
  | [.d x, .d y], _, .cons a (.cons b .nil), h2 =>
    refine ⟨_, _, rfl, h2 _ H1 F1 (Same.refl _) ?_⟩
    have ok2 := ok1.set (i := i) (s := .d x) (show Da G.K F1 _ x from a) (fun _ e => by cases e)
    exact ok2.set (i := j) (s := .d y) (show Da G.K F1 _ y from b) (fun _ e => by cases e)
  | [], _, _, h2 => exact h2.elim
  | [.d _], _, _, h2 => exact h2.elim
  | .l _ :: _, _, _, h2 => exact h2.elim
  | .v _ :: _, _, _, h2 => exact h2.elim
  | .m _ :: _, _, _, h2 => exact h2.elim
  | .d _ :: .l _ :: _, _, _, h2 => exact h2.elim
  | .d _ :: .v _ :: _, _, _, h2 => exact h2.elim
  | .d _ :: .m _ :: _, _, _, h2 => exact h2.elim
  | .d _ :: .d _ :: _ :: _, _, _, h2 => exact h2.elim
end
end G
/-! An exception that is caught and kept by a name. -/
namespace G
open PySem L2 PySem.Spec PyProof.Rows
theorem xo_ok {P : Program} {w : World} {H : Hp} {h : Heap} {a : Addr} {cls : Value} {d : Option Addr} {ox : Obj} {fs : Array Value} (e : h.get? a = some ox) (z : Zc cls d ox) (q : ox.data = .fields fs) : ObjOk P w H h a (XO cls d a) :=
  ⟨⟨ox, fs, e, z, q⟩, ⟨ox, e⟩, fun h1 h2 ⟨o1, f1, a1, b1, c1⟩ st => ⟨o1, f1, st _ a1, b1, c1⟩⟩
section
variable {Y : Cx} {ps : List (Addr × Obj)} {τ : L2.St} {H : Hp} {t : Shared}
theorem inv_keepX {a : Addr} {ox : Obj} {fs : Array Value} {cls : Value} {d : Option Addr} (J : Inv Y ((a, ox) :: ps) τ H t) (hz : Zc cls d ox) (hd : ox.data = .fields fs) (h0 : Y.s_0.heap.get? a = none) (hne : ∀ p ∈ Y.pn ++ ps, p.1 ≠ a) : Inv Y ps τ (upd H a (XO cls d a)) t := by
  obtain ⟨g1, g2, g3, g4, g5⟩ := J.pin (a, ox) (List.mem_append_right _ List.mem_cons_self)
  have nb : ∀ {b : Addr} {o : HO}, H b = some o → b ≠ a := fun {b o} e => ne_of_none e g2
  refine ⟨J.ok, J.os, J.bare, ⟨J.base.keep, J.base.slot, fun b o e n hx => ?_, J.base.there, fun b xs e => ?_, fun b o u e => ?_, fun b ys e => ?_⟩, J.loc, J.cell, ?_, fun x c e => ?_, fun p hp => ?_, fun b u e => ?_, J.len⟩
  · have z : b ≠ a := fun q => by rw [q, h0] at e; cases e
    rw [upd_ne z]
    exact J.base.free b o e n hx
  · have q := J.base.tups b xs e
    rw [upd_ne (nb q)]
    exact q
  · have q := J.base.frzs b o u e
    rw [upd_ne (nb q)]
    exact q
  · obtain ⟨more, q⟩ := J.base.tbls b ys e
    exact ⟨more, by rw [upd_ne (nb q)]; exact q⟩
  · rw [upd_ne (Ne.symm g3)]
    exact J.free
  · obtain ⟨v, o, ho, hc⟩ := J.cell x c e
    have z : c ≠ a := fun q => by
      rw [q, g1] at ho
      cases ho
      exact g5 v hc
    rw [upd_ne z]
    exact J.freeC x c e
  · have hp' : p ∈ Y.pn ++ (a, ox) :: ps := by
      rcases List.mem_append.mp hp with q | q
      · exact List.mem_append_left _ q
      · exact List.mem_append_right _ (List.mem_cons_of_mem _ q)
    obtain ⟨r1, r2, r3, r4, r5⟩ := J.pin p hp'
    exact ⟨r1, by rw [upd_ne (hne p hp)]; exact r2, r3, r4, r5⟩
  · by_cases hb : b = a
    · subst hb
      rw [upd_same] at e
      cases e
      exact xo_ok g1 hz hd
    · rw [upd_ne hb] at e
      refine (J.hok b u e).stay (fun _ _ _ q => q) (fun c q => ?_) fun c xs q => ?_
      · rw [upd_ne (nb q)]; exact q
      · rw [upd_ne (nb q)]; exact q
theorem sky_new {B : Heap} {l : List Env} {a L : Addr} {Z : Obj → Prop} {h : Heap} (k : Sky B l a Z L h) : B.get? a = none := by
  rcases k with ⟨_, k, _⟩ | ⟨_, k, _⟩ | ⟨_, k, _⟩
  · exact k
  · exact k
  · exact k
/-- the wish of «except x as n: suite» whose exception is known from then on -/
def wKeep (K : PySem.W.Frag) (c : Value) (i : Nat) (ts : Addr → Value → Option Addr → TS) (Wo : WX) (D : Ends) : WX := fun cls d τ H =>
  ∃ b, PySem.W.exmOne K cls c = some b ∧ (b = true → ∀ a, H a = none → ts a cls d { nx := fun τ1 H1 => H1 a = none → D.nx (τ1.set i none) (upd H1 a (XO cls d a)), rt := fun _ _ => False, bk := fun _ _ => False, ct := fun _ _ => False } (τ.set i (some (.ref a))) H) ∧ (b = false → Wo cls d τ H)
theorem ps_keep {x n : Str} {c : Value} {i : Nat} {body sut : List Stmt} {s0 : Stmt} {q1 q2 q3 : Pos} {tb : WX → TS} {ts : Addr → Value → Option Addr → TS} {Wo : WX} (hst : Y.stack = Y.env :: Y.outer) (hfr : Y.env.frame = some Y.env.locals) (hex : Y.ex = []) (nd : Y.N.Nodup) (hi : Y.N[i]? = some n) (hkn : Y.env.kindOf n = some .local) (hcl : Names Y x c) (tk : Takes Y Wo)
    (hbo : ∀ (V : WX) (pl : List (Addr × Obj)) (xw : Value → Shared → Prop), Takes (Y.tr pl xw) V → PassesOwn (model Y.prog Y.w) Y.A Y.env xw → PSs (Y.tr pl xw) body (tb V))
    (hsu : ∀ (a : Addr) (ox : Obj) (cls : Value) (d : Option Addr) (pl : List (Addr × Obj)), Zc cls d ox → (∃ fs, ox.data = .fields fs) → PSs (Y.suite a ((a, ox) :: pl)) (s0 :: sut) (ts a cls d)) :
    PS Y (.Try body [.ExceptHandler (some (.Name x q1)) (some n) (s0 :: sut) q2] [] [] q3) (fun D τ H => tb (wKeep Y.K c i ts Wo D) D τ H) := by
  refine ⟨fun ps t τ H D J h => ?_⟩
  have yk := J.ok
  have afr : Y.A.frames = some (Y.env :: Y.outer) := by rw [yk.frames, hst]
  have nloc : Loc Y.env.scope n := .inl hkn
  refine wpAny_Try_except ?_
  refine wpAny_mono ((hbo (wKeep Y.K c i ts Wo D) (Y.pn ++ ps) (fun e t1 => wpAny (model Y.prog Y.w) Y.A (noteFrame e Y.env) (fun _ t2 => wpAny (model Y.prog Y.w) Y.A (setFlight e none) (fun _ t3 =>
    wpAny (model Y.prog Y.w) Y.A (handleBy e Y.env [.ExceptHandler (some (.Name x q1)) (some n) (s0 :: sut) q2]) (SP Y ps D) Y.xe t3) Y.xe t2) Y.xe t1) (fun u t' fly => ?_) PassesOwn.looking).run [] t τ H D (J.toTry _) h) (fun fl t1 hend => ?_) (fun _ _ he => he)
  · obtain ⟨a, B, tI, ps', τ', H', cls, d, rfl, J0, grd, ups, sky, na, hos, hag, b, hb1, yes, no⟩ := fly
    have JI : Inv Y ps τ' H' tI := J0.ofTry yk
    have newB := sky_new sky
    have skyS : Sky B (Y.env :: Y.outer) a (Zc cls d) Y.env.locals t'.heap := by rw [← hst]; exact sky
    show wpAny (model Y.prog Y.w) Y.A (noteFrame (.ref a) Y.env) _ _ _
    refine Sky.land Zc.steady afr hfr skyS fun h3 f3 u3 => ?_
    have J3 : Inv Y ps τ' H' { t' with heap := h3 } := JI.landed grd f3.1 (ups.trans u3) hos hag
    obtain ⟨ox3, fs3, ex3, ez3, ed3⟩ := f3.there
    have apart : a ∉ frs (Y.env :: Y.outer) := fun hm => by
      obtain ⟨_, o', e', hnf⟩ := f3.2.2.1.mem hm
      rw [ex3] at e'
      cases e'
      exact hnf _ ed3
    have aL : a ≠ Y.env.locals := fun z => apart (List.mem_filterMap.mpr ⟨Y.env, List.mem_cons_self, by rw [hfr, z]⟩)
    have aF : a ∉ Y.fs := fun hm => by
      obtain ⟨e, he, q⟩ := List.mem_filterMap.mp hm
      exact apart (List.mem_filterMap.mpr ⟨e, List.mem_cons_of_mem _ he, q⟩)
    have newI : tI.heap.get? a = none := by
      cases q : tI.heap.get? a with
      | none => rfl
      | some o =>
        have := grd a o q (by show a ∉ frs Y.stack; rw [hst]; exact apart)
        rw [newB] at this
        cases this
    have new0 : Y.s_0.heap.get? a = none := by
      cases q : Y.s_0.heap.get? a with
      | none => rfl
      | some o =>
        obtain ⟨o', q'⟩ := JI.base.there a o q (by rw [hex]; exact List.not_mem_nil)
        rw [newI] at q'
        cases q'
    have others : ∀ p ∈ Y.pn ++ ps, p.1 ≠ a := fun p hp z => by
      have := (JI.pin p hp).1
      rw [z, newI] at this
      cases this
    have S3 := J3.suite ex3 ed3 na aL aF
    refine wpAny_handleBy_cons (codeAny_handlers_test ?_) (by intro q; cases q)
    have tyA : PySem.W.Looks (model Y.prog Y.w) h3 (typeOf (.ref a)) cls := fun A Q E s k q => wpAny_typeOf_ref (k _ _ ex3) (by rw [ez3.1]; exact q)
    have look := PySem.W.exm_one (M := model Y.prog Y.w) (J3.kIn) tyA hb1
    have nameC : ∀ {Q : Value → Shared → Prop} {E : Value → Shared → Prop}, Q c { t' with heap := h3 } → wpAny (model Y.prog Y.w) (Y.A.mark (some (.ref a))) (eval (.Name x q1) Y.env) Q E { t' with heap := h3 } := fun {Q E} q => by
      obtain ⟨hg, hdb, hm | ⟨hm, hv, hnn⟩⟩ := hcl
      · exact ld_glob (X := Y.suite a ((a, ox3) :: (Y.pn ++ ps))) S3 hg hm q hdb
      · exact ld_blt (X := Y.suite a ((a, ox3) :: (Y.pn ++ ps))) S3 hg hm hv q hnn hdb
    refine nameC (look.here ?_)
    cases b with
    | true =>
      refine codeAny_handlers_suite_as ?_
      refine HandSPX.lands_againZ f3 fun h4 f4 u4 => ?_
      have J4 : Inv Y ps τ' H' { t' with heap := h4 } := JI.landed grd f4.1 ((ups.trans u3).trans u4) hos hag
      obtain ⟨ox4, fs4, ex4, ez4, ed4⟩ := f4.there
      have S4 := J4.suite ex4 ed4 na aL aF
      refine store_ok (X := Y.suite a ((a, ox4) :: (Y.pn ++ ps))) (v := .ref a) S4 nd hi nloc rfl (fun t5 S5 => ?_) (.inr hkn)
      refine wpAny_mono ((hsu a ox4 cls d (Y.pn ++ ps) ez4 ⟨_, ed4⟩).run [] t5 _ H' _ S5 (yes rfl a na)) (fun fl t6 hend => ?_) (fun _ _ z => False.elim z)
      cases fl with
      | next =>
        obtain ⟨τ6, H6, S6, q6⟩ := hend
        have K6 : Inv Y ((a, ox4) :: ps) τ6 H6 t6 := ⟨yk, S6.os, S6.bare, S6.base, S6.loc, S6.cell, S6.free, S6.freeC, fun p hp => S6.pin p (by
          rcases List.mem_append.mp hp with r | r
          · exact List.mem_append_left _ (List.mem_cons_of_mem _ (List.mem_append_left _ r))
          · rcases List.mem_cons.mp r with r | r
            · rw [r]
              exact List.mem_append_left _ List.mem_cons_self
            · exact List.mem_append_left _ (List.mem_cons_of_mem _ (List.mem_append_right _ r))), S6.hok, S6.len⟩
        have na6 : H6 a = none := (K6.pin (a, ox4) (List.mem_append_right _ List.mem_cons_self)).2.1
        exact gone_ok (Q := fun _ t7 => SP Y ps D .next t7) K6 nd hi hkn fun t7 K7 => ⟨_, _, inv_keepX K7 ez4 ed4 new0 others, q6 na6⟩
      | brk =>
        obtain ⟨τ6, H6, S6, q6⟩ := hend
        exact q6.elim
      | cont =>
        obtain ⟨τ6, H6, S6, q6⟩ := hend
        exact q6.elim
      | ret u =>
        obtain ⟨v6, τ6, H6, S6, r6, q6⟩ := hend
        exact q6.elim
    | false =>
      show wpAny _ Y.A (handleBy (.ref a) Y.env []) _ _ _
      refine wpAny_handleBy_nil ?_
      obtain ⟨k1, k2, k3, oy, ys, Tr, oT, tt, ky, kz, kd, kh, kr⟩ := id f3
      unfold PySem.passOn
      refine wpAny_bind (wpAny_field ky kd kh ?_)
      rw [if_neg (show ¬ ((Value.ref Tr == Value.none) = true) from by simp)]
      have last : wpAny (model Y.prog Y.w) Y.A (setFlight (.ref a) Y.env.frame) (fun _ t4 => wpAny (model Y.prog Y.w) Y.A (throw (.ref a) : Sem Flow) (SP Y ps D) Y.xe t4) Y.xe { t' with heap := h3 } := by
        rw [hfr]
        refine HandSPX.setFlight_upZ f3 fun h4 hh4 u4 => wpAny_throw (tk _ _ ?_)
        exact ⟨a, B, tI, ps, τ', H', cls, d, rfl, JI, grd, (ups.trans u3).trans u4, .inr (.inr (by rw [hst]; exact hh4)), na, hos, hag, no rfl⟩
      first
        | exact wpAny_bind (wpAny_pure (wpAny_bind last))
        | exact wpAny_bind last
  · cases fl with
    | next =>
      obtain ⟨τ1, H1, J1, q⟩ := hend
      exact wpAny_execs_nil ⟨τ1, H1, J1.ofTry yk, q⟩
    | brk =>
      obtain ⟨τ1, H1, J1, q⟩ := hend
      exact ⟨τ1, H1, J1.ofTry yk, q⟩
    | cont =>
      obtain ⟨τ1, H1, J1, q⟩ := hend
      exact ⟨τ1, H1, J1.ofTry yk, q⟩
    | ret u =>
      obtain ⟨v, τ1, H1, J1, r, q⟩ := hend
      exact ⟨v, τ1, H1, J1.ofTry yk, r, q⟩
end
end G
/-! raise, try .. except C as e: y = e; isinstance of what was caught. -/
namespace G
open PySem L2
/-- an own exception class without __init__, over ValueError -/
structure XF (K : PySem.W.Frag) (mg : Str → Option Value) (x : Str) (C : Addr) : Prop where
  ns : PySem.W.nsIn K mainGlobals x = some (some (.ref C))
  gl : mg x = some (.ref C)
  ex : PySem.W.excIn K C [.type "ValueError", .type "Exception", .type "BaseException", .type "object"] "ValueError.__new__" = true
  kp : PySem.W.keepIn K (.ref C) = true
  sb : PySem.W.subIn K (.ref C) (.type "BaseException") = some true
  ty : PySem.W.typeIn K (.ref C) = some (.type "type")
theorem XF.xr {K : PySem.W.Frag} {mg : Str → Option Value} {x : Str} {C : Addr} (h : XF K mg x C) : xrK K x = some (.ref C) := by
  unfold xrK
  rw [h.ns]
section
variable {ι : Type} {M : MI} {P : Program} {w : World} {K : PySem.W.Frag} {mg : Str → Option Value} {base : Heap} {N : List Str} {W : WX} {n : Nat} {X : ι → Cx}
def sRaise (x : Str) : Sm M Out := fun z => .ex ⟨x, none⟩ z
theorem ds_raise {x m : Str} {C : Addr} {j : Nat} {p1 p2 p3 pos : Pos} (p : Pc P w K mg base N W n X) (tk : ∀ j, Takes (X j) W) (f : XF K mg x C) (hg : ∀ j, Gl (X j) x := by intro _; rfl) (hdb : (x == ("__debug__" : Str)) = false := by decide) :
    DS M (xrK K) K X W (.Raise (some (.Call (.Name x p1) [.Constant (.str m) j p2] [] p3)) none pos) (sRaise x) := by
  refine ⟨fun _ σ H => W (.ref C) none σ H, fun q => ?_, fun G σ H F z D hK hx ok h => ?_⟩
  · exact ps_raise (p.c q) (tk q) (pmk_own PySem.F.excBase_ValueError (by rw [p.k q]; exact f.ex) (by rw [p.g q]; exact f.gl) (by rw [p.k q]; exact f.kp) (raises_own (by rw [p.k q]; exact f.sb) (by rw [p.k q]; exact f.ty)) (hg q) hdb)
  · exact h (.ref C) none σ H F (Same.refl _) ok ⟨by rw [hx]; exact f.xr, rfl⟩
/-! ### the contexts of a try's body -/
def Xt (X : ι → Cx) (V : WX) : {p : ι × List (Addr × Obj) × (Value → Shared → Prop) // Takes ((X p.1).tr p.2.1 p.2.2) V ∧ PassesOwn (model (X p.1).prog (X p.1).w) (X p.1).A (X p.1).env p.2.2} → Cx := fun q => (X q.1.1).tr q.1.2.1 q.1.2.2
theorem Pc.tr (p : Pc P w K mg base N W n X) (V : WX) : Pc P w K mg base N V n (Xt X V) :=
  ⟨⟨fun q => p.k q.1.1, fun q => p.c q.1.1, fun q => p.n q.1.1, p.nd, fun q => p.g q.1.1, fun q => p.u q.1.1⟩, fun q => p.pr q.1.1, fun q => p.pw q.1.1, fun q => p.pb q.1.1, fun q => p.room q.1.1, fun q σ => by
    have e := passAt q.2.1 σ
    have e1 : (Xt X V q).prog = P := p.pr q.1.1
    have e2 : (Xt X V q).w = w := p.pw q.1.1
    rw [show ((X q.1.1).tr q.1.2.1 q.1.2.2).prog = P from e1, show ((X q.1.1).tr q.1.2.1 q.1.2.2).w = w from e2] at e
    exact e, fun q => p.gd q.1.1⟩
def sCatch (i y : Nat) (tb : Str → Option Bool) (f : Sm M Out) : Sm M Out := fun z => match f z with
  | .ex x z1 => (match tb x.c, x.arg with
    | some true, none => if i < z1.rho.length then .ok .nx { z1 with rho := ((z1.rho.set i (some (.d (.exc x.c [])))).set y (some (.d (.exc x.c [])))).set i none } else .bad
    | some false, _ => .ex x z1
    | _, _ => .bad)
  | r => r
theorem Ok.unset {G : Gx} {σ : St} {H F : Hp} {z : Z M.T} (ok : Ok M G σ H F z) (i : Nat) : Ok M G (σ.set i none) H F { z with rho := z.rho.set i none } := ok.wipe [i]
theorem ds_catch {x nm yn : Str} {c : Value} {i y : Nat} {body : List Stmt} {f : Sm M Out} {tb : Str → Option Bool} {q1 q2 q3 q4 q5 q6 : Pos} (p : Pc P w K mg base N W n X) (hst : ∀ j, (X j).stack = (X j).env :: (X j).outer) (hfr : ∀ j, (X j).env.frame = some (X j).env.locals) (hex : ∀ j, (X j).ex = []) (tk : ∀ j, Takes (X j) W)
    (hi : ∀ j, (X j).N[i]? = some nm) (hk : ∀ j, (X j).env.kindOf nm = some .local) (hy : ∀ j, (X j).N[y]? = some yn) (hly : ∀ j, (X j).env.scope.names.lookup yn = some .local) (hln : ∀ j, (X j).env.scope.names.lookup nm = some .local) (hcl : ∀ j, Names (X j) x c)
    (htb : ∀ s b, tb s = some b → ∃ C, xrK K s = some (.ref C) ∧ PySem.W.exmOne K (.ref C) c = some b) (hb : ∀ V, DSs M (xrK K) K (Xt X V) V body f)
    (hs : ∀ j (a : Addr) (pl : List (Addr × Obj)), swapsWith (.Name nm q4) (some (.Name yn q5)) q6.line ((X j).suite a pl).env = pure false := by intro _ _ _; rfl)
    (hdn : (nm == ("__debug__" : Str)) = false := by decide) (hcn : (nm == ("__classdict__" : Str)) = false := by decide) :
    DS M (xrK K) K X W (.Try body [.ExceptHandler (some (.Name x q1)) (some nm) [.Assign [.Name yn q5] (.Name nm q4) q6] q2] [] [] q3) (sCatch i y tb f) := by
  refine ⟨fun D τ H => (hb (wKeep K c i (fun _ _ _ => tAsg (tVar i) (gName y)) W D)).choose D τ H, fun j => ?_, fun G σ H F z D hK hx ok hh => ?_⟩
  · have r := ps_keep (tb := fun V => (hb V).choose) (ts := fun _ _ _ => tAsg (tVar i) (gName y)) (q1 := q1) (q2 := q2) (q3 := q3) (s0 := .Assign [.Name yn q5] (.Name nm q4) q6) (sut := []) (hst j) (hfr j) (hex j) (p.toPl.nds j) (hi j) (hk j) (hcl j) (tk j) (fun V pl xw h1 h2 => (hb V).choose_spec.1 ⟨(j, pl, xw), h1, h2⟩) (fun a ox cls d pl hz hd => pss_one (ps_set (X := (X j).suite a ((a, ox) :: pl)) (p.toPl.nds j) (hy j) (.inl (hly j)) (pe_var (X := (X j).suite a ((a, ox) :: pl)) (hi j) (.inl (hln j)) hdn hcn) (hs j a _) (.inr (hly j))))
    rw [p.k j] at r
    exact r
  · refine (hb (wKeep K c i (fun _ _ _ => tAsg (tVar i) (gName y)) W D)).choose_spec.2 G σ H F z D hK hx ok ?_
    unfold sCatch at hh
    cases e : f z with
    | bad => rw [e] at hh; exact hh
    | ok o z1 =>
      rw [e] at hh
      cases o with
      | nx => exact hh
      | bk => exact hh
      | ct => exact hh
      | rt s => exact hh
    | ex xx z1 =>
      rw [e] at hh
      intro cls d σ1 H1 F1 s1 ok1 xo
      obtain ⟨xo1, xo2⟩ := xo
      rw [hx] at xo1
      cases et : tb xx.c with
      | none => simp only [et] at hh; exact hh.elim
      | some b =>
        obtain ⟨C, hC, hm⟩ := htb _ _ et
        rw [hC] at xo1
        cases xo1
        cases b with
        | false =>
          simp only [et] at hh
          exact ⟨false, hm, (fun z => by cases z), fun _ => hh (.ref C) d σ1 H1 F1 s1 ok1 ⟨by rw [hx]; exact hC, xo2⟩⟩
        | true =>
          cases ea : xx.arg with
          | some a => simp only [et, ea] at hh; exact hh.elim
          | none =>
            simp only [et, ea] at hh xo2
            subst xo2
            by_cases hl : i < z1.rho.length
            · rw [if_pos hl] at hh
              refine ⟨true, hm, fun _ a na => ?_, fun z => by cases z⟩
              refine ⟨.ref a, List.getElem?_set_self (by rw [← ok1.len]; exact hl), fun _ => ?_⟩
              have okA := ok1.newF na (XO (.ref C) none a)
              have da : Da G.K (upd F1 a (XO (.ref C) none a)) (.ref a) (.exc xx.c []) := .exc upd_same (by rw [hK]; exact hC)
              have okB := okA.set (i := i) (v := .ref a) (s := .d (.exc xx.c [])) da (fun _ e => by cases e)
              have okC := okB.set (i := y) (v := .ref a) (s := .d (.exc xx.c [])) da (fun _ e => by cases e)
              exact hh _ _ _ (s1.trans (same_upd (ok1.freshF na))) (okC.unset i)
            · rw [if_neg hl] at hh
              exact hh.elim
end
end G
namespace G
open PySem L2
/-! ### isinstance of an exception that was caught -/
def rIsX (K : PySem.W.Frag) : List V → Hp → VK → Prop := fun xs H Q => ∃ (a C : Addr) (c : V) (u : Value) (b : Bool), xs = [.ref a, c] ∧ H a = some (XO (.ref C) none a) ∧ ExcC K C ∧ (∀ v, RelV c v → v = u) ∧ PySem.W.kitOne K (.ref C) u = some b ∧ Q (.bl b) H
def rIsXT (K : PySem.W.Frag) : List V → Hp → VK → Prop := fun xs H Q => ∃ (a C tp : Addr) (cs : List V) (us : List Value) (b : Bool), xs = [.ref a, .ref tp] ∧ H a = some (XO (.ref C) none a) ∧ H tp = some (.tup cs) ∧ ExcC K C ∧ (∀ vs, Vals cs vs → vs = us) ∧ PySem.W.kitAny K (.ref C) us = some b ∧ Q (.bl b) H
theorem xo_inst {P : Program} {w : World} {H : Hp} {h : Heap} {a C : Addr} (k : HOk P w H h) (e : H a = some (XO (.ref C) none a)) : ∃ ox, PySem.W.InstAt h a ox C none := by
  obtain ⟨⟨ox, fs, g, z, d⟩, _⟩ := (show ObjOk P w H h a (XO (.ref C) none a) from k a _ e)
  obtain ⟨oc, od, oda, osl⟩ := ox
  obtain ⟨z1, z2⟩ := z
  dsimp only at z1 z2 d
  subst z1 z2 d
  exact ⟨_, g, rfl, rfl, trivial⟩
theorem call_isX {X : Cx} : CallR X (.builtin "isinstance") (rIsX X.K) := by
  intro pins s σ H xs us Q I r h
  obtain ⟨a, C, c, u, b, rfl, hH, E, hc, e, q⟩ := h
  obtain ⟨u1, u2, rfl, r1, r2⟩ := vals2 r
  cases (show u1 = Value.ref a from r1)
  have e2 := hc _ r2
  subst e2
  obtain ⟨ox, J⟩ := xo_inst I.hok hH
  exact PySem.W.kia_one (PySem.W.handS_kitx_exc E.hg E.hk E.hs E.hd E.ha E.hn E.ht E.hm) I.kIn J e (fun z => nomatch z) fun tk => ⟨.bl b, H, I.tok tk, rfl, q⟩
theorem call_isXT {X : Cx} : CallR X (.builtin "isinstance") (rIsXT X.K) := by
  intro pins s σ H xs us Q I r h
  obtain ⟨a, C, tp, cs, vs, b, rfl, hH, hT, E, hc, e, q⟩ := h
  obtain ⟨u1, u2, rfl, r1, r2⟩ := vals2 r
  cases (show u1 = Value.ref a from r1)
  cases (show u2 = Value.ref tp from r2)
  obtain ⟨ox, J⟩ := xo_inst I.hok hH
  obtain ⟨_, its, rv, o, h1, h2, k, h3⟩ := (show ObjOk X.prog X.w H s.heap tp (.tup cs) from I.hok tp _ hT)
  have e3 := hc _ rv
  subst e3
  obtain ⟨oc, od, dt, sl⟩ := o
  simp only at h2 h3
  subst h2 h3
  exact PySem.W.kia_tup (PySem.W.handS_kitx_exc E.hg E.hk E.hs E.hd E.ha E.hn E.ht E.hm) I.kIn J h1 e (fun z => nomatch z) fun tk => ⟨.bl b, H, I.tok tk, rfl, q⟩
section
variable {ι : Type} {M : MI} {xr : Str → Option Value} {K : PySem.W.Frag} {mg : Str → Option Value} {N : List Str} {W : WX} {X : ι → Cx}
def dIsX (tb : Str → Option Bool) : D → Option R := fun d => match d with
  | .exc c [] => (tb c).map fun b => .d (.bl b)
  | _ => none
theorem Rv.exc {F H : Hp} {v : V} {c : Str} (s : Same F H) (h : Rv K F H v (.exc c [])) : ∃ a C, v = .ref a ∧ H a = some (XO (.ref C) none a) ∧ xrK K c = some (.ref C) := by
  rcases h with h | ⟨a, vs, xs, _, e, _⟩
  · cases h with
    | exc q r => exact ⟨_, _, rfl, s _ _ q, r⟩
  · cases e
theorem de_isX {e eT : Expr} {vT : V} {u : Value} {tb : Str → Option Bool} {g : Sm M S} {pp pos : Pos} (p : Pl K X N mg) (hm : mg "isinstance" = none) (hT : ∀ j, PE (X j) eT (tC vT)) (hu : ∀ v, RelV vT v → v = u) (htb : ∀ s b, tb s = some b → ∃ C, xrK K s = some (.ref C) ∧ ExcC K C ∧ PySem.W.kitOne K (.ref C) u = some b) (h : DE M xr K X W e g) (hg : ∀ j, Gl (X j) "isinstance" := by intro _; rfl)
    (he : ∀ j, starEach [e, eT] (X j).env = (false, eval e (X j).env) :: starEach [eT] (X j).env := by intro _; rfl) (he2 : ∀ j, starEach [eT] (X j).env = (false, eval eT (X j).env) :: starEach [] (X j).env := by intro _; rfl) (hpl : ∀ j, (backTo pos (starEach [eT] (X j).env)).any (·.1) = false := by intro _; rfl) :
    DE M xr K X W (.Call (.Name "isinstance" pp) [e, eT] [] pos) (eUn (dIsX tb) g) := by
  obtain ⟨tt, pe, c⟩ := h
  refine ⟨tCB (rIsX K) (tCons tt (tCons (tC vT) tNil)), fun j => ?_, fun G σ H F z Q hK hx ok hh => ?_⟩
  · rw [← p.k j]
    exact pe_callB call_isX (hg j) (by rw [p.g j]; exact hm) PyProof.Rows.boot_isinstance (pa_cons (pe j) (pa_cons (hT j) pa_nil (he2 j)) (he j)) (by decide) (by decide) (he j) (hpl j)
  · refine cmp_opd c G σ H F z _ hK hx ok (hit_bind hh fun s z1 v H1 F1 _ sm1 ok1 e1 h1 => ?_)
    have q := fin_hit ok1 h1
    cases er : rd z1 s with
    | none => rw [er] at q; exact q.elim
    | some x =>
      rw [er] at q
      have q' : Hit0 G.K F1 H1 (dIsX tb x) Q := q
      unfold dIsX at q'
      split at q'
      · rename_i cn
        cases et : tb cn with
        | none => rw [et] at q'; exact q'.elim
        | some b =>
          rw [et] at q'
          obtain ⟨a, C, rfl, a1, a2⟩ := Rv.exc ok1.sub (EO.rv ok1 e1 er)
          obtain ⟨C', b1, b2, b3⟩ := htb _ _ et
          rw [hK, b1] at a2
          cases a2
          exact ⟨a, C, vT, u, b, rfl, a1, b2, hu, b3, q' _ (.bl b)⟩
      · exact q'.elim
/-- a row of constants -/
def tCs : List V → TA
  | [] => tNil
  | v :: r => tCons (tC v) (tCs r)
theorem tCs_is : ∀ (vs : List V) (σ : St) (H : Hp) (Q : List V → Hp → Prop), Q vs H → tCs vs σ H Q
  | [], _, _, _, h => h
  | v :: r, σ, H, Q, h => tCs_is r σ H (fun xs H2 => Q (v :: xs) H2) h
theorem de_isXT {e : Expr} {es : List Expr} {k : Nat} {vs : List V} {us : List Value} {tb : Str → Option Bool} {g : Sm M S} {pp pt pos : Pos} (p : Pl K X N mg) (hm : mg "isinstance" = none) (hl : vs.length ≤ sizeLine) (hT : ∀ j, PA (X j) es (tCs vs)) (hu : ∀ ws, Vals vs ws → ws = us) (htb : ∀ s b, tb s = some b → ∃ C, xrK K s = some (.ref C) ∧ ExcC K C ∧ PySem.W.kitAny K (.ref C) us = some b) (h : DE M xr K X W e g) (hg : ∀ j, Gl (X j) "isinstance" := by intro _; rfl)
    (he : ∀ j, starEach [e, .Tuple es k pt] (X j).env = (false, eval e (X j).env) :: starEach [.Tuple es k pt] (X j).env := by intro _; rfl) (he2 : ∀ j, starEach [.Tuple es k pt] (X j).env = (false, eval (.Tuple es k pt) (X j).env) :: starEach [] (X j).env := by intro _; rfl) (hpl : ∀ j, (backTo pos (starEach [.Tuple es k pt] (X j).env)).any (·.1) = false := by intro _; rfl) :
    DE M xr K X W (.Call (.Name "isinstance" pp) [e, .Tuple es k pt] [] pos) (eUn (dIsX tb) g) := by
  obtain ⟨tt, pe, c⟩ := h
  refine ⟨tCB (rIsXT K) (tCons tt (tCons (tTup (tCs vs)) tNil)), fun j => ?_, fun G σ H F z Q hK hx ok hh => ?_⟩
  · rw [← p.k j]
    exact pe_callB call_isXT (hg j) (by rw [p.g j]; exact hm) PyProof.Rows.boot_isinstance (pa_cons (pe j) (pa_cons (pe_tup (hT j)) pa_nil (he2 j)) (he j)) (by decide) (by decide) (he j) (hpl j)
  · refine cmp_opd c G σ H F z _ hK hx ok (hit_bind hh fun s z1 v H1 F1 _ sm1 ok1 e1 h1 => ?_)
    refine tCs_is vs σ H1 _ ⟨hl, fun t ht => ?_⟩
    have okT := ok1.new ht (.tup vs)
    have q := fin_hit okT h1
    cases er : rd z1 s with
    | none => rw [er] at q; exact q.elim
    | some x =>
      rw [er] at q
      have q' : Hit0 G.K F1 (upd H1 t (.tup vs)) (dIsX tb x) Q := q
      unfold dIsX at q'
      split at q'
      · rename_i cn
        cases et : tb cn with
        | none => rw [et] at q'; exact q'.elim
        | some b =>
          rw [et] at q'
          obtain ⟨a, C, rfl, a1, a2⟩ := Rv.exc okT.sub (EO.rv okT e1 er)
          obtain ⟨C', b1, b2, b3⟩ := htb _ _ et
          rw [hK, b1] at a2
          cases a2
          exact ⟨a, C, t, vs, us, b, rfl, a1, upd_same, b2, hu, b3, q' _ (.bl b)⟩
      · exact q'.elim
end
end G
/-! The law's own place in its script: a list of one number, told through all calls. -/
namespace G
open PySem L2
abbrev M0 : MI where
  T := Unit
  ok := fun _ _ _ ms _ => ms = []
  mono := fun _ _ h => h
abbrev M2 : MI where
  T := Int
  ok := fun _ _ H ms t => ∃ a, ms = [a] ∧ H a = some (.lst [.int t])
  mono := fun {K F F' H H' ms t} hF hm h => by
    obtain ⟨a, rfl, h1⟩ := h
    exact ⟨a, rfl, (hm a (by simp)).trans h1⟩
def eSpot (i : Nat) : Sm M2 S := fun z => match z.rho[i]? with
  | some (some (.m 0)) => .ok (.d (.int z.m)) z
  | _ => .bad
section
variable {ι : Type} {xr : Str → Option Value} {K : PySem.W.Frag} {X : ι → Cx} {W : WX} {N : List Str} {mg : Str → Option Value}
theorem de_spot (i : Nat) {x : Str} {j : Nat} {p1 p2 pos : Pos} (p : Pl K X N mg) (hN : ∀ j, (X j).N[i]? = some x := by intro _; rfl) (hv : ∀ j, Vis (X j).env.scope x := by first | exact fun _ => Or.inl rfl | exact fun _ => Or.inr (Or.inl rfl) | exact fun _ => Or.inr (Or.inr rfl)) (hd : (x == ("__debug__" : Str)) = false := by decide)
    (hcd : (x == ("__classdict__" : Str)) = false := by decide) : DE M2 xr K X W (.Subscript (.Name x p1) (.Constant (.int 0) j p2) pos) (eSpot i) := by
  refine ⟨tOp (rIxL K) (tVar i) (tC (.int 0)), fun q => by rw [← p.k q]; exact pe_ix ix_list (pe_var (hN q) (hv q) hd hcd) pe_int (fun _ _ => rfl), fun G σ H F z Q hK hx ok h => ?_⟩
  unfold eSpot at h
  split at h
  · rename_i hs
    obtain ⟨v, e, a, ha, rfl⟩ := ok.slot i _ hs
    obtain ⟨b, hb, hH⟩ := ok.mach
    rw [hb] at ha
    cases ha
    exact ⟨.ref a, e, a, [.int z.m], 0, .int z.m, rfl, rfl, SqL.of hH, rfl, h _ H F (Same.refl _) ok (.int _)⟩
  · exact h.elim
def sSpot (i : Nat) (f : Sm M2 S) : Sm M2 Out := fun z => (opd f z).bind fun s z1 => match rd z1 s, z1.rho[i]? with
  | some (.int n), some (some (.m 0)) => .ok .nx { z1 with m := n }
  | _, _ => .bad
theorem Ok.spot {G : Gx} {σ : St} {H F : Hp} {z : Z Int} (ok : Ok M2 G σ H F z) {a : Addr} (hm : G.ms = [a]) (n : Int) : Ok M2 G σ (upd H a (.lst [.int n])) F { z with m := n } where
  sub := same_updR ok.sub (ok.msF a (by rw [hm]; exact List.mem_cons_self))
  len := ok.len
  slot := fun i s e => by
    obtain ⟨v, h1, h2⟩ := ok.slot i s e
    refine ⟨v, h1, ?_⟩
    cases s with
    | d x => exact h2
    | l xs =>
      obtain ⟨b, vs, rfl, h3, h4, h5, h6, h7⟩ := h2
      have nb : b ≠ a := fun e => h7 (by rw [hm, e]; exact List.mem_cons_self)
      exact ⟨b, vs, rfl, by rw [upd_ne nb]; exact h3, h4, h5, h6, h7⟩
    | v _ => exact h2
    | m j => exact h2
  dist := ok.dist
  mach := ⟨a, hm, upd_same⟩
  msF := ok.msF
  msP := ok.msP
  msH := fun b hb => by
    rw [hm] at hb
    cases List.mem_singleton.mp hb
    rw [upd_same]
    intro e
    cases e
  fr := fun b o q => by
    obtain ⟨h1, h2⟩ := ok.fr b o q
    have nb : b ≠ a := fun e => by
      rw [e, ok.msP a (by rw [hm]; exact List.mem_cons_self)] at q
      cases q
    exact ⟨by rw [upd_ne nb]; exact h1, h2⟩
theorem ds_spot (i : Nat) {x : Str} {j : Nat} {e : Expr} {f : Sm M2 S} {p1 p2 p3 pos : Pos} (p : Pl K X N mg) (h : DE M2 xr K X W e f) (hN : ∀ j, (X j).N[i]? = some x := by intro _; rfl) (hv : ∀ j, Vis (X j).env.scope x := by first | exact fun _ => Or.inl rfl | exact fun _ => Or.inr (Or.inl rfl) | exact fun _ => Or.inr (Or.inr rfl)) (hd : (x == ("__debug__" : Str)) = false := by decide)
    (hcd : (x == ("__classdict__" : Str)) = false := by decide)
    (hs : ∀ q, swapsWithSole [.Subscript (.Name x p1) (.Constant (.int 0) j p2) p3] e pos.line (X q).env = pure false := by intro _; rfl) (hw : ∀ q, swappedStores [.Subscript (.Name x p1) (.Constant (.int 0) j p2) p3] e (X q).env = pure none := by intro _; rfl)
    (h1 : ∀ q, (assignEach [.Subscript (.Name x p1) (.Constant (.int 0) j p2) p3] (X q).env).map (·.2) = [assign (.Subscript (.Name x p1) (.Constant (.int 0) j p2) p3) (X q).env] := by intro _; rfl) :
    DS M2 xr K X W (.Assign [.Subscript (.Name x p1) (.Constant (.int 0) j p2) p3] e pos) (sSpot i f) := by
  obtain ⟨t, pe, c⟩ := h
  refine ⟨tAsg t (gSub (tVar i) (tC (.int 0)) rSetL), fun q => ps_asg (pe q) (pg_sub (pe_var (hN q) (hv q) hd hcd) pe_int set_list) (hs q) (hw q) (h1 q), fun G σ H F z D hK hx ok hh => ?_⟩
  refine cmp_opd c G σ H F z _ hK hx ok (hits_bind hh fun s z1 v H1 F1 _ sm ok1 ev h2 => ?_)
  cases er : rd z1 s with
  | none => simp only [er] at h2; exact h2.elim
  | some d =>
    cases d with
    | int n =>
      have hv := (EO.rv ok1 ev er).int
      subst hv
      cases es : z1.rho[i]? with
      | none => simp only [er, es] at h2; exact h2.elim
      | some o =>
        cases o with
        | none => simp only [er, es] at h2; exact h2.elim
        | some s' =>
          match s', es, h2 with
          | .m 0, es, h2 =>
            simp only [er, es] at h2
            obtain ⟨v, e, a, ha, rfl⟩ := ok1.slot i _ es
            obtain ⟨b, hb, hH⟩ := ok1.mach
            rw [hb] at ha
            cases ha
            exact ⟨.ref a, e, a, [.int z1.m], 0, 0, rfl, rfl, hH, rfl, h2 σ _ F1 (Same.refl _) (ok1.spot hb n)⟩
          | .m (k + 1), es, h2 => simp only [er, es] at h2; exact h2.elim
          | .d _, es, h2 => simp only [er, es] at h2; exact h2.elim
          | .l _, es, h2 => simp only [er, es] at h2; exact h2.elim
          | .v _, es, h2 => simp only [er, es] at h2; exact h2.elim
    | _ => simp only [er] at h2; exact h2.elim
end
/-! ### the law: what comes ahead, the place made, the rest -/
def zS (n : Nat) (ns : List Int) : Z Unit := { rho := some (.d (.scr ns)) :: List.replicate n none, m := () }
theorem law_runS {K : PySem.W.Frag} {xr : Str → Option Value} {E : XK} {N : List Str} {i : Nat} {tp t : TS} {fp : Sm M0 Out} {f : Sm M2 Out} {vs : List V} {H : Hp} {Q : VK} (hN : 1 ≤ N.length)
    (hf : ∀ ns : List Int, ns.length ≤ 63 → (∀ z ∈ ns, Builtin.Int.intBits z ≤ 1048576) → ∃ z1 z', fp (zS (N.length - 1) ns) = .ok .nx z1 ∧ f ⟨z1.rho.set i (some (.m 0)), 0⟩ = .ok (.rt (.d (.bl true))) z')
    (cp : SR M0 K xr (fun cls d _ H => E cls d H) tp fp) (c : SR M2 K xr (fun cls d _ H => E cls d H) t f) (h : spLaw K vs H Q E) : tSeq tp (tSeq (tAsg (tLst (tCons (tC (.int 0)) tNil)) (gName i)) t) { nx := fun _ H' => Q .non H', rt := Q } (L2.start N vs) H := by
  obtain ⟨a, ns, rfl, hs, hl, hbits, hq⟩ := h
  obtain ⟨z1, z', e1, e2⟩ := hf ns hl hbits
  have st : L2.start N [.ref a] = some (.ref a) :: List.replicate (N.length - 1) none := rfl
  rw [st]
  let F : Hp := fun b => if b = a then H a else none
  have sF : Same F H := fun b o q => by
    have q' : (if b = a then H a else none) = some o := q
    by_cases e : b = a
    · rw [if_pos e] at q'; rw [e]; exact q'
    · rw [if_neg e] at q'; cases q'
  have hsF : SqL K F a (ns.map V.int) := by
    have Fa : ∀ o, H a = some o → F a = some o := fun o q => by
      show (if a = a then H a else none) = some o
      rw [if_pos rfl]
      exact q
    rcases hs with (q | ⟨o, q⟩) | q
    · exact .inl (.inl (Fa _ q))
    · exact .inl (.inr ⟨o, Fa _ q⟩)
    · exact .inr q
  have key : ∀ (k : Nat) (s : S), (zS (N.length - 1) ns).rho[k]? = some (some s) → k = 0 ∧ s = .d (.scr ns) := fun k s e => by
    have e' : (some (S.d (.scr ns)) :: List.replicate (N.length - 1) none)[k]? = some (some s) := e
    match k, e' with
    | 0, e' => cases e'; exact ⟨rfl, rfl⟩
    | k + 1, e' =>
      rw [List.getElem?_cons_succ, List.getElem?_replicate] at e'
      split at e' <;> cases e'
  refine cp ⟨K, xr, [], fun _ => none, F⟩ _ H F (zS (N.length - 1) ns) _ rfl rfl ⟨sF, by simp [zS], fun k s e => ?_, fun k j xs ys v q1 _ _ _ => ?_, rfl, (fun b hb => by cases hb), (fun b hb => by cases hb), (fun b hb => by cases hb), (fun b o q => by cases q)⟩ ?_
  · obtain ⟨rfl, rfl⟩ := key k s e
    exact ⟨_, rfl, Da.scr hsF⟩
  · obtain ⟨_, q⟩ := key k _ q1
    cases q
  · rw [e1]
    intro σ1 H1 F1 sm ok1
    refine ⟨by show 1 ≤ sizeLine; rw [sizeLine_eq]; decide, fun p hp => ?_⟩
    show t _ (σ1.set i (some (.ref p))) (upd H1 p (.lst [.int 0]))
    have hz : ∀ (k : Nat) (s : S), (z1.rho.set i (some (.m 0)))[k]? = some (some s) → (k = i ∧ s = .m 0) ∨ (k ≠ i ∧ z1.rho[k]? = some (some s)) := fun k s e => by
      by_cases hk : k = i
      · subst hk
        by_cases hlt : k < z1.rho.length
        · rw [List.getElem?_set_self hlt] at e
          cases e
          exact .inl ⟨rfl, rfl⟩
        · rw [List.getElem?_eq_none (by rw [List.length_set]; omega)] at e
          cases e
      · rw [List.getElem?_set_ne (Ne.symm hk)] at e
        exact .inr ⟨hk, e⟩
    refine c ⟨K, xr, [p], fun _ => none, F1⟩ _ _ F1 ⟨z1.rho.set i (some (.m 0)), 0⟩ _ rfl rfl ⟨same_updR ok1.sub (ok1.freshF hp), by simp [ok1.len], fun k s e => ?_, fun k j xs ys v q1 q2 q3 q4 => ?_, ⟨p, rfl, upd_same⟩, fun b hb => ?_, fun _ _ => rfl, fun b hb => ?_, fun b o q => by cases q⟩ ?_
    · rcases hz k s e with ⟨rfl, rfl⟩ | ⟨hk, e'⟩
      · refine ⟨.ref p, List.getElem?_set_self ?_, p, rfl, rfl⟩
        have : k < (z1.rho.set k (some (S.m 0))).length := (List.getElem?_eq_some_iff.mp e).1
        rw [List.length_set, ok1.len] at this
        exact this
      · obtain ⟨v, h1, h2⟩ := ok1.slot k s e'
        refine ⟨v, by rw [List.getElem?_set_ne (Ne.symm hk)]; exact h1, ?_⟩
        cases s with
        | d x => exact h2
        | l xs =>
          obtain ⟨b, vs, rfl, h3, h4, h5, _, h7⟩ := h2
          have nb := ne_of_none h3 hp
          exact ⟨b, vs, rfl, by rw [upd_ne nb]; exact h3, h4, h5, rfl, fun q => nb (List.mem_singleton.mp q)⟩
        | v _ => exact h2
        | m j =>
          obtain ⟨b, hb, _⟩ := h2
          simp at hb
    · rcases hz k _ q1 with ⟨_, q⟩ | ⟨hk, q1'⟩
      · cases q
      · rcases hz j _ q2 with ⟨_, q⟩ | ⟨hj, q2'⟩
        · cases q
        · rw [List.getElem?_set_ne (Ne.symm hk)] at q3
          rw [List.getElem?_set_ne (Ne.symm hj)] at q4
          exact ok1.dist k j xs ys v q1' q2' q3 q4
    · cases List.mem_singleton.mp hb
      exact ok1.freshF hp
    · cases List.mem_singleton.mp hb
      rw [upd_same]
      intro e
      cases e
    · rw [e2]
      intro v H2 F2 s2 r
      have hv : v = .bl true := by
        have := r.val
        cases (show Da K F2 v (.bl true) from this)
        rfl
      rw [hv]
      exact hq H2
end G
/-! enumerate of lists and tuples. -/
namespace G
open PySem L2 PySem.Spec PyProof.Rows
theorem meets_enum1 {v : Value} {o : Obj} {H : Heap → Prop} (B : Begins v o H) :
    Meets (Builtin.«enumerate.__new__» ⟨[.type "enumerate", v], []⟩) (fun _ R s => H s.heap ∧
      R (.ok (.ret (.ref (s.heap.push o).objs.size))) { s with heap := (s.heap.push o).push { cls := .type "enumerate", data := .fields #[.none, .bool false, .ref s.heap.objs.size, rawInt 0, .none, .none] } }) :=
  .of_wp fun prog w A R s hh => by
    obtain ⟨hp, gs, dr, tk, os⟩ := s
    obtain ⟨h1, hr⟩ := hh
    have hsub := sub_enumerate
    have itr : ∀ {A' : Around} {E : Value → Shared → Prop} {Q : Value → Shared → Prop}, Q (.ref hp.objs.size) ⟨hp.push o, gs, dr, tk, os⟩ → wpAny (model prog w) A' (pyIter v) Q E ⟨hp, gs, dr, tk, os⟩ :=
      fun q => B.iter prog w _ _ ⟨hp, gs, dr, tk, os⟩ _ h1 q
    wp_walk using itr
    refine wpAny_stack_any fun st => wpAny_pure ?_
    split
    · rename_i c _ _ _ _ _
      cases (c == Value.type "enumerate")
      · wp_walk using itr
        exact ⟨_, rfl, hr⟩
      · wp_walk using itr
        exact ⟨_, rfl, hr⟩
    · wp_walk using itr
      exact ⟨_, rfl, hr⟩
theorem enum1_begins {prog : Program} {w : World} {A : Around} {E : Value → Shared → Prop} {s : Shared} {v : Value} {o : Obj} {H : Heap → Prop} {Q : Value → Shared → Prop} (B : Begins v o H) (h1 : H s.heap)
    (hq : ∀ h', IsEnum h' (s.heap.objs.size + 1) s.heap.objs.size 0 .none → h'.get? s.heap.objs.size = some o → h'.objs.size = s.heap.objs.size + 2 → (∀ b u, s.heap.get? b = some u → h'.get? b = some u) → Q (.ref (s.heap.objs.size + 1)) { s with heap := h' }) :
    wpAny (model prog w) A (call (.type "enumerate") [v]) Q E s := by
  refine callType_new F.called_enumerate (by decide) (F.typeCall_enumerate_1 _) (F.newCall_enumerate_1 _) (fun obj => F.args_object_init_2 obj _) F.entry_enumerate_new (meets_enum1 B) ⟨h1, ?_⟩
  have z1 : (s.heap.push o).objs.size = s.heap.objs.size + 1 := Heap.size_push ..
  show _ ∧ _
  rw [z1]
  have ie : IsEnum ((s.heap.push o).push { cls := .type "enumerate", data := .fields #[.none, .bool false, .ref s.heap.objs.size, rawInt 0, .none, .none] }) (s.heap.objs.size + 1) s.heap.objs.size 0 .none := by
    have q := Heap.get?_push_size (s.heap.push o) (o := { cls := .type "enumerate", data := .fields #[.none, .bool false, .ref s.heap.objs.size, rawInt 0, .none, .none] }) rfl
    rw [z1] at q
    exact q
  exact ⟨⟨_, ie, rfl⟩, hq _ ie (Heap.get?_push_of_some _ (Heap.get?_push_size _ B.free)) (by rw [Heap.size_push, z1]) fun b u x => Heap.get?_push_of_some _ (Heap.get?_push_of_some _ x)⟩
/-- a tuple's items, each in a new pair with its number -/
def IteT (K : PySem.W.Frag) (a : Addr) : It :=
  ⟨fun i H => ∃ (ys : List V) (y : V), SqT K H a ys ∧ ys[i]? = some y, fun i H v H' => ∃ T y, v = .ref T ∧ H T = none ∧ H' = upd H T (.tup [.int (i : Nat), y]) ∧ ∀ ys, SqT K H a ys → ys[i]? = some y, fun i H => ∃ ys : List V, SqT K H a ys ∧ ys.length = i⟩
theorem turn_enumT {P : Program} {w : World} {K : PySem.W.Frag} {elts : List Expr} {kk : Nat} {tpos : Pos} (a e it : Addr) :
    Turn P w K (.Tuple elts kk tpos) (IteT K a) [e, it] e (fun i h => (∃ old, IsEnum h e it ((i : Nat) : Int) old) ∧ h.IsTupleIter it a i ∧ e ≠ it) where
  mem := by simp
  obj := fun i h st b hb => by
    obtain ⟨⟨old, he⟩, ⟨o, ho, hc, hd⟩, _⟩ := st
    rcases (show b = e ∨ b = it by simpa using hb) with z | z
    · rw [z]; exact ⟨_, he, fun v q => nomatch q⟩
    · rw [z]; exact ⟨o, ho, fun v q => by rw [hd] at q; cases q⟩
  keep := fun i h h' st k => by
    obtain ⟨⟨old, he⟩, hi, hne⟩ := st
    exact ⟨⟨old, k e (by simp) _ he⟩, hi.at fun o q => k it (by simp) o q, hne⟩
  item := by
    intro X hP hw hK hc i pins s σ H E I hf st hg
    subst hP hw hK
    obtain ⟨⟨old, he⟩, hit, hne⟩ := st
    obtain ⟨ys, y, hq, hy⟩ := hg
    obtain ⟨its, rv, tp, hz⟩ := I.tuple hq
    have hil : i < its.toArray.size := by
      have := (List.getElem?_eq_some_iff.mp hy).1
      rw [List.size_toArray, ← rv.length]
      exact this
    have lte : e < s.heap.objs.size := Heap.lt_size he
    have lti : it < s.heap.objs.size := by obtain ⟨_, q, _⟩ := hit; exact Heap.lt_size q
    have ane : a ≠ e := fun z => by
      obtain ⟨o, g1, g2, _⟩ := tp
      rw [z, he] at g1
      cases g1
      exact absurd g2 (by simp)
    have ani : a ≠ it := fun z => by
      obtain ⟨o, g1, g2, _⟩ := tp
      obtain ⟨o', g3, g4, _⟩ := hit
      rw [z, g3] at g1
      cases g1
      rw [g4] at g2
      exact absurd g2 (by simp)
    refine wpAny_pyNext_enum_itemD (Draws.tuple (A := X.A.in1) (show X.A.handled = none from I.ok.hd hc) it a ani its.toArray) he ⟨hit, tp⟩ hil hne (by simp [hne, Ne.symm ane]) fun x h' tk hx ho hst hT hsz hk => ?_
    refine ⟨_, rfl, wpAny_letOwnedTupleGo_enum (s := { s with heap := h', toks := tk + 1 }) ho fun h2 he' sb => ?_⟩
    have hT2 : h2.get? s.heap.objs.size = some { cls := .type "tuple", data := .seq #[.int i tk, x] } := (sb.2 _ (Nat.ne_of_gt lte)).trans hT
    obtain ⟨u, hu, ru⟩ := rv.get hy
    have eu : x = u := by
      have hx' : its.toArray[i]? = some x := hx
      have : its.toArray[i]? = some u := by simpa using hu
      rw [hx'] at this
      exact Option.some.inj this
    subst eu
    have new : ObjOk X.prog X.w (upd H s.heap.objs.size (.tup [.int (i : Nat), y])) h2 s.heap.objs.size (.tup [.int (i : Nat), y]) :=
      ⟨by show 2 ≤ sizeLine; rw [sizeLine_eq]; decide, [.int i tk, x], .cons ⟨_, rfl⟩ (.cons ru .nil), ⟨_, hT2, rfl, _, rfl⟩⟩
    have I1 : Inv X pins σ (upd H s.heap.objs.size (.tup [.int (i : Nat), y])) { s with heap := h2, toks := tk + 1 } :=
      I.turnedNew (ch := [e, it]) (fun b ob hb q => (sb.2 b (fun z => hb (by simp [z]))).trans (hk b ob (fun z => hb (by simp [z])) (fun z => hb (by simp [z])) q)) hf (Nat.le_refl _) new
    refine ⟨.ref s.heap.objs.size, _, I1, rfl, ⟨_, y, rfl, I.hok.fresh (Nat.le_refl _), rfl, fun zs hy2 => by rw [I.tuple_inj hy2 hq]; exact hy⟩, ⟨⟨x, ?_⟩, hst.1.at fun o q => (sb.2 it (Ne.symm hne)).trans q, hne⟩, fun b hb => ?_⟩
    · have e1 : ((i + 1 : Nat) : Int) = (i : Int) + 1 := by omega
      rw [e1]
      exact he'
    · have lb : b < s.heap.objs.size := by
        rcases (show b = e ∨ b = it by simpa using hb) with z | z
        · rw [z]; exact lte
        · rw [z]; exact lti
      rw [upd_ne (Nat.ne_of_lt lb)]
      exact (hf b hb).1
  done := by
    intro X hP hw hK hc i pins s σ H E I hf st hg
    subst hP hw hK
    obtain ⟨⟨old, he⟩, hit, hne⟩ := st
    obtain ⟨ys, hq, hy⟩ := hg
    obtain ⟨its, rv, tp, hz⟩ := I.tuple hq
    obtain ⟨f0, f1, f2, f3, f4, f5⟩ := hf it (by simp)
    have ani : a ≠ it := fun z => by
      obtain ⟨o, g1, g2, _⟩ := tp
      obtain ⟨o', g3, g4, _⟩ := hit
      rw [z, g3] at g1
      cases g1
      rw [g4] at g2
      exact absurd g2 (by simp)
    have en : its.toArray.size = i := by rw [List.size_toArray, ← rv.length]; exact hy
    refine wpAny_pyNext_enum_endD (Draws.tuple (A := X.A.in1) (show X.A.handled = none from I.ok.hd hc) it a ani its.toArray) he (by rw [en]; exact ⟨hit, tp⟩) fun h' eb => ⟨rfl, I.turned (t' := s.toks) (fun b o hb q => eb b o hb q) f0 f1 f3 f4 f5⟩
  self := fun A i s Q E st h => by
    obtain ⟨⟨_, he⟩, _⟩ := st
    exact wpAny_pyIter_enum he h
def iEnumA (K : PySem.W.Frag) (te : TE) : TI := fun σ H R => te σ H fun v H1 => (∃ a ys, v = .ref a ∧ SqL K H1 a ys ∧ R (Ite K a) H1) ∨ (∃ a ys, v = .ref a ∧ SqT K H1 a ys ∧ R (IteT K a) H1)
theorem pi_enumA {X : Cx} {e : Expr} {te : TE} {p pos tpos : Pos} {elts : List Expr} {kk : Nat} (hg : Gl X "enumerate") (hm : X.mg "enumerate" = none) (he : PE X e te) (hs : starEach [e] X.env = (false, eval e X.env) :: starEach [] X.env := by rfl) :
    PI X (.Tuple elts kk tpos) (.Call (.Name "enumerate" p) [e] [] pos) (iEnumA X.K te) := by
  refine ⟨fun pins s σ H R I h => ?_⟩
  refine Call_ (ld_blt I hg hm boot_enumerate (PyProof.Rows.callWith_type1 (args_cons (thn (he.run pins s σ H _ I h) fun u s1 ⟨v, H1, I1, r1, q1⟩ => args_nil ?_) hs) hs))
  have new : ∀ b, (b = s1.heap.objs.size + 1 ∨ b = s1.heap.objs.size) → FpOk X pins H1 b := fun b e' => by
    have hle : s1.heap.objs.size ≤ b := by
      rcases e' with z | z
      · rw [z]; exact Nat.le_add_right _ _
      · rw [z]; exact Nat.le_refl _
    exact I1.fpOk hle (I1.hok.fresh hle)
  rcases q1 with ⟨a, ys, rfl, hq, q⟩ | ⟨a, ys, rfl, hq, q⟩
  · cases (show u = Value.ref a from r1)
    obtain ⟨its, rv, pl, hz⟩ := I1.list hq
    refine call_enumerate_list pl.isList fun h' ie hit hsz hk => wpAny_pyIter_enum ie ?_
    have I2 : Inv X pins σ H1 { s1 with heap := h' } := I1.kept (t' := s1.toks) hk
    exact ⟨s1.heap.objs.size + 1, [s1.heap.objs.size + 1, s1.heap.objs.size], _, _, H1, rfl, I2, turn_enum a (s1.heap.objs.size + 1) s1.heap.objs.size, ⟨⟨.none, ie⟩, hit, Nat.succ_ne_self _⟩, fun b hb => new b (by simpa using hb), q⟩
  · cases (show u = Value.ref a from r1)
    obtain ⟨its, rv, tp, hz⟩ := I1.tuple hq
    refine enum1_begins (begins_tuple a its.toArray) tp fun h' ie hit hsz hk => wpAny_pyIter_enum ie ?_
    have I2 : Inv X pins σ H1 { s1 with heap := h' } := I1.kept (t' := s1.toks) hk
    exact ⟨s1.heap.objs.size + 1, [s1.heap.objs.size + 1, s1.heap.objs.size], _, _, H1, rfl, I2, turn_enumT a (s1.heap.objs.size + 1) s1.heap.objs.size, ⟨⟨.none, ie⟩, ⟨_, hit, rfl, rfl⟩, Nat.succ_ne_self _⟩, fun b hb => new b (by simpa using hb), q⟩
/-! the rule -/
section
variable {ι : Type} {M : MI} {xr : Str → Option Value} {K : PySem.W.Frag} {X : ι → Cx} {W : WX} {N : List Str} {mg : Str → Option Value} {pos : Pos}
def enumD (ds : List D) : List D := (List.range ds.length).map fun (i : Nat) => D.tup [.int (i : Int), ds.getD i .non]
def iEnM (f : Sm M S) : Sm M (List D) := fun z => (escf f z).bind fun s z1 => match s with
  | .d (.lst ds) => .ok (enumD ds) z1
  | .d (.tup ds) => .ok (enumD ds) z1
  | _ => .bad
theorem enumD_len (ds : List D) : (enumD ds).length = ds.length := by unfold enumD; simp
theorem enumD_at {ds : List D} {i : Nat} {d : D} (h : ds[i]? = some d) : (enumD ds)[i]? = some (.tup [.int (i : Int), d]) := by
  have hi : i < ds.length := (List.getElem?_eq_some_iff.mp h).1
  unfold enumD
  rw [List.getElem?_map, List.getElem?_range hi, Option.map_some, List.getD_eq_getElem?_getD, h]
  rfl
theorem yd_pair {F H H' : Hp} {vs : List V} {ds : List D} {i : Nat} {v y : V} {T : Addr} (r : DaAll K F vs ds) (hi : vs[i]? = some y) (e1 : v = .ref T) (e2 : H T = none) (e3 : H' = upd H T (.tup [.int (i : Nat), y])) : YD K F (enumD ds) i H v H' := by
  subst e1 e3
  obtain ⟨d, hd, da⟩ := r.getV hi
  refine ⟨_, enumD_at hd, fun F1 s1 s2 => ⟨upd F1 T (.tup [.int (i : Nat), y]), same_upd (s2.free e2), same_upd2 s2, fun b o e => ?_, .tup (SqT.of upd_same) (.cons (.int _) (.cons ((da.mono s1).mono (same_upd (s2.free e2))) .nil))⟩⟩
  have nb := ne_of_none e e2
  exact ⟨by rw [upd_ne nb]; exact e, upd_ne nb⟩
theorem walk_enumT {a : Addr} {ys : List V} : Walk (IteT K a) ys.length (fun H => SqT K H a ys) (YPair (fun i => some (.int (i : Nat))) (fun i => ys[i]?)) := by
  refine ⟨fun i _ hi q => ⟨ys, ys[i], q, by simp [hi]⟩, fun _ q => ⟨ys, q, rfl⟩, fun i H v H' _ q y => ?_⟩
  obtain ⟨T, x, h1, h2, h3, h4⟩ := y
  exact ⟨T, .int (i : Nat), x, h1, h2, h3, rfl, h4 ys q⟩
theorem di_enum {elts : List Expr} {kk : Nat} {tpos pp : Pos} {e : Expr} {g : Sm M S} (p : Pl K X N mg) (hm : mg "enumerate" = none) (h : DE M xr K X W e g) (hg : ∀ j, Gl (X j) "enumerate" := by intro _; rfl) (hs : ∀ j, starEach [e] (X j).env = (false, eval e (X j).env) :: starEach [] (X j).env := by intro _; rfl) :
    DI M xr K X W (.Tuple elts kk tpos) (.Call (.Name "enumerate" pp) [e] [] pos) (iEnM g) := by
  obtain ⟨t, pe, c⟩ := h
  refine ⟨iEnumA K t, fun j => by rw [← p.k j]; exact pi_enumA (hg j) (by rw [p.g j]; exact hm) (pe j) (hs j), fun G σ H F z Q hK hx ok hh => ?_⟩
  refine cmp_esc c G σ H F z _ hK hx ok (hit_bind hh fun s z1 v H1 F1 _ sm ok1 ev h1 => ?_)
  subst hK
  clear hh
  match s, ev, h1 with
  | .d (.lst ds), ev, h1 =>
    have ev' : Da G.K F1 v (.lst ds) := ev
    clear ev
    cases ev' with
    | lst q r =>
      rename_i a vs
      refine .inl ⟨a, vs, rfl, SqL.of (ok1.sub _ _ q), h1 _ H1 F1 (Same.refl _) ok1 ?_⟩
      have wk := (walk_enum (K := G.K) (a := a) (xs := vs)).mono (G' := fun H => Same F1 H) (Y' := YD G.K F1 (enumD ds)) (fun H s => SqL.of (s _ _ q)) (fun i H x H' hi _ ⟨T, x1, y1, e1, e2, e3, e4, e5⟩ => by
        cases e4
        exact yd_pair r e5 e1 e2 e3)
      rw [r.length, ← enumD_len ds] at wk
      exact wk
  | .d (.tup ds), ev, h1 =>
    have ev' : Da G.K F1 v (.tup ds) := ev
    clear ev
    cases ev' with
    | tup q r =>
      rename_i a vs
      refine .inr ⟨a, vs, rfl, sqT_mono ok1.sub q, h1 _ H1 F1 (Same.refl _) ok1 ?_⟩
      have wk := (walk_enumT (K := G.K) (a := a) (ys := vs)).mono (G' := fun H => Same F1 H) (Y' := YD G.K F1 (enumD ds)) (fun H s => sqT_mono s q) (fun i H x H' hi _ ⟨T, x1, y1, e1, e2, e3, e4, e5⟩ => by
        cases e4
        exact yd_pair r e5 e1 e2 e3)
      rw [r.length, ← enumD_len ds] at wk
      exact wk
  | .d .non, _, h1 => exact h1.elim
  | .d (.bl _), _, h1 => exact h1.elim
  | .d (.int _), _, h1 => exact h1.elim
  | .d (.str _), _, h1 => exact h1.elim
  | .d (.scr _), _, h1 => exact h1.elim
  | .d .emp, _, h1 => exact h1.elim
  | .d (.exc _ _), _, h1 => exact h1.elim
  | .l _, _, h1 => exact h1.elim
  | .v _, _, h1 => exact h1.elim
  | .m _, _, h1 => exact h1.elim
end
end G
/-! t[::-1] -/
namespace G
open PySem L2 PySem.Spec PyProof.Rows HT
section
variable {prog : Program} {w : World} {A : Around} {E : Value → Shared → Prop} {s : Shared}
theorem places_rev (n : Nat) : Builtin.Slice.slicePlaces ((n : Int) - 1) (-1) (-1) = n := by
  unfold Builtin.Slice.slicePlaces
  have h1 : ¬ ((-1 : Int) > 0) := by decide
  simp only [h1, if_false]
  split
  · have e : (- (-1 : Int)) = 1 := by decide
    rw [e, Int.ediv_one]
    omega
  · omega
theorem applied_rev {sl : Addr} {vs : Value} {n : Nat} {Q : Int × Int × Nat → Shared → Prop} (hs : s.heap.IsSliceOf sl .none .none vs) (ps : IsPart vs (some (-1))) (h : Q ((n : Int) - 1, -1, n) s) :
    wpAny (model prog w) A (Builtin.Slice.sliceApplied (.ref sl) (pure (n : Int))) Q E s := by
  obtain ⟨ob, hob, hcb, hdb⟩ := id hs
  unfold Builtin.Slice.sliceApplied Builtin.Slice.sliceFields
  refine wpAny_bind (wpAny_bind (wpAny_field hob hdb (x := .none) rfl (wpAny_bind (wpAny_field hob hdb (x := .none) rfl (wpAny_bind (wpAny_field hob hdb (x := vs) rfl (wpAny_pure ?_)))))))
  refine wpAny_bind (slicePart_ ps ?_)
  show wpAny _ _ (if ((-1 : Int) == 0) = true then _ else _) _ _ s
  rw [if_neg (by decide)]
  refine wpAny_bind (slicePart_none (wpAny_bind (slicePart_none (wpAny_bind (wpAny_pure ?_)))))
  show wpAny _ _ (pure ((n : Int) - 1, (-1 : Int), Builtin.Slice.slicePlaces ((n : Int) - 1) (-1) (-1))) _ _ s
  rw [places_rev]
  exact wpAny_pure h
theorem fm_congr {α β : Type} {f g : α → Option β} : ∀ {l : List α}, (∀ x ∈ l, f x = g x) → l.filterMap f = l.filterMap g
  | [], _ => rfl
  | x :: r, h => by
    rw [List.filterMap_cons, List.filterMap_cons, h x List.mem_cons_self, fm_congr fun y hy => h y (List.mem_cons_of_mem _ hy)]
theorem pick_rev (xs : Array Value) : ((List.range xs.size).filterMap fun (m : Nat) => xs[((xs.size : Int) - 1 + (m : Int) * (-1)).toNat]?).toArray = xs.toList.reverse.toArray := by
  have e : (List.range xs.size).filterMap (fun (m : Nat) => xs[((xs.size : Int) - 1 + (m : Int) * (-1)).toNat]?) = (List.range xs.size).filterMap fun m => xs[xs.size - 1 - m]? := by
    refine fm_congr fun m hm => ?_
    have : m < xs.size := List.mem_range.mp hm
    have e : ((xs.size : Int) - 1 + (m : Int) * (-1)).toNat = xs.size - 1 - m := by omega
    rw [e]
  have e2 : (List.range xs.size).filterMap (fun m => xs[xs.size - 1 - m]?) = ((List.range xs.size).map fun k => xs.size - 1 - k).filterMap (xs[·]?) := by rw [List.filterMap_map]; rfl
  rw [e, e2, PySem.W.krv_range, List.filterMap_reverse, PySem.W.krv_all]
theorem getItem_rev {t sl : Addr} {items : Array Value} {vs : Value} {Q : Value → Shared → Prop} (ht : IsTup s.heap t items) (hs : s.heap.IsSliceOf sl .none .none vs) (ps : IsPart vs (some (-1)))
    (h : Q (.ref s.heap.objs.size) { s with heap := s.heap.push { cls := .type "tuple", data := .seq items.toList.reverse.toArray } }) (hsz : items.size ≤ sizeLine) : wpAny (model prog w) A (getItem (.ref t) (.ref sl)) Q E s := by
  have fits : sizeOk (.seq items.toList.reverse.toArray) := by
    show items.toList.reverse.toArray.size ≤ sizeLine
    rw [List.size_toArray, List.length_reverse, Array.length_toList]
    exact hsz
  obtain ⟨ob, hob, hcb, hdb⟩ := id hs
  have tyS : s.TypeIs (.ref sl) "slice" := ⟨ob, hob, hcb⟩
  unfold getItem
  try with_reducible refine wpAny_holding ?_
  first | refine wpAny_bind (wpAny_pure ?_) | skip
  refine wpAny_bind (wpAny_sequenceKey ht.typeIs (by decide) ?_)
  refine wpAny_bind (wpAny_callSpecial?_slot (name := Str.ofString "__getitem__") ht.typeIs PyProof.Rows.slot_tuple_getitem (wpAny_call_entry PyProof.Rows.slot_tuple_getitem ht.typeIs entry_tuple_getitem ?_ (args_tuple_getitem _ _)))
  show wpAny _ _ (Builtin.Tuple.tupleItemsOf (.ref t) >>= _) _ _ s
  refine wpAny_bind (tupleItemsOf_ ht ?_)
  refine wpAny_bind (wpAny_typeOf tyS ?_)
  rw [if_pos (by decide)]
  refine wpAny_bind (applied_rev hs ps ?_)
  have no : ¬ ((((items.size : Int) - 1) == 0 && (-1 : Int) == 1 && items.size == items.size) = true) := by simp
  show wpAny _ _ (if (((items.size : Int) - 1) == 0 && (-1 : Int) == 1 && items.size == items.size) = true then _ else _) _ _ s
  rw [if_neg no, pick_rev]
  first
    | exact wpAny_bind (m := Builtin.Tuple.tupleExact _) (wpAny_newObj_type (wpAny_pure ⟨_, rfl, wpAny_pure h⟩) fits)
    | exact wpAny_bind (m := Builtin.Tuple.tupleExact _) (wpAny_newObj_type (wpAny_bind (wpAny_pure (wpAny_pure ⟨_, rfl, wpAny_pure h⟩))) fits)
    | exact wpAny_bind (wpAny_bind (m := Builtin.Tuple.tupleExact _) (wpAny_newObj_type (wpAny_pure (wpAny_pure ⟨_, rfl, wpAny_pure h⟩)) fits))
    | exact wpAny_bind (wpAny_bind (m := Builtin.Tuple.tupleExact _) (wpAny_newObj_type (wpAny_pure ⟨_, rfl, wpAny_pure h⟩) fits))
end
def tRevA (K : PySem.W.Frag) (te : TE) : TE := fun σ H Q => te σ H fun x H1 => (∃ a ys, x = .ref a ∧ SqL K H1 a ys ∧ ∀ q, H1 q = none → Q (.ref q) (upd H1 q (.lst ys.reverse))) ∨ (∃ a ys, x = .ref a ∧ SqT K H1 a ys ∧ ∀ q, H1 q = none → Q (.ref q) (upd H1 q (.tup ys.reverse)))
theorem pe_revA {X : Cx} {e : Expr} {te : TE} {k : Nat} {p1 p2 p3 pos : Pos} (he : PE X e te) : PE X (.Subscript e (.Slice none none (some (.UnaryOp .USub (.Constant (.int 1) k p1) p2)) p3) pos) (tRevA X.K te) := by
  refine ⟨fun pins s σ H Q I h => ?_⟩
  refine Subscript_ (thn (he.run pins s σ H _ I h) fun v s1 ⟨x, H1, I1, r1, q1⟩ => ?_)
  have hst : PO X (some (.UnaryOp .USub (.Constant (.int 1) k p1) p2)) (tPart (tUn (rU fun i => .int (-i)) (tC (.int 1)))) := po_some (pe_un un_neg pe_int)
  refine wpAny_Slice (thn (po_none.run pins s1 σ H1 (fun o H2 => o = none ∧ H2 = H1) I1 ⟨rfl, rfl⟩) fun vl s2 ⟨l, H2, I2, pl, el, e2⟩ => ?_)
  subst el e2
  refine thn (po_none.run pins s2 σ H2 (fun o H3 => o = none ∧ H3 = H2) I2 ⟨rfl, rfl⟩) fun vu s3 ⟨u, H3, I3, pu, eu, e3⟩ => ?_
  subst eu e3
  refine thn (hst.run pins s3 σ H3 (fun o H4 => o = some (-1) ∧ H4 = H3) I3 ⟨1, rfl, -1, rfl, rfl, rfl⟩) fun vs s4 ⟨o, H4, I4, ps, eo, e4⟩ => ?_
  subst eo e4
  have I5 : Inv X pins σ H4 { s4 with heap := s4.heap.push { cls := .type "slice", data := .fields #[vl, vu, vs] } } := I4.kept (t' := s4.toks) fun b ob q => Heap.get?_push_of_some _ q
  rcases q1 with ⟨a, ys, ex, hx, q⟩ | ⟨a, ys, ex, hx, q⟩
  · subst ex
    cases r1
    obtain ⟨its, r, ht, hz⟩ := I5.list hx
    have hlen := r.length
    show wpAny (model X.prog X.w) X.A (subscriptTail e (.Slice none none (some (.UnaryOp .USub (.Constant (.int 1) k p1) p2)) p3) (.ref a) (.ref s4.heap.objs.size)) (EP X pins σ Q) X.xe _
    refine tail_any (ops := [.ref a, .ref s4.heap.objs.size]) ht.isList.typeIs (PySem.slot_list_getitem.lookup) ?_ (by with_unfolding_all rfl)
    refine wpAny_getItem_list_slice ht.isList (Heap.IsSliceOf.new _ vl vu vs) pl pu ps (by decide) ?_ (by rw [List.size_toArray]; omega)
    rw [PySem.W.krv_pick]
    exact ⟨.ref _, _, I5.laid (t' := s4.toks) (o := .lst ys.reverse) (fun b ob q => Heap.get?_push_of_some _ q) (Nat.le_refl _) ⟨by rw [List.length_reverse]; exact hz, _, 0, r.reverse, Heap.get?_push_size _ rfl⟩, rfl, q _ (I5.hok.fresh (Nat.le_refl _))⟩
  · subst ex
    cases r1
    obtain ⟨its, r, ht, hz⟩ := I5.tuple hx
    have hlen := r.length
    cases pl
    cases pu
    show wpAny (model X.prog X.w) X.A (subscriptTail e (.Slice none none (some (.UnaryOp .USub (.Constant (.int 1) k p1) p2)) p3) (.ref a) (.ref s4.heap.objs.size)) (EP X pins σ Q) X.xe _
    refine tail_any (ops := [.ref a, .ref s4.heap.objs.size]) ht.typeIs (PyProof.Rows.slot_tuple_getitem.lookup) ?_ (by with_unfolding_all rfl)
    refine getItem_rev ht (Heap.IsSliceOf.new _ .none .none vs) ps ?_ (by rw [List.size_toArray]; omega)
    exact ⟨.ref _, _, I5.laid (t' := s4.toks) (o := .tup ys.reverse) (fun b ob q => Heap.get?_push_of_some _ q) (Nat.le_refl _) ⟨by rw [List.length_reverse]; exact hz, _, r.reverse, IsTup.new _ _⟩, rfl, q _ (I5.hok.fresh (Nat.le_refl _))⟩
def dRev : D → Option R := fun d => match d with
  | .tup xs => some (.t xs.reverse)
  | .lst xs => some (.l xs.reverse)
  | _ => none
section
variable {ι : Type} {M : MI} {xr : Str → Option Value} {K : PySem.W.Frag} {X : ι → Cx} {W : WX} {N : List Str} {mg : Str → Option Value} {pos : Pos}
theorem de_rev {e : Expr} {g : Sm M S} {k : Nat} {p1 p2 p3 pos : Pos} (p : Pl K X N mg) (h : DE M xr K X W e g) : DE M xr K X W (.Subscript e (.Slice none none (some (.UnaryOp .USub (.Constant (.int 1) k p1) p2)) p3) pos) (eUn dRev g) := by
  obtain ⟨t, pe, c⟩ := h
  refine ⟨tRevA K t, fun j => by rw [← p.k j]; exact pe_revA (pe j), fun G σ H F z Q hK hx ok hh => ?_⟩
  refine cmp_opd c G σ H F z _ hK hx ok (hit_bind hh fun s z1 v H1 F1 _ sm1 ok1 e1 h1 => ?_)
  have q := fin_hit ok1 h1
  cases er : rd z1 s with
  | none => rw [er] at q; exact q.elim
  | some x =>
    rw [er] at q
    have q' : Hit0 G.K F1 H1 (dRev x) Q := q
    have rv := EO.rv ok1 e1 er
    subst hK
    unfold dRev at q'
    split at q'
    · obtain ⟨a, vs, rfl, a1, a2⟩ := rv.tup ok1.sub
      exact .inr ⟨a, vs, rfl, a1, fun p hp => q'.2 p _ hp a2.reverse⟩
    · obtain ⟨a, vs, rfl, a1, a2⟩ := rv.lst ok1.sub
      exact .inl ⟨a, vs, rfl, SqL.of a1, fun p hp => q' p _ hp a2.reverse⟩
    · exact q'.elim
end
end G
namespace G
open PySem L2
def dBand := dI (fun _ _ => true) fun i j => .int (Builtin.bitAnd i j)
section
variable {ι : Type} {M : MI} {xr : Str → Option Value} {K : PySem.W.Frag} {X : ι → Cx} {W : WX} {a b : Expr} {f f' : Sm M S} {pos : Pos}
theorem de_band (ha : DE M xr K X W a f) (hb : DE M xr K X W b f') : DE M xr K X W (.BinOp a .BitAnd b pos) (eBin dBand f f') := de_bin (fun j => op_and) (op2_I0 fun _ _ _ => .int _) ha hb
end
/-- a table of one class -/
def tb1 (c : Str) (b : Bool) : Str → Option Bool := fun s => if s = c then some b else none
theorem tb1_ok {c : Str} {b : Bool} {P : Str → Bool → Prop} (h : P c b) : ∀ s b', tb1 c b s = some b' → P s b' := fun s b' e => by
  unfold tb1 at e
  split at e
  · rename_i hs
    cases e
    subst hs
    exact h
  · cases e
theorem vals_refs : ∀ {as : List Addr} {ws : List Value}, Vals (as.map V.ref) ws → ws = as.map Value.ref
  | [], _, .nil => rfl
  | a :: r, _, .cons h t => by
    cases (show _ = Value.ref a from h)
    rw [vals_refs t]
    rfl
end G
namespace G
open PySem L2
theorem kit_own {K : PySem.W.Frag} {C E : Addr} {b : Bool} (hd : PySem.W.hasDictIn K E = true) (ty : PySem.W.typeIn K (.ref E) = some (.type "type")) (s : PySem.W.subIn K (.ref C) (.ref E) = some b) (ne : (Value.ref C == Value.ref E) = false) : PySem.W.kitOne K (.ref C) (.ref E) = some b := by
  obtain ⟨cd, hc, _⟩ := PySem.W.any_some hd
  unfold PySem.W.kitOne
  rw [ne, if_neg Bool.false_ne_true]
  show (if ((PySem.W.clsIn K E).isSome && PySem.W.typeIn K (.ref E) == some (.type "type")) = true then PySem.W.subIn K (.ref C) (.ref E) else none) = some b
  rw [if_pos (by rw [hc, ty]; rfl)]
  exact s
theorem kit_self {K : PySem.W.Frag} {C : Addr} : PySem.W.kitOne K (.ref C) (.ref C) = some true := by
  unfold PySem.W.kitOne
  rw [if_pos (beq_self_eq_true _)]
theorem kit_blt {K : PySem.W.Frag} {C : Addr} {T : String} {b : Bool} (m : PySem.W.kitMeta T = true) (s : PySem.W.subIn K (.ref C) (.type T) = some b) : PySem.W.kitOne K (.ref C) (.type T) = some b := by
  unfold PySem.W.kitOne
  have ne : (Value.ref C == Value.type T) = false := rfl
  rw [ne, if_neg Bool.false_ne_true]
  show (if PySem.W.kitMeta T = true then PySem.W.subIn K (.ref C) (.type T) else none) = some b
  rw [if_pos m]
  exact s
theorem any_nil {K : PySem.W.Frag} {t : Value} : PySem.W.kitAny K t [] = some false := rfl
theorem any_no {K : PySem.W.Frag} {t c : Value} {cs : List Value} {r : Bool} (h : PySem.W.kitOne K t c = some false) (hr : PySem.W.kitAny K t cs = some r) : PySem.W.kitAny K t (c :: cs) = some r := kitAny_cons h (fun _ => hr) (fun z => by cases z)
theorem any_yes {K : PySem.W.Frag} {t c : Value} {cs : List Value} (h : PySem.W.kitOne K t c = some true) : PySem.W.kitAny K t (c :: cs) = some true := kitAny_cons h (fun z => by cases z) (fun _ => rfl)
end G
namespace G
open PySem L2
theorem ofString_inj (a b : String) : (Str.ofString a = Str.ofString b) = (a = b) := by
  refine propext ⟨fun h => ?_, fun h => by rw [h]⟩
  have e : ∀ s : String, (Str.ofString s).cps.toList = s.toList.map Char.toNat := fun s => by
    show (cpsOfBytes 0 0 s.toByteArray.data.toList).toArray.toList = _
    rw [List.toList_toArray, cpsOfBytes_string]
  have h1 := e a
  rw [h, e b] at h1
  have inj : ∀ {l m : List Char}, l.map Char.toNat = m.map Char.toNat → l = m := fun {l} => by
    induction l with
    | nil => intro m h; cases m with
      | nil => rfl
      | cons _ _ => cases h
    | cons c r ih => intro m h; cases m with
      | nil => cases h
      | cons d s =>
        rw [List.map_cons, List.map_cons] at h
        injection h with h1 h2
        rw [ih h2, Char.toNat_inj.mp h1]
  exact String.toList_inj.mp (inj h1).symm
theorem ofString_beq (a b : String) : (Str.ofString a == Str.ofString b) = (a == b) := by
  rw [Bool.eq_iff_iff, beq_iff_eq, beq_iff_eq, ofString_inj]
theorem ofString_dec (a b : String) : decide (Str.ofString a = Str.ofString b) = decide (a = b) := by
  rw [decide_eq_decide, ofString_inj]
end G
namespace G
open PySem L2
/-! ### terms and statements -/
inductive Th where
  | var (k : Int)
  | call (f : Str) (as : List Th)
  | rel (r : Str) (as : List Th)
  | same (a b : Th)
  | no
  | and (a b : Th)
  | or (a b : Th)
  | imp (a b : Th)
  | all (s : Str) (a : Th)
  | some (s : Str) (a : Th)
mutual
def enc : Th → D
  | .var k => .tup [.str "var", .int k]
  | .call f as => .tup [.str "call", .str f, .tup (encs as)]
  | .rel f as => .tup [.str "rel", .str f, .tup (encs as)]
  | .same a b => .tup [.str "same", enc a, enc b]
  | .no => .tup [.str "no"]
  | .and a b => .tup [.str "and", enc a, enc b]
  | .or a b => .tup [.str "or", enc a, enc b]
  | .imp a b => .tup [.str "if", enc a, enc b]
  | .all s a => .tup [.str "all", .str s, enc a]
  | .some s a => .tup [.str "some", .str s, enc a]
def encs : List Th → List D
  | [] => []
  | t :: r => enc t :: encs r
end
def kids : Th → List Th
  | .var _ => []
  | .call _ as => as
  | .rel _ as => as
  | .same a b => [a, b]
  | .no => []
  | .and a b => [a, b]
  | .or a b => [a, b]
  | .imp a b => [a, b]
  | .all _ a => [a]
  | .some _ a => [a]
mutual
def size : Th → Nat
  | .var _ => 1
  | .call _ as => 1 + sizes as
  | .rel _ as => 1 + sizes as
  | .same a b => 1 + (size a + size b)
  | .no => 1
  | .and a b => 1 + (size a + size b)
  | .or a b => 1 + (size a + size b)
  | .imp a b => 1 + (size a + size b)
  | .all _ a => 1 + size a
  | .some _ a => 1 + size a
def sizes : List Th → Nat
  | [] => 0
  | t :: r => size t + sizes r
end
mutual
def depth : Th → Nat
  | .var _ => 1
  | .call _ as => 1 + depths as
  | .rel _ as => 1 + depths as
  | .same a b => 1 + max (depth a) (depth b)
  | .no => 1
  | .and a b => 1 + max (depth a) (depth b)
  | .or a b => 1 + max (depth a) (depth b)
  | .imp a b => 1 + max (depth a) (depth b)
  | .all _ a => 1 + depth a
  | .some _ a => 1 + depth a
def depths : List Th → Nat
  | [] => 0
  | t :: r => max (depth t) (depths r)
end
theorem encs_map : ∀ ts : List Th, encs ts = ts.map enc
  | [] => by rw [encs]; rfl
  | t :: r => by rw [encs, encs_map r]; rfl
theorem size_kids (t : Th) : size t = 1 + sizes (kids t) := by
  cases t <;> simp [size, kids, sizes]
theorem depth_kids (t : Th) : depth t = 1 + depths (kids t) := by
  cases t <;> simp [depth, kids, depths]
theorem sizes_append : ∀ xs ys : List Th, sizes (xs ++ ys) = sizes xs + sizes ys
  | [], ys => by simp [sizes]
  | x :: r, ys => by simp only [List.cons_append, sizes, sizes_append r ys]; omega
end G
namespace G
open PySem L2
/-! ### names that are texts, sizes -/
mutual
def nms : Th → Bool
  | .var _ => true
  | .call f as => PyData.strOk f && nmss as
  | .rel f as => PyData.strOk f && nmss as
  | .same a b => nms a && nms b
  | .no => true
  | .and a b => nms a && nms b
  | .or a b => nms a && nms b
  | .imp a b => nms a && nms b
  | .all s a => PyData.strOk s && nms a
  | .some s a => PyData.strOk s && nms a
def nmss : List Th → Bool
  | [] => true
  | t :: r => nms t && nmss r
end
theorem sk_var : PyData.strOk (Str.ofString "var") = true := by decide +kernel
theorem sk_call : PyData.strOk (Str.ofString "call") = true := by decide +kernel
theorem sk_rel : PyData.strOk (Str.ofString "rel") = true := by decide +kernel
theorem sk_same : PyData.strOk (Str.ofString "same") = true := by decide +kernel
theorem sk_no : PyData.strOk (Str.ofString "no") = true := by decide +kernel
theorem sk_and : PyData.strOk (Str.ofString "and") = true := by decide +kernel
theorem sk_or : PyData.strOk (Str.ofString "or") = true := by decide +kernel
theorem sk_if : PyData.strOk (Str.ofString "if") = true := by decide +kernel
theorem sk_all : PyData.strOk (Str.ofString "all") = true := by decide +kernel
theorem sk_some : PyData.strOk (Str.ofString "some") = true := by decide +kernel
mutual
theorem lay_enc : ∀ t : Th, lay (enc t) = nms t
  | .var _ => by simp [enc, lay, lays, nms, sk_var]
  | .call f as => by simp [enc, lay, lays, nms, sk_call, lays_encs as]
  | .rel f as => by simp [enc, lay, lays, nms, sk_rel, lays_encs as]
  | .same a b => by simp [enc, lay, lays, nms, sk_same, lay_enc a, lay_enc b]
  | .no => by simp [enc, lay, lays, nms, sk_no]
  | .and a b => by simp [enc, lay, lays, nms, sk_and, lay_enc a, lay_enc b]
  | .or a b => by simp [enc, lay, lays, nms, sk_or, lay_enc a, lay_enc b]
  | .imp a b => by simp [enc, lay, lays, nms, sk_if, lay_enc a, lay_enc b]
  | .all s a => by simp [enc, lay, lays, nms, sk_all, lay_enc a]
  | .some s a => by simp [enc, lay, lays, nms, sk_some, lay_enc a]
theorem lays_encs : ∀ ts : List Th, lays (encs ts) = nmss ts
  | [] => by simp [encs, lays, nmss]
  | t :: r => by simp [encs, lays, nmss, lay_enc t, lays_encs r]
end
theorem nms_kids {t : Th} (h : nms t = true) : nmss (kids t) = true := by
  cases t <;> simp_all [nms, kids, nmss]
theorem nmss_append : ∀ xs ys : List Th, nmss (xs ++ ys) = (nmss xs && nmss ys)
  | [], ys => by simp [nmss]
  | x :: r, ys => by simp [nmss, nmss_append r ys, Bool.and_assoc]
theorem lays_append : ∀ xs ys : List D, lays (xs ++ ys) = (lays xs && lays ys)
  | [], ys => by simp [lays]
  | x :: r, ys => by simp [lays, lays_append r ys, Bool.and_assoc]
theorem encs_append : ∀ xs ys : List Th, encs (xs ++ ys) = encs xs ++ encs ys
  | [], ys => by simp [encs]
  | x :: r, ys => by simp [encs, encs_append r ys]
theorem encs_length : ∀ xs : List Th, (encs xs).length = xs.length
  | [] => by simp [encs]
  | x :: r => by simp [encs, encs_length r]
theorem sizes_len : ∀ ts : List Th, ts.length ≤ sizes ts
  | [] => by simp [sizes]
  | t :: r => by
    have h := sizes_len r
    have h2 := size_kids t
    simp only [List.length_cons, sizes]
    omega
theorem eqD_nil (xs : List D) : eqD (.lst xs) (.lst []) = xs.isEmpty := by
  cases xs with
  | nil => simp [eqD, toPy, toPys, PyData.eqv, PyData.eqvAll]
  | cons _ _ => simp [eqD, toPy, toPys, PyData.eqv, PyData.eqvAll]
theorem ne_nil {xs : List D} (h : lays xs = true) : dNe (.lst xs) (.lst []) = some (.d (.bl (!xs.isEmpty))) := by
  unfold dNe eqOk
  simp only [lay, h, lays, dep, deps, Bool.true_and, Nat.zero_add]
  rw [if_pos (decide_eq_true (by omega)), eqD_nil]
theorem eq_nil {xs : List D} (h : lays xs = true) : dEq (.lst xs) (.lst []) = some (.d (.bl xs.isEmpty)) := by
  unfold dEq eqOk
  simp only [lay, h, lays, dep, deps, Bool.true_and, Nat.zero_add]
  rw [if_pos (decide_eq_true (by omega)), eqD_nil]
/-! ### comprehensions that map -/
theorem lc_map {M : MI} {i : Nat} {e : Sm M S} {g : D → D} {z : Z M.T} (hz : wipeZ z [i] = z) : ∀ (ds acc : List D), acc.length + ds.length ≤ lim →
    (∀ d ∈ ds, ∃ z1, escf e { z with rho := z.rho.set i (some (.d d)) } = .ok (.d (g d)) z1 ∧ wipeZ z1 [i] = z) → lcL (kName i) (fun z => .ok true z) e [i] ds acc z = .ok (acc ++ ds.map g) z
  | [], acc, _, _ => by simp [lcL]
  | d :: r, acc, hl, h => by
    obtain ⟨z1, h1, h2⟩ := h d List.mem_cons_self
    rw [List.length_cons] at hl
    unfold lcL
    simp only [kName, nox, Rs.bind_ok, if_true, h1]
    rw [if_pos (by omega), h2, lc_map hz r (acc ++ [g d]) (by rw [List.length_append, List.length_singleton]; omega) (fun d hd => h d (List.mem_cons_of_mem _ hd))]
    simp
/-! ### draws -/
theorem next_le {t : Mach} {many : Int} (h : 0 < many) : 0 ≤ (nextM t many).1 ∧ (nextM t many).1 < many ∧ (nextM t many).2.at_ = t.at_ + 1 := by
  unfold nextM
  split
  · exact ⟨Int.emod_nonneg _ (by omega), Int.emod_lt_of_pos _ h, rfl⟩
  · exact ⟨Int.emod_nonneg _ (by omega), Int.emod_lt_of_pos _ h, rfl⟩
theorem next_ok {t : Mach} {many : Int} (h : 0 < many) (h2 : many < 1073741824) (h3 : t.at_ < drawLim) : ∃ (r : Int) (t' : Mach), nextS [.m 0, .d (.int many)] t = .ok (.d (.int r)) t' ∧ 0 ≤ r ∧ r < many ∧ t'.at_ = t.at_ + 1 := by
  obtain ⟨q1, q2, q3⟩ := next_le (t := t) h
  exact ⟨_, _, if_pos ⟨h, h2, h3⟩, q1, q2, q3⟩
theorem sum_map_cast : ∀ ts : List Th, (ts.map fun t => ((size t : Nat) : Int)).sum = ((sizes ts : Nat) : Int)
  | [] => by simp [sizes]
  | t :: r => by simp only [List.map_cons, List.sum_cons, sum_map_cast r, sizes]; omega
end G
namespace G
theorem lm0 : (0 ≤ lim) = True := eq_true (by decide)
theorem lm1 : (0 + 1 ≤ lim) = True := eq_true (by decide)
theorem lm2 : (0 + 1 + 1 ≤ lim) = True := eq_true (by decide)
theorem lm3 : (0 + 1 + 1 + 1 ≤ lim) = True := eq_true (by decide)
theorem lm4 : (0 + 1 + 1 + 1 + 1 ≤ lim) = True := eq_true (by decide)
theorem lm5 : (0 + 1 + 1 + 1 + 1 + 1 ≤ lim) = True := eq_true (by decide)
theorem lm6 : (0 + 1 + 1 + 1 + 1 + 1 + 1 ≤ lim) = True := eq_true (by decide)
theorem lm7 : (0 + 1 + 1 + 1 + 1 + 1 + 1 + 1 ≤ lim) = True := eq_true (by decide)
theorem lm8 : (0 + 1 + 1 + 1 + 1 + 1 + 1 + 1 + 1 ≤ lim) = True := eq_true (by decide)
theorem lm9 : (0 + 1 + 1 + 1 + 1 + 1 + 1 + 1 + 1 + 1 ≤ lim) = True := eq_true (by decide)
theorem lm10 : (0 + 1 + 1 + 1 + 1 + 1 + 1 + 1 + 1 + 1 + 1 ≤ lim) = True := eq_true (by decide)
theorem lm11 : (0 + 1 + 1 + 1 + 1 + 1 + 1 + 1 + 1 + 1 + 1 + 1 ≤ lim) = True := eq_true (by decide)
theorem lm12 : (0 + 1 + 1 + 1 + 1 + 1 + 1 + 1 + 1 + 1 + 1 + 1 + 1 ≤ lim) = True := eq_true (by decide)
end G
namespace G
open PySem L2
theorem lc_mapE {M : MI} {i : Nat} {e : Sm M S} {α : Type} (en : α → D) {g : α → D} {z : Z M.T} (hz : wipeZ z [i] = z) : ∀ (ts : List α) (acc : List D), acc.length + ts.length ≤ lim →
    (∀ t ∈ ts, ∃ z1, escf e { z with rho := z.rho.set i (some (.d (en t))) } = .ok (.d (g t)) z1 ∧ wipeZ z1 [i] = z) → lcL (kName i) (fun z => .ok true z) e [i] (ts.map en) acc z = .ok (acc ++ ts.map g) z
  | [], acc, _, _ => by simp [lcL]
  | d :: r, acc, hl, h => by
    obtain ⟨z1, h1, h2⟩ := h d List.mem_cons_self
    rw [List.length_cons] at hl
    rw [List.map_cons]
    unfold lcL
    simp only [kName, nox, Rs.bind_ok, if_true, h1]
    rw [if_pos (by omega), h2, lc_mapE en hz r (acc ++ [g d]) (by rw [List.length_append, List.length_singleton]; omega) (fun d hd => h d (List.mem_cons_of_mem _ hd))]
    simp
theorem intsOf_map {α : Type} (f : α → Int) : ∀ ts : List α, intsOf (ts.map fun t => D.int (f t)) = some (ts.map f)
  | [] => rfl
  | t :: r => by rw [List.map_cons, intsOf, intsOf_map f r]; rfl
theorem maxL_depths : ∀ ts : List Th, maxL (0 :: ts.map fun t => ((depth t : Nat) : Int)) = ((depths ts : Nat) : Int)
  | [] => by simp [maxL, depths]
  | t :: r => by
    have h := maxL_is (ns := 0 :: (t :: r).map fun t => ((depth t : Nat) : Int)) (by intro e; cases e)
    have up : ∀ ts : List Th, ∀ y ∈ (ts.map fun t => ((depth t : Nat) : Int)), y ≤ ((depths ts : Nat) : Int) := fun ts => by
      induction ts with
      | nil => intro y hy; cases hy
      | cons t r ih =>
        intro y hy
        rw [List.map_cons] at hy
        rw [depths]
        rcases List.mem_cons.mp hy with rfl | hy
        · omega
        · have := ih y hy; omega
    have lo : ∀ ts : List Th, ts = [] ∨ ((depths ts : Nat) : Int) ∈ (ts.map fun t => ((depth t : Nat) : Int)) := fun ts => by
      induction ts with
      | nil => exact .inl rfl
      | cons t r ih =>
        refine .inr ?_
        rw [depths, List.map_cons]
        rcases ih with rfl | ih
        · rw [depths]
          simp
        · by_cases c : depth t ≤ depths r
          · rw [Nat.max_eq_right c]; exact List.mem_cons_of_mem _ ih
          · rw [Nat.max_eq_left (by omega)]; exact List.mem_cons_self
    refine Int.le_antisymm ?_ ?_
    · rcases List.mem_cons.mp h.1 with e | e
      · rw [e]; omega
      · exact up (t :: r) _ e
    · rcases lo (t :: r) with e | e
      · cases e
      · exact h.2 _ (List.mem_cons_of_mem _ e)
theorem kb_int_bool : kitB "int" "bool" = some false := by decide +kernel
theorem kb_int_int : kitB "int" "int" = some true := by decide +kernel
theorem eqD_int (i j : Int) : eqD (.int i) (.int j) = (i == j) := by simp [eqD, toPy, PyData.eqv]
theorem eqD_str (i j : Str) : eqD (.str i) (.str j) = (i == j) := by simp [eqD, toPy, PyData.eqv]
def eqDs : List D → List D → Bool
  | [], [] => true
  | x :: r, y :: s => eqD x y && eqDs r s
  | _, _ => false
theorem eqvAll_toPys : ∀ xs ys : List D, PyData.eqvAll (toPys xs) (toPys ys) = eqDs xs ys
  | [], [] => by simp [toPys, PyData.eqvAll, eqDs]
  | [], _ :: _ => by simp [toPys, PyData.eqvAll, eqDs]
  | _ :: _, [] => by simp [toPys, PyData.eqvAll, eqDs]
  | x :: r, y :: s => by simp only [toPys, PyData.eqvAll, eqDs, eqD, eqvAll_toPys r s]
theorem eqD_lst (xs ys : List D) : eqD (.lst xs) (.lst ys) = eqDs xs ys := by
  unfold eqD
  rw [toPy, toPy, PyData.eqv, eqvAll_toPys]
theorem eqD_tup (xs ys : List D) : eqD (.tup xs) (.tup ys) = eqDs xs ys := by
  unfold eqD
  rw [toPy, toPy, PyData.eqv, eqvAll_toPys]
end G
namespace G
open PySem L2
theorem noOwn_one {rho : List (Option S)} {i : Nat} (h : rho.set i none = rho) : noOwn rho [i] = true := by
  unfold noOwn
  rw [List.all_cons, List.all_nil, Bool.and_true, ← h, List.getElem?_set]
  simp only [if_true]
  split
  · rename_i h; split at h <;> cases h
  · rfl
theorem rest_one {rho : List (Option S)} {i : Nat} (h : rho.set i none = rho) : restR rho rho [i] = rho := by
  unfold restR restR
  have e : rho[i]?.getD none = none := by
    rw [← h, List.getElem?_set]
    simp only [if_true]
    split <;> rfl
  rw [e, h]
/-- a comprehension that maps and leaves the machine -/
theorem elc_map {M : MI} {i : Nat} {its : Sm M (List D)} {e : Sm M S} {α : Type} (en : α → D) {g : α → D} {ts : List α} {z z0 : Z M.T} (h0 : its z0 = .ok (ts.map en) z) (hi : z.rho.set i none = z.rho) (hl : ts.length ≤ lim)
    (h : ∀ t ∈ ts, escf e { z with rho := z.rho.set i (some (.d (en t))) } = .ok (.d (g t)) { z with rho := z.rho.set i (some (.d (en t))) }) : eLc its (kName i) (fun z => .ok true z) e [i] z0 = .ok (.l (ts.map g)) z := by
  have hw : wipeZ z [i] = z := by unfold wipeZ wipeR wipeR; rw [hi]
  unfold eLc
  rw [h0, Rs.bind_ok, if_pos (noOwn_one hi), hw, lc_mapE en hw ts [] (by rw [List.length_nil]; omega) (fun t ht => ⟨_, h t ht, by unfold wipeZ wipeR wipeR; simp only [List.set_set, hi]⟩), Rs.bind_ok, rest_one hi]
  rfl
/-- a comprehension whose body draws -/
theorem lc_run {M : MI} {i : Nat} {e : Sm M S} {α : Type} {en : α → D} {P : α → Prop} {Q : Nat → M.T → Prop} {rho : List (Option S)} (hi : rho.set i none = rho)
    (h : ∀ k d m, Q (k + 1) m → ∃ t m', escf e ⟨rho.set i (some (.d d)), m⟩ = .ok (.d (en t)) ⟨rho.set i (some (.d d)), m'⟩ ∧ P t ∧ Q k m') :
    ∀ (ds : List D) (acc : List D) (m : M.T), acc.length + ds.length ≤ lim → Q ds.length m → ∃ (ts : List α) (m' : M.T), lcL (M := M) (kName i) (fun z => .ok true z) e [i] ds acc ⟨rho, m⟩ = .ok (acc ++ ts.map en) ⟨rho, m'⟩ ∧ ts.length = ds.length ∧ (∀ t ∈ ts, P t) ∧ Q 0 m'
  | [], acc, m, _, q => ⟨[], m, by simp [lcL], rfl, (fun t ht => by cases ht), q⟩
  | d :: r, acc, m, hl, q => by
    rw [List.length_cons] at hl q
    obtain ⟨t, m1, h1, h2, h3⟩ := h _ d m q
    obtain ⟨ts, m2, g1, g2, g3, g4⟩ := lc_run hi h r (acc ++ [en t]) m1 (by rw [List.length_append, List.length_singleton]; omega) h3
    refine ⟨t :: ts, m2, ?_, by rw [List.length_cons, g2, List.length_cons], ?_, g4⟩
    · unfold lcL
      simp only [kName, nox, Rs.bind_ok, if_true, h1]
      rw [if_pos (by omega)]
      have hw : wipeZ (⟨rho.set i (some (.d d)), m1⟩ : Z M.T) [i] = ⟨rho, m1⟩ := by unfold wipeZ wipeR wipeR; simp only [List.set_set, hi]
      rw [hw, g1]
      simp
    · intro u hu
      rcases List.mem_cons.mp hu with rfl | hu
      · exact h2
      · exact g3 u hu
theorem elc_run {M : MI} {i : Nat} {its : Sm M (List D)} {e : Sm M S} {α : Type} {en : α → D} {P : α → Prop} {Q : Nat → M.T → Prop} {rho : List (Option S)} {z0 : Z M.T} {ds : List D} {m : M.T} (h0 : its z0 = .ok ds ⟨rho, m⟩) (hi : rho.set i none = rho) (hl : ds.length ≤ lim) (q : Q ds.length m)
    (h : ∀ k d m, Q (k + 1) m → ∃ t m', escf e ⟨rho.set i (some (.d d)), m⟩ = .ok (.d (en t)) ⟨rho.set i (some (.d d)), m'⟩ ∧ P t ∧ Q k m') :
    ∃ (ts : List α) (m' : M.T), eLc its (kName i) (fun z => .ok true z) e [i] z0 = .ok (.l (ts.map en)) ⟨rho, m'⟩ ∧ ts.length = ds.length ∧ (∀ t ∈ ts, P t) ∧ Q 0 m' := by
  obtain ⟨ts, m', g1, g2, g3, g4⟩ := lc_run (M := M) hi h ds [] m (by rw [List.length_nil]; omega) q
  refine ⟨ts, m', ?_, g2, g3, g4⟩
  have hw : wipeZ (⟨rho, m⟩ : Z M.T) [i] = ⟨rho, m⟩ := by unfold wipeZ wipeR wipeR; simp only [hi]
  unfold eLc
  rw [h0, Rs.bind_ok, if_pos (noOwn_one hi), hw, g1, Rs.bind_ok]
  simp only [rest_one hi]
  rfl
end G
namespace G
open PySem L2
theorem atI0 {α : Type} (x : α) (r : List α) : atI (x :: r) 0 = some x := by
  unfold atI ixN
  simp
theorem atI1 {α : Type} (x y : α) (r : List α) : atI (x :: y :: r) 1 = some y := by
  unfold atI ixN
  have h : (1 : Int) < ((r.length + 1 + 1 : Nat) : Int) := by omega
  simp only [List.length_cons]
  rw [if_pos h]
  rfl
theorem atI2 {α : Type} (x y w : α) (r : List α) : atI (x :: y :: w :: r) 2 = some w := by
  unfold atI ixN
  have h : (2 : Int) < ((r.length + 1 + 1 + 1 : Nat) : Int) := by omega
  simp only [List.length_cons]
  rw [if_pos h]
  rfl
end G
namespace G
open PySem L2
theorem rg_lim {j : Int} (h0 : 0 ≤ j) (h1 : j ≤ 1000000) : -(2 ^ 62) ≤ j ∧ j < 2 ^ 62 := by
  have e : (2 : Int) ^ 62 = 4611686018427387904 := by decide +kernel
  rw [e]
  omega
theorem and_ok {ζ : Type} {a b : Prop} [Decidable a] [Decidable b] (z : ζ) : (if decide a = true then Rs.ok (decide b) z else Rs.ok false z) = Rs.ok (decide (a ∧ b)) z := by
  by_cases ha : a <;> by_cases hb : b <;> simp [ha, hb]
theorem or_ok {ζ : Type} {a b : Prop} [Decidable a] [Decidable b] (z : ζ) : (if decide a = true then Rs.ok true z else Rs.ok (decide b) z) = Rs.ok (decide (a ∨ b)) z := by
  by_cases ha : a <;> by_cases hb : b <;> simp [ha, hb]
theorem range_len (n : Nat) : (rangeD 0 n).length = n := by unfold rangeD; rw [List.length_map, List.length_range]
end G
namespace G
open PySem L2
theorem dSub_i (i j : Int) : dSub (.int i) (.int j) = some (.d (.int (i - j))) := rfl
theorem dLt_i (i j : Int) : dLt (.int i) (.int j) = some (.d (.bl (decide (i < j)))) := rfl
theorem dLe_i (i j : Int) : dLe (.int i) (.int j) = some (.d (.bl (decide (i ≤ j)))) := rfl
theorem dGt_i (i j : Int) : dGt (.int i) (.int j) = some (.d (.bl (decide (j < i)))) := rfl
theorem dGe_i (i j : Int) : dGe (.int i) (.int j) = some (.d (.bl (decide (j ≤ i)))) := rfl
theorem dAdd_i (i j : Int) : dAdd (.int i) (.int j) = some (.d (.int (i + j))) := rfl
theorem dEq_i (i j : Int) : dEq (.int i) (.int j) = some (.d (.bl (decide (i = j)))) := by
  unfold dEq
  rw [if_pos (by rfl), eqD_int]
  rfl
theorem dNe_i (i j : Int) : dNe (.int i) (.int j) = some (.d (.bl (!decide (i = j)))) := by
  unfold dNe
  rw [if_pos (by rfl), eqD_int]
  rfl
end G
namespace G
open PySem L2
theorem seq_nx {M : MI} {f g : Sm M Out} {z z1 : Z M.T} (h : f z = .ok .nx z1) : sSeq f g z = g z1 := by
  simp only [sSeq, h, Rs.bind_ok]
theorem seq_rt {M : MI} {f g : Sm M Out} {z z1 : Z M.T} {s : S} (h : f z = .ok (.rt s) z1) : sSeq f g z = .ok (.rt s) z1 := by
  simp only [sSeq, h, Rs.bind_ok]
theorem fnM_d {M : MI} {n : Nat} {b : Sm M Out} {args : List S} {t t' : M.T} {x : D} {rho' : List (Option S)} (h : b { rho := args.map some ++ List.replicate (n - args.length) none, m := t } = .ok (.rt (.d x)) ⟨rho', t'⟩) : fnM n b args t = .ok (.d x) t' := by
  simp only [fnM, h]
end G
namespace G
open PySem L2
/-! ### texts -/
theorem dAdd_s {x y : Str} (h : x.length + y.length ≤ lim) : dAdd (.str x) (.str y) = some (.d (.str (x ++ y))) := by
  unfold dAdd
  exact if_pos h
theorem fLen_s {w : Str} (h : w.length ≤ lim) : fLen [.str w] = some (.d (.int (w.length : Nat))) := by
  unfold fLen
  exact if_pos h
def sg (c : Nat) (s : Str) : Bool := decide (c ∈ s.cps.toList)
theorem dIn_c (c : Nat) (z : Str) : dIn (.str ⟨#[c]⟩) (.str z) = some (.d (.bl (sg c z))) := rfl
theorem dNotIn_c (c : Nat) (z : Str) : dNotIn (.str ⟨#[c]⟩) (.str z) = some (.d (.bl (!sg c z))) := rfl
def okS (w : Str) : Prop := ∀ c ∈ w.cps.toList, c < 0x110000
theorem okS_app {x y : Str} (a : okS x) (b : okS y) : okS (x ++ y) := by
  intro c hc
  have e : (x ++ y).cps.toList = x.cps.toList ++ y.cps.toList := by
    show (x.cps ++ y.cps).toList = _
    simp
  rw [e] at hc
  rcases List.mem_append.mp hc with h | h
  · exact a c h
  · exact b c h
theorem okS_cut {x : Str} (a : okS x) (lo hi : Option Int) : okS (cutS x lo hi) := by
  intro c hc
  unfold cutS at hc
  exact a c (List.mem_of_mem_drop (List.mem_of_mem_take hc))
theorem len_app (x y : Str) : (x ++ y).length = x.length + y.length := by
  show (x.cps ++ y.cps).size = x.cps.size + y.cps.size
  simp
theorem okS_of {x : Str} (h : PyData.strOk x = true) : okS x := by
  intro c hc
  unfold PyData.strOk at h
  rw [Array.all_eq_true_iff_forall_mem] at h
  have := h c (by simpa using hc)
  simpa using this
theorem atI_mem {α : Type} {xs : List α} {i : Int} (h : 0 ≤ i) (h2 : i < xs.length) : ∃ x ∈ xs, atI xs i = some x := by
  unfold atI ixN
  rw [if_pos h, if_pos h2]
  have hl : i.toNat < xs.length := by omega
  exact ⟨xs[i.toNat], List.getElem_mem hl, by rw [Option.bind_some, List.getElem?_eq_getElem hl]⟩
theorem dIx_s {z : Str} {i : Int} (hz : z.length ≤ lim) (ho : okS z) (h : 0 ≤ i) (h2 : i < z.length) : ∃ c, dIx (.str z) (.int i) = some (.d (.str ⟨#[c]⟩)) ∧ c < 0x110000 := by
  obtain ⟨c, hc, e⟩ := atI_mem (xs := z.cps.toList) h (by rw [Array.length_toList]; exact h2)
  refine ⟨c, ?_, ho c hc⟩
  unfold dIx
  refine (if_pos hz).trans ?_
  rw [e]
  rfl
theorem okS_one {c : Nat} (h : c < 0x110000) : okS ⟨#[c]⟩ := by
  intro d hd
  rcases List.mem_singleton.mp hd with rfl
  exact h
/-- a comprehension that sieves -/
theorem lc_filt {M : MI} {i : Nat} {t : Sm M Bool} {e : Sm M S} {α : Type} (en : α → D) {g : α → D} {p : α → Bool} {z : Z M.T} (hi : z.rho.set i none = z.rho) : ∀ (ts : List α) (acc : List D), acc.length + ts.length ≤ lim →
    (∀ x ∈ ts, t { z with rho := z.rho.set i (some (.d (en x))) } = .ok (p x) { z with rho := z.rho.set i (some (.d (en x))) } ∧ escf e { z with rho := z.rho.set i (some (.d (en x))) } = .ok (.d (g x)) { z with rho := z.rho.set i (some (.d (en x))) }) → lcL (kName i) t e [i] (ts.map en) acc z = .ok (acc ++ (ts.filter p).map g) z
  | [], acc, _, _ => by simp [lcL]
  | d :: r, acc, hl, h => by
    obtain ⟨h1, h2⟩ := h d List.mem_cons_self
    rw [List.length_cons] at hl
    have hw : wipeZ ({ z with rho := z.rho.set i (some (.d (en d))) } : Z M.T) [i] = z := by unfold wipeZ wipeR wipeR; simp only [List.set_set, hi]
    rw [List.map_cons]
    unfold lcL
    simp only [kName, nox, Rs.bind_ok, h1]
    cases hp : p d with
    | true =>
      simp only [if_true, h2, Rs.bind_ok]
      rw [if_pos (by omega), hw, lc_filt en hi r (acc ++ [g d]) (by rw [List.length_append, List.length_singleton]; omega) (fun x hx => h x (List.mem_cons_of_mem _ hx)), List.filter_cons_of_pos hp]
      simp
    | false =>
      simp only [Bool.false_eq_true, if_false]
      rw [hw, lc_filt en hi r acc (by omega) (fun x hx => h x (List.mem_cons_of_mem _ hx)), List.filter_cons_of_neg (by rw [hp]; exact Bool.false_ne_true)]
theorem elc_filt {M : MI} {i : Nat} {its : Sm M (List D)} {t : Sm M Bool} {e : Sm M S} {α : Type} (en : α → D) {g : α → D} {p : α → Bool} {ts : List α} {z z0 : Z M.T} (h0 : its z0 = .ok (ts.map en) z) (hi : z.rho.set i none = z.rho) (hl : ts.length ≤ lim)
    (h : ∀ x ∈ ts, t { z with rho := z.rho.set i (some (.d (en x))) } = .ok (p x) { z with rho := z.rho.set i (some (.d (en x))) } ∧ escf e { z with rho := z.rho.set i (some (.d (en x))) } = .ok (.d (g x)) { z with rho := z.rho.set i (some (.d (en x))) }) : eLc its (kName i) t e [i] z0 = .ok (.l ((ts.filter p).map g)) z := by
  have hw : wipeZ z [i] = z := by unfold wipeZ wipeR wipeR; rw [hi]
  unfold eLc
  rw [h0, Rs.bind_ok, if_pos (noOwn_one hi), hw, lc_filt en hi ts [] (by rw [List.length_nil]; omega) h, Rs.bind_ok, rest_one hi]
  rfl
theorem blsOf_map {α : Type} (f : α → Bool) : ∀ ts : List α, blsOf (ts.map fun t => D.bl (f t)) = some (ts.map f)
  | [] => rfl
  | t :: r => by rw [List.map_cons, blsOf, blsOf_map f r]; rfl
end G
namespace L
open PySem L2 G
def topS (i : Nat) : Stmt := PySem.Challenge.pw_groundroom_k63_terms_put_for_open_places.main.body.getD i (.Pass ⟨0, 0, 0, 0⟩)
abbrev s_within : Stmt := topS 15
abbrev s_parts_of : Stmt := topS 16
abbrev s_deep_of : Stmt := topS 17
abbrev s_lifted : Stmt := topS 18
abbrev s_term_for : Stmt := topS 19
abbrev s_need_fit : Stmt := topS 20
abbrev s_put : Stmt := topS 21
abbrev s_put_in : Stmt := topS 22
abbrev s_put_all : Stmt := topS 24
abbrev s__law_cell : Stmt := topS 26
abbrev s__law_entries : Stmt := topS 27
abbrev s__law_put : Stmt := topS 28
abbrev s__law_any_term : Stmt := topS 29
abbrev s__law_any_statement : Stmt := topS 30
abbrev s__law_kids : Stmt := topS 31
abbrev s__law_spots : Stmt := topS 32
abbrev s__law_filled : Stmt := topS 35
abbrev s__law_told_by : Stmt := topS 37
abbrev s__law_tower : Stmt := topS 38
abbrev s__law_great_right : Stmt := topS 39
abbrev s_law : Stmt := topS 40
inductive Fn where
  | within
  | parts_of
  | deep_of
  | lifted
  | term_for
  | need_fit
  | put
  | put_in
  | put_all
  | _law_cell
  | _law_entries
  | _law_put
  | _law_any_term
  | _law_any_statement
  | _law_kids
  | _law_spots
  | _law_filled
  | _law_told_by
  | _law_tower
  | _law_great_right
def c_BOUND : D := (.tup [(.str "all"), (.str "some")])
def c_CALLED : D := (.tup [(.str "call"), (.str "rel")])
def c_JOINED : D := (.tup [(.str "same"), (.str "and"), (.str "or"), (.str "if")])
def c_MOST_FOUND : D := (.int 4000)
def c_MOST_FOUND_DEEP : D := (.int 120)
abbrev lawLevel : Nat := 200
abbrev whileN : Nat := 1000000000
def m_within (call : Fn → List S → Int → Rs S Int) : Sm M2 Out :=
    (sSeq (sIf (tOf (eBin dIn (eBin dIx (eVar 0) (eC (.int 0))) (eC c_CALLED))) (sRet (eFn fList (aCons (opd (eBin dIx (eVar 0) (eC (.int 2)))) aNil))) sNil)
    (sSeq (sIf (tOf (eBin dIn (eBin dIx (eVar 0) (eC (.int 0))) (eC c_JOINED))) (sRet (eFn fList (aCons (opd (eSl dSl (eVar 0) (oInt (eC (.int 1))) (fun z => .ok none z))) aNil))) sNil)
    (sRet (eIf (tOf (eBin dIn (eBin dIx (eVar 0) (eC (.int 0))) (eC c_BOUND))) (eLst (aCons (escf (eBin dIx (eVar 0) (eC (.int 2)))) aNil)) (eLst aNil)))))
def m_parts_of (call : Fn → List S → Int → Rs S Int) : Sm M2 Out :=
    (sSeq (sSet 1 (eC (.int 0)))
    (sSeq (sSet 2 (eLst (aCons (escf (eVar 0)) aNil)))
    (sSeq (sWhile (tOf (eBin dNe (eVar 2) (eLst aNil))) (sSeq (sSet 1 (eBin dAdd (eVar 1) (eC (.int 1))))
    (sExpr (eExt 2 (eCall (call .within) (aCons (escf (ePop 2)) aNil))))) whileN)
    (sRet (eVar 1)))))
def m_deep_of (call : Fn → List S → Int → Rs S Int) : Sm M2 Out :=
    (sSeq (sSet 1 (eC (.int 0)))
    (sSeq (sSet 2 (eLst (aCons (escf (eTup (aCons (escf (eVar 0)) (aCons (escf (eC (.int 1))) aNil)))) aNil)))
    (sSeq (sWhile (tOf (eBin dNe (eVar 2) (eLst aNil))) (sSeq (sAsg (ePop 2) (kTup 2 (ksCons (kName 3) (ksCons (kName 4) ksNil))))
    (sSeq (sSet 1 (eFn fMax (aCons (opd (eVar 1)) (aCons (opd (eVar 4)) aNil))))
    (sExpr (eExt 2 (eLc (iAnyM (eCall (call .within) (aCons (escf (eVar 3)) aNil))) (kName 5) (fun z => .ok true z) (eTup (aCons (escf (eVar 5)) (aCons (escf (eBin dAdd (eVar 4) (eC (.int 1)))) aNil))) [5]))))) whileN)
    (sRet (eVar 1)))))
def m_lifted (call : Fn → List S → Int → Rs S Int) : Sm M2 Out :=
    (sSeq (sSet 3 (eBin dIx (eVar 0) (eC (.int 0))))
    (sSeq (sIf (tOf (eBin dEq (eVar 3) (eC (.str "var")))) (sRet (eIf (tOf (eBin dGe (eBin dIx (eVar 0) (eC (.int 1))) (eVar 2))) (eTup (aCons (escf (eC (.str "var"))) (aCons (escf (eBin dAdd (eBin dIx (eVar 0) (eC (.int 1))) (eVar 1))) aNil))) (eVar 0))) sNil)
    (sSeq (sIf (tOf (eBin dIn (eVar 3) (eC c_CALLED))) (sRet (eTup (aCons (escf (eVar 3)) (aCons (escf (eBin dIx (eVar 0) (eC (.int 1)))) (aCons (escf (eFn fTuple (aCons (opd (eLc (iAnyM (eBin dIx (eVar 0) (eC (.int 2)))) (kName 4) (fun z => .ok true z) (eCall (call .lifted) (aCons (escf (eVar 4)) (aCons (escf (eVar 1)) (aCons (escf (eVar 2)) aNil)))) [4])) aNil))) aNil))))) sNil)
    (sSeq (sIf (tOf (eBin dIn (eVar 3) (eC c_JOINED))) (sRet (eTup (aCons (escf (eVar 3)) (aCons (escf (eCall (call .lifted) (aCons (escf (eBin dIx (eVar 0) (eC (.int 1)))) (aCons (escf (eVar 1)) (aCons (escf (eVar 2)) aNil))))) (aCons (escf (eCall (call .lifted) (aCons (escf (eBin dIx (eVar 0) (eC (.int 2)))) (aCons (escf (eVar 1)) (aCons (escf (eVar 2)) aNil))))) aNil))))) sNil)
    (sRet (eIf (tOf (eBin dIn (eVar 3) (eC c_BOUND))) (eTup (aCons (escf (eVar 3)) (aCons (escf (eBin dIx (eVar 0) (eC (.int 1)))) (aCons (escf (eCall (call .lifted) (aCons (escf (eBin dIx (eVar 0) (eC (.int 2)))) (aCons (escf (eVar 1)) (aCons (escf (eBin dAdd (eVar 2) (eC (.int 1)))) aNil))))) aNil)))) (eVar 0)))))))
def m_term_for (call : Fn → List S → Int → Rs S Int) : Sm M2 Out :=
    (sRet (eIf (tOf (eChain dLe dLt (eC (.int 0)) (eVar 1) (eFn fLen (aCons (opd (eVar 0)) aNil)))) (eBin dIx (eVar 0) (eBin dSub (eBin dSub (eFn fLen (aCons (opd (eVar 0)) aNil)) (eC (.int 1))) (eVar 1))) (eC .non)))
def m_need_fit (call : Fn → List S → Int → Rs S Int) : Sm M2 Out :=
    (sSeq (sSet 2 (eLc (iAnyM (eVar 1)) (kName 10) (fun z => .ok true z) (eTup (aCons (escf (eCall (call .parts_of) (aCons (escf (eVar 10)) aNil))) (aCons (escf (eCall (call .deep_of) (aCons (escf (eVar 10)) aNil))) aNil))) [10]))
    (sSeq (sSet 3 (eC (.int 0)))
    (sSeq (sSet 4 (eLst (aCons (escf (eTup (aCons (escf (eVar 0)) (aCons (escf (eC (.int 0))) (aCons (escf (eC (.int 1))) aNil))))) aNil)))
    (sWhile (tOf (eBin dNe (eVar 4) (eLst aNil))) (sSeq (sAsg (ePop 4) (kTup 3 (ksCons (kName 5) (ksCons (kName 6) (ksCons (kName 7) ksNil)))))
    (sSeq (sSet 8 (eC .non))
    (sSeq (sIf (tOf (eBin dEq (eBin dIx (eVar 5) (eC (.int 0))) (eC (.str "var")))) (sSet 8 (eCall (call .term_for) (aCons (escf (eVar 2)) (aCons (escf (eBin dSub (eBin dIx (eVar 5) (eC (.int 1))) (eVar 6))) aNil)))) sNil)
    (sSeq (sIf (tOf (eBin dIs (eVar 8) (eC .non))) (sSet 8 (eTup (aCons (escf (eC (.int 1))) (aCons (escf (eC (.int 1))) aNil)))) sNil)
    (sSeq (sSet 3 (eBin dAdd (eVar 3) (eBin dIx (eVar 8) (eC (.int 0)))))
    (sSeq (sIf (tOrM (tOf (eBin dGt (eVar 3) (eC c_MOST_FOUND))) (tOf (eBin dGt (eBin dAdd (eBin dSub (eVar 7) (eC (.int 1))) (eBin dIx (eVar 8) (eC (.int 1)))) (eC c_MOST_FOUND_DEEP)))) (sRaise "TooMany") sNil)
    (sSeq (sSet 9 (eFn fInt (aCons (opd (eBin dIn (eBin dIx (eVar 5) (eC (.int 0))) (eC c_BOUND))) aNil)))
    (sExpr (eExt 4 (eLc (iAnyM (eCall (call .within) (aCons (escf (eVar 5)) aNil))) (kName 11) (fun z => .ok true z) (eTup (aCons (escf (eVar 11)) (aCons (escf (eBin dAdd (eVar 6) (eVar 9))) (aCons (escf (eBin dAdd (eVar 7) (eC (.int 1)))) aNil)))) [11])))))))))) whileN))))
def m_put (call : Fn → List S → Int → Rs S Int) : Sm M2 Out :=
    (sSeq (sSet 3 (eBin dIx (eVar 0) (eC (.int 0))))
    (sSeq (sIf (tOf (eBin dEq (eVar 3) (eC (.str "var")))) (sSeq (sSet 4 (eCall (call .term_for) (aCons (escf (eVar 1)) (aCons (escf (eBin dSub (eBin dIx (eVar 0) (eC (.int 1))) (eVar 2))) aNil))))
    (sSeq (sIf (tOf (eBin dIsNot (eVar 4) (eC .non))) (sRet (eCall (call .lifted) (aDef [(.int 0)] (aCons (escf (eVar 4)) (aCons (escf (eVar 2)) aNil))))) sNil)
    (sRet (eIf (tOf (eBin dLt (eBin dIx (eVar 0) (eC (.int 1))) (eVar 2))) (eVar 0) (eTup (aCons (escf (eC (.str "var"))) (aCons (escf (eBin dSub (eBin dIx (eVar 0) (eC (.int 1))) (eFn fLen (aCons (opd (eVar 1)) aNil)))) aNil))))))) sNil)
    (sSeq (sIf (tOf (eBin dIn (eVar 3) (eC c_CALLED))) (sRet (eTup (aCons (escf (eVar 3)) (aCons (escf (eBin dIx (eVar 0) (eC (.int 1)))) (aCons (escf (eFn fTuple (aCons (opd (eLc (iAnyM (eBin dIx (eVar 0) (eC (.int 2)))) (kName 5) (fun z => .ok true z) (eCall (call .put) (aCons (escf (eVar 5)) (aCons (escf (eVar 1)) (aCons (escf (eVar 2)) aNil)))) [5])) aNil))) aNil))))) sNil)
    (sSeq (sIf (tOf (eBin dIn (eVar 3) (eC c_JOINED))) (sRet (eTup (aCons (escf (eVar 3)) (aCons (escf (eCall (call .put) (aCons (escf (eBin dIx (eVar 0) (eC (.int 1)))) (aCons (escf (eVar 1)) (aCons (escf (eVar 2)) aNil))))) (aCons (escf (eCall (call .put) (aCons (escf (eBin dIx (eVar 0) (eC (.int 2)))) (aCons (escf (eVar 1)) (aCons (escf (eVar 2)) aNil))))) aNil))))) sNil)
    (sRet (eIf (tOf (eBin dIn (eVar 3) (eC c_BOUND))) (eTup (aCons (escf (eVar 3)) (aCons (escf (eBin dIx (eVar 0) (eC (.int 1)))) (aCons (escf (eCall (call .put) (aCons (escf (eBin dIx (eVar 0) (eC (.int 2)))) (aCons (escf (eVar 1)) (aCons (escf (eBin dAdd (eVar 2) (eC (.int 1)))) aNil))))) aNil)))) (eVar 0)))))))
def m_put_in (call : Fn → List S → Int → Rs S Int) : Sm M2 Out :=
    (sSeq (sExpr (eCall (call .need_fit) (aCons (escf (eVar 0)) (aCons (escf (eVar 1)) aNil))))
    (sRet (eCall (call .put) (aCons (escf (eVar 0)) (aCons (escf (eVar 1)) (aCons (escf (eC (.int 0))) aNil))))))
def m_put_all (call : Fn → List S → Int → Rs S Int) : Sm M2 Out :=
    (sRet (eCall (call .put_in) (aCons (escf (eVar 0)) (aCons (escf (eFn fTuple (aCons (opd (eLc (iAnyM (eUn dRev (eVar 1))) (kName 2) (fun z => .ok true z) (eIf (tOf (eBin dIs (eVar 2) (eC .non))) (eTup (aCons (escf (eC (.str "var"))) (aCons (escf (eC (.int 0))) aNil))) (eVar 2)) [2])) aNil))) aNil))))
def m__law_cell (call : Fn → List S → Int → Rs S Int) : Sm M2 Out :=
    (sSeq (sSpot 1 (eBin dAdd (eSpot 1) (eC (.int 1))))
    (sSeq (sSet 2 (eSpot 1))
    (sSeq (sSet 3 (eBin dAdd (eBin dMul (eBin dMul (eC (.int 31)) (eVar 2)) (eVar 2)) (eBin dMul (eC (.int 7919)) (eVar 2))))
    (sSeq (sIf (tAndM (tOf (eBin dGt (eFn fLen (aCons (opd (eVar 0)) aNil)) (eC (.int 0)))) (tAndM (tOf (eBin dEq (eBin dMod (eBin dIx (eVar 0) (eC (.int 0))) (eC (.int 2))) (eC (.int 1)))) (tOf (eBin dLt (eBin dFdiv (eVar 2) (eFn fLen (aCons (opd (eVar 0)) aNil))) (eC (.int 60)))))) (sSeq (sSet 4 (eBin dFdiv (eBin dIx (eVar 0) (eBin dMod (eVar 2) (eFn fLen (aCons (opd (eVar 0)) aNil)))) (eC (.int 2))))
    (sSeq (sFor (iRg1M (aCons (opd (eBin dFdiv (eVar 2) (eFn fLen (aCons (opd (eVar 0)) aNil)))) aNil)) (kName 5) (sSet 4 (eBin dFdiv (eVar 4) (eC (.int 306783379)))))
    (sIf (tOf (eBin dGt (eVar 4) (eC (.int 0)))) (sRet (eBin dMod (eVar 4) (eC (.int 306783379)))) sNil))) sNil)
    (sSeq (sIf (tOf (eBin dGt (eFn fLen (aCons (opd (eVar 0)) aNil)) (eC (.int 0)))) (sSet 3 (eBin dAdd (eVar 3) (eBin dMul (eBin dIx (eVar 0) (eBin dMod (eVar 2) (eFn fLen (aCons (opd (eVar 0)) aNil)))) (eBin dAdd (eC (.int 1)) (eBin dFdiv (eVar 2) (eFn fLen (aCons (opd (eVar 0)) aNil))))))) sNil)
    (sRet (eBin dFdiv (eBin dMod (eBin dMul (eVar 3) (eC (.int 48271))) (eC (.int 2147483647))) (eC (.int 7)))))))))
def m__law_entries (call : Fn → List S → Int → Rs S Int) : Sm M2 Out :=
    (sSeq (sSet 1 (eBin dIx (eLst (aCons (escf (eC (.str ""))) (aCons (escf (eC (.str "a"))) (aCons (escf (eC (.str "x1"))) (aCons (escf (eC (.str "7"))) (aCons (escf (eC (.str "bb"))) aNil)))))) (eBin dMod (eVar 0) (eC (.int 5)))))
    (sSeq (sAsg (eTup (aCons (escf (eBin dAdd (eC (.str "s")) (eVar 1))) (aCons (escf (eBin dAdd (eC (.str "m")) (eVar 1))) (aCons (escf (eTup (aCons (escf (eC (.str "call"))) (aCons (escf (eBin dAdd (eC (.str "c")) (eVar 1))) (aCons (escf (eTup aNil)) aNil))))) (aCons (escf (eTup (aCons (escf (eC (.str "var"))) (aCons (escf (eC (.int 0))) aNil)))) (aCons (escf (eTup (aCons (escf (eC (.str "var"))) (aCons (escf (eC (.int 1))) aNil)))) aNil)))))) (kTup 5 (ksCons (kName 2) (ksCons (kName 3) (ksCons (kName 4) (ksCons (kName 5) (ksCons (kName 6) ksNil)))))))
    (sSeq (sSet 7 (eFn fTuple (aCons (opd (eLc (iAnyM (eSl dSl (eC (.str "abcd")) (fun z => .ok none z) (oInt (eBin dAdd (eC (.int 2)) (eBin dMod (eBin dFdiv (eVar 0) (eC (.int 5))) (eC (.int 3))))))) (kName 9) (fun z => .ok true z) (eBin dAdd (eBin dAdd (eC (.str "k")) (eVar 9)) (eVar 1)) [9])) aNil)))
    (sSeq (sSet 8 (eLst (aCons (escf (eTup (aCons (escf (eC (.str "sort"))) (aCons (escf (eVar 2)) (aCons (escf (eTup aNil)) aNil))))) (aCons (escf (eTup (aCons (escf (eC (.str "sort"))) (aCons (escf (eVar 3)) (aCons (escf (eVar 7)) aNil))))) (aCons (escf (eTup (aCons (escf (eC (.str "func"))) (aCons (escf (eBin dAdd (eC (.str "c")) (eVar 1))) (aCons (escf (eTup aNil)) (aCons (escf (eVar 2)) aNil)))))) (aCons (escf (eTup (aCons (escf (eC (.str "func"))) (aCons (escf (eBin dAdd (eC (.str "f")) (eVar 1))) (aCons (escf (eTup (aCons (escf (eVar 2)) aNil))) (aCons (escf (eVar 2)) aNil)))))) aNil))))))
    (sSeq (sSet 8 (eBin dAdd (eVar 8) (eLst (aCons (escf (eTup (aCons (escf (eC (.str "func"))) (aCons (escf (eBin dAdd (eC (.str "g")) (eVar 1))) (aCons (escf (eTup (aCons (escf (eVar 2)) (aCons (escf (eVar 3)) aNil)))) (aCons (escf (eVar 2)) aNil)))))) (aCons (escf (eTup (aCons (escf (eC (.str "rel"))) (aCons (escf (eBin dAdd (eC (.str "p")) (eVar 1))) (aCons (escf (eTup (aCons (escf (eVar 2)) aNil))) aNil))))) (aCons (escf (eTup (aCons (escf (eC (.str "rel"))) (aCons (escf (eBin dAdd (eC (.str "q")) (eVar 1))) (aCons (escf (eTup (aCons (escf (eVar 2)) (aCons (escf (eVar 3)) aNil)))) aNil))))) (aCons (escf (eTup (aCons (escf (eC (.str "rel"))) (aCons (escf (eBin dAdd (eC (.str "z")) (eVar 1))) (aCons (escf (eTup aNil)) aNil))))) aNil)))))))
    (sSeq (sSet 8 (eBin dAdd (eVar 8) (eLst (aCons (escf (eTup (aCons (escf (eC (.str "mean"))) (aCons (escf (eBin dAdd (eC (.str "top")) (eVar 1))) (aCons (escf (eTup (aCons (escf (eVar 2)) aNil))) (aCons (escf (eTup (aCons (escf (eC (.str "same"))) (aCons (escf (eVar 5)) (aCons (escf (eVar 5)) aNil))))) aNil)))))) (aCons (escf (eTup (aCons (escf (eC (.str "mean"))) (aCons (escf (eBin dAdd (eC (.str "eq")) (eVar 1))) (aCons (escf (eTup (aCons (escf (eVar 2)) (aCons (escf (eVar 2)) aNil)))) (aCons (escf (eTup (aCons (escf (eC (.str "same"))) (aCons (escf (eVar 6)) (aCons (escf (eVar 5)) aNil))))) aNil)))))) aNil)))))
    (sSeq (sSet 8 (eBin dAdd (eVar 8) (eLst (aCons (escf (eTup (aCons (escf (eC (.str "taken"))) (aCons (escf (eBin dAdd (eC (.str "hp")) (eVar 1))) (aCons (escf (eTup (aCons (escf (eC (.str "all"))) (aCons (escf (eVar 2)) (aCons (escf (eTup (aCons (escf (eC (.str "rel"))) (aCons (escf (eBin dAdd (eC (.str "p")) (eVar 1))) (aCons (escf (eTup (aCons (escf (eVar 5)) aNil))) aNil))))) aNil))))) aNil))))) (aCons (escf (eTup (aCons (escf (eC (.str "taken"))) (aCons (escf (eBin dAdd (eC (.str "hz")) (eVar 1))) (aCons (escf (eTup (aCons (escf (eC (.str "rel"))) (aCons (escf (eBin dAdd (eC (.str "z")) (eVar 1))) (aCons (escf (eTup aNil)) aNil))))) aNil))))) aNil)))))
    (sSeq (sExpr (eApp 8 (eTup (aCons (escf (eC (.str "taken"))) (aCons (escf (eBin dAdd (eC (.str "hq")) (eVar 1))) (aCons (escf (eTup (aCons (escf (eC (.str "some"))) (aCons (escf (eVar 3)) (aCons (escf (eTup (aCons (escf (eC (.str "rel"))) (aCons (escf (eBin dAdd (eC (.str "q")) (eVar 1))) (aCons (escf (eTup (aCons (escf (eVar 4)) (aCons (escf (eVar 5)) aNil)))) aNil))))) aNil))))) aNil))))))
    (sRet (eFn fTuple (aCons (opd (eVar 8)) aNil)))))))))))
def m__law_put (call : Fn → List S → Int → Rs S Int) : Sm M2 Out :=
    (sSeq (sIf (tOf (eBin dEq (eBin dIx (eVar 1) (eC (.int 0))) (eC (.str "var")))) (sSeq (sSet 3 (eBin dIx (eVar 1) (eC (.int 1))))
    (sSeq (sIf (tOf (eBin dEq (eBin dIx (eVar 0) (eC (.int 0))) (eC (.str "raise")))) (sRet (eTup (aCons (escf (eC (.str "var"))) (aCons (escf (eIf (tOf (eBin dGe (eVar 3) (eVar 2))) (eBin dAdd (eVar 3) (eBin dIx (eVar 0) (eC (.int 1)))) (eVar 3))) aNil)))) sNil)
    (sSeq (sIf (tAndM (tOf (eBin dEq (eBin dIx (eVar 0) (eC (.int 0))) (eC (.str "term")))) (tOf (eBin dGe (eVar 3) (eVar 2)))) (sRet (eIf (tOf (eBin dEq (eVar 3) (eVar 2))) (eCall (call ._law_put) (aCons (escf (eTup (aCons (escf (eC (.str "raise"))) (aCons (escf (eVar 2)) aNil)))) (aCons (escf (eBin dIx (eVar 0) (eC (.int 1)))) (aCons (escf (eC (.int 0))) aNil)))) (eTup (aCons (escf (eC (.str "var"))) (aCons (escf (eBin dSub (eVar 3) (eC (.int 1)))) aNil))))) sNil)
    (sRet (eVar 1))))) sNil)
    (sSeq (sIf (tOf (eBin dIn (eBin dIx (eVar 1) (eC (.int 0))) (eTup (aCons (escf (eC (.str "all"))) (aCons (escf (eC (.str "some"))) aNil))))) (sRet (eBin dAdd (eSl dSl (eVar 1) (fun z => .ok none z) (oInt (eC (.int 2)))) (eTup (aCons (escf (eCall (call ._law_put) (aCons (escf (eVar 0)) (aCons (escf (eBin dIx (eVar 1) (eC (.int 2)))) (aCons (escf (eBin dAdd (eVar 2) (eC (.int 1)))) aNil))))) aNil)))) sNil)
    (sSeq (sIf (tOf (eBin dIn (eBin dIx (eVar 1) (eC (.int 0))) (eTup (aCons (escf (eC (.str "call"))) (aCons (escf (eC (.str "rel"))) aNil))))) (sRet (eBin dAdd (eSl dSl (eVar 1) (fun z => .ok none z) (oInt (eC (.int 2)))) (eTup (aCons (escf (eFn fTuple (aCons (opd (eLc (iAnyM (eBin dIx (eVar 1) (eC (.int 2)))) (kName 4) (fun z => .ok true z) (eCall (call ._law_put) (aCons (escf (eVar 0)) (aCons (escf (eVar 4)) (aCons (escf (eVar 2)) aNil)))) [4])) aNil))) aNil)))) sNil)
    (sRet (eBin dAdd (eSl dSl (eVar 1) (fun z => .ok none z) (oInt (eC (.int 1)))) (eFn fTuple (aCons (opd (eLc (iAnyM (eSl dSl (eVar 1) (oInt (eC (.int 1))) (fun z => .ok none z))) (kName 4) (fun z => .ok true z) (eCall (call ._law_put) (aCons (escf (eVar 0)) (aCons (escf (eVar 4)) (aCons (escf (eVar 2)) aNil)))) [4])) aNil)))))))
def m__law_any_term (call : Fn → List S → Int → Rs S Int) : Sm M2 Out :=
    (sSeq (sSet 6 (eCall (call ._law_cell) (aCons (escf (eVar 1)) (aCons (escf (eVar 2)) aNil))))
    (sSeq (sSet 7 (eLc (iEnM (eVar 3)) (kTup 2 (ksCons (kName 9) (ksCons (kName 8) ksNil))) (tOf (eBin dEq (eVar 8) (eVar 4))) (eTup (aCons (escf (eC (.str "var"))) (aCons (escf (eVar 9)) aNil))) [9, 8]))
    (sSeq (sIf (tOf (eBin dEq (eVar 4) (eBin dIx (eBin dIx (eVar 0) (eC (.int 1))) (eC (.int 1))))) (sSeq (sSet 7 (eBin dAdd (eVar 7) (eLc (iAnyM (eBin dIx (eBin dIx (eVar 0) (eC (.int 1))) (eC (.int 2)))) (kName 10) (fun z => .ok true z) (eTup (aCons (escf (eC (.str "call"))) (aCons (escf (eVar 10)) (aCons (escf (eTup aNil)) aNil)))) [10])))
    (sRet (eBin dIx (eVar 7) (eBin dMod (eVar 6) (eFn fLen (aCons (opd (eVar 7)) aNil)))))) sNil)
    (sSeq (sIf (tAndM (tOf (eBin dGt (eVar 5) (eC (.int 0)))) (tOf (eBin dEq (eBin dMod (eVar 6) (eC (.int 5))) (eC (.int 1))))) (sRet (eTup (aCons (escf (eC (.str "call"))) (aCons (escf (eBin dIx (eBin dIx (eVar 0) (eC (.int 3))) (eC (.int 1)))) (aCons (escf (eTup (aCons (escf (eCall (call ._law_any_term) (aCons (escf (eVar 0)) (aCons (escf (eVar 1)) (aCons (escf (eVar 2)) (aCons (escf (eVar 3)) (aCons (escf (eVar 4)) (aCons (escf (eBin dSub (eVar 5) (eC (.int 1)))) aNil)))))))) aNil))) aNil))))) sNil)
    (sSeq (sIf (tAndM (tOf (eBin dGt (eVar 5) (eC (.int 0)))) (tOf (eBin dEq (eBin dMod (eVar 6) (eC (.int 5))) (eC (.int 2))))) (sSeq (sSet 8 (eCall (call ._law_any_term) (aCons (escf (eVar 0)) (aCons (escf (eVar 1)) (aCons (escf (eVar 2)) (aCons (escf (eVar 3)) (aCons (escf (eVar 4)) (aCons (escf (eBin dSub (eVar 5) (eC (.int 1)))) aNil))))))))
    (sRet (eTup (aCons (escf (eC (.str "call"))) (aCons (escf (eBin dIx (eBin dIx (eVar 0) (eC (.int 4))) (eC (.int 1)))) (aCons (escf (eTup (aCons (escf (eVar 8)) (aCons (escf (eCall (call ._law_any_term) (aCons (escf (eVar 0)) (aCons (escf (eVar 1)) (aCons (escf (eVar 2)) (aCons (escf (eVar 3)) (aCons (escf (eBin dIx (eBin dIx (eVar 0) (eC (.int 1))) (eC (.int 1)))) (aCons (escf (eC (.int 0))) aNil)))))))) aNil)))) aNil)))))) sNil)
    (sSeq (sExpr (eApp 7 (eTup (aCons (escf (eC (.str "call"))) (aCons (escf (eBin dIx (eBin dIx (eVar 0) (eC (.int 2))) (eC (.int 1)))) (aCons (escf (eTup aNil)) aNil))))))
    (sRet (eBin dIx (eVar 7) (eBin dMod (eBin dFdiv (eVar 6) (eC (.int 5))) (eFn fLen (aCons (opd (eVar 7)) aNil)))))))))))
def m__law_any_statement (call : Fn → List S → Int → Rs S Int) : Sm M2 Out :=
    (sSeq (sSet 5 (eCall (call ._law_cell) (aCons (escf (eVar 1)) (aCons (escf (eVar 2)) aNil))))
    (sSeq (sSet 6 (eBin dMod (eVar 5) (eC (.int 10))))
    (sSeq (sIf (tOrM (tOf (eBin dEq (eVar 4) (eC (.int 0)))) (tOf (eBin dLt (eVar 6) (eC (.int 5))))) (sSeq (sSet 7 (eCall (call ._law_any_term) (aCons (escf (eVar 0)) (aCons (escf (eVar 1)) (aCons (escf (eVar 2)) (aCons (escf (eVar 3)) (aCons (escf (eBin dIx (eBin dIx (eVar 0) (eC (.int 0))) (eC (.int 1)))) (aCons (escf (eC (.int 1))) aNil))))))))
    (sSeq (sIf (tOf (eBin dEq (eVar 6) (eC (.int 0)))) (sRet (eBin dIx (eLst (aCons (escf (eTup (aCons (escf (eC (.str "no"))) aNil))) (aCons (escf (eTup (aCons (escf (eC (.str "rel"))) (aCons (escf (eBin dIx (eBin dIx (eVar 0) (eC (.int 7))) (eC (.int 1)))) (aCons (escf (eTup aNil)) aNil))))) aNil))) (eBin dMod (eBin dFdiv (eVar 5) (eC (.int 10))) (eC (.int 2))))) sNil)
    (sSeq (sIf (tOf (eBin dLt (eVar 6) (eC (.int 3)))) (sRet (eTup (aCons (escf (eC (.str "rel"))) (aCons (escf (eBin dIx (eBin dIx (eVar 0) (eC (.int 5))) (eC (.int 1)))) (aCons (escf (eTup (aCons (escf (eVar 7)) aNil))) aNil))))) sNil)
    (sSeq (sIf (tOf (eBin dEq (eVar 6) (eC (.int 3)))) (sRet (eTup (aCons (escf (eC (.str "rel"))) (aCons (escf (eBin dIx (eBin dIx (eVar 0) (eC (.int 6))) (eC (.int 1)))) (aCons (escf (eTup (aCons (escf (eVar 7)) (aCons (escf (eCall (call ._law_any_term) (aCons (escf (eVar 0)) (aCons (escf (eVar 1)) (aCons (escf (eVar 2)) (aCons (escf (eVar 3)) (aCons (escf (eBin dIx (eBin dIx (eVar 0) (eC (.int 1))) (eC (.int 1)))) (aCons (escf (eC (.int 0))) aNil)))))))) aNil)))) aNil))))) sNil)
    (sSeq (sSet 8 (eBin dIx (eBin dIx (eVar 0) (eBin dMod (eBin dFdiv (eVar 5) (eC (.int 10))) (eC (.int 2)))) (eC (.int 1))))
    (sSeq (sSet 9 (eLc (iRg1M (aCons (opd (eC (.int 2))) aNil)) (kName 10) (fun z => .ok true z) (eCall (call ._law_any_term) (aCons (escf (eVar 0)) (aCons (escf (eVar 1)) (aCons (escf (eVar 2)) (aCons (escf (eVar 3)) (aCons (escf (eVar 8)) (aCons (escf (eC (.int 1))) aNil))))))) [10]))
    (sRet (eTup (aCons (escf (eC (.str "same"))) (aCons (escf (eBin dIx (eVar 9) (eC (.int 0)))) (aCons (escf (eBin dIx (eVar 9) (eC (.int 1)))) aNil))))))))))) sNil)
    (sSeq (sIf (tOf (eBin dLt (eVar 6) (eC (.int 8)))) (sSeq (sSet 7 (eCall (call ._law_any_statement) (aCons (escf (eVar 0)) (aCons (escf (eVar 1)) (aCons (escf (eVar 2)) (aCons (escf (eVar 3)) (aCons (escf (eBin dSub (eVar 4) (eC (.int 1)))) aNil)))))))
    (sRet (eTup (aCons (escf (eBin dIx (eLst (aCons (escf (eC (.str "and"))) (aCons (escf (eC (.str "or"))) (aCons (escf (eC (.str "if"))) aNil)))) (eBin dSub (eVar 6) (eC (.int 5))))) (aCons (escf (eVar 7)) (aCons (escf (eCall (call ._law_any_statement) (aCons (escf (eVar 0)) (aCons (escf (eVar 1)) (aCons (escf (eVar 2)) (aCons (escf (eVar 3)) (aCons (escf (eBin dSub (eVar 4) (eC (.int 1)))) aNil))))))) aNil)))))) sNil)
    (sSeq (sSet 8 (eBin dIx (eBin dIx (eVar 0) (eBin dMod (eBin dFdiv (eVar 5) (eC (.int 10))) (eC (.int 2)))) (eC (.int 1))))
    (sRet (eTup (aCons (escf (eBin dIx (eLst (aCons (escf (eC (.str "all"))) (aCons (escf (eC (.str "some"))) aNil))) (eBin dSub (eVar 6) (eC (.int 8))))) (aCons (escf (eVar 8)) (aCons (escf (eCall (call ._law_any_statement) (aCons (escf (eVar 0)) (aCons (escf (eVar 1)) (aCons (escf (eVar 2)) (aCons (escf (eBin dAdd (eTup (aCons (escf (eVar 8)) aNil)) (eVar 3))) (aCons (escf (eBin dSub (eVar 4) (eC (.int 1)))) aNil))))))) aNil))))))))))
def m__law_kids (call : Fn → List S → Int → Rs S Int) : Sm M2 Out :=
    (sSeq (sIf (tOf (eBin dIn (eBin dIx (eVar 0) (eC (.int 0))) (eTup (aCons (escf (eC (.str "call"))) (aCons (escf (eC (.str "rel"))) aNil))))) (sRet (eFn fList (aCons (opd (eBin dIx (eVar 0) (eC (.int 2)))) aNil))) sNil)
    (sSeq (sIf (tOf (eBin dIn (eBin dIx (eVar 0) (eC (.int 0))) (eTup (aCons (escf (eC (.str "all"))) (aCons (escf (eC (.str "some"))) aNil))))) (sRet (eLst (aCons (escf (eBin dIx (eVar 0) (eC (.int 2)))) aNil))) sNil)
    (sRet (eLc (iAnyM (eSl dSl (eVar 0) (oInt (eC (.int 1))) (fun z => .ok none z))) (kName 1) (tTru dTru (eUn (dIsiN "tuple") (eVar 1))) (eVar 1) [1]))))
def m__law_spots (call : Fn → List S → Int → Rs S Int) : Sm M2 Out :=
    (sSeq (sIf (tOf (eBin dEq (eBin dIx (eVar 0) (eC (.int 0))) (eC (.str "var")))) (sRet (eIf (tOf (eChain dLe dLt (eVar 2) (eBin dIx (eVar 0) (eC (.int 1))) (eBin dAdd (eVar 2) (eVar 1)))) (eLst (aCons (escf (eTup (aCons (escf (eBin dSub (eBin dIx (eVar 0) (eC (.int 1))) (eVar 2))) (aCons (escf (eVar 3)) (aCons (escf (eVar 2)) aNil))))) aNil)) (eLst aNil))) sNil)
    (sSeq (sSet 4 (eLst aNil))
    (sSeq (sFor (iEnM (eCall (call ._law_kids) (aCons (escf (eVar 0)) aNil))) (kTup 2 (ksCons (kName 5) (ksCons (kName 6) ksNil))) (sSet 4 (eBin dAdd (eVar 4) (eCall (call ._law_spots) (aCons (escf (eVar 6)) (aCons (escf (eVar 1)) (aCons (escf (eBin dAdd (eVar 2) (eFn fInt (aCons (opd (eBin dIn (eBin dIx (eVar 0) (eC (.int 0))) (eTup (aCons (escf (eC (.str "all"))) (aCons (escf (eC (.str "some"))) aNil))))) aNil)))) (aCons (escf (eBin dAdd (eVar 3) (eTup (aCons (escf (eVar 5)) aNil)))) aNil))))))))
    (sRet (eVar 4)))))
def m__law_filled (call : Fn → List S → Int → Rs S Int) : Sm M2 Out :=
    (sSeq (sIf (tOf (eBin dEq (eBin dIx (eVar 0) (eC (.int 0))) (eC (.str "var")))) (sSeq (sIf (tOf (eChain dLe dLt (eVar 3) (eBin dIx (eVar 0) (eC (.int 1))) (eBin dAdd (eVar 3) (eVar 1)))) (sRet (eCall (call ._law_put) (aCons (escf (eTup (aCons (escf (eC (.str "raise"))) (aCons (escf (eVar 3)) aNil)))) (aCons (escf (eBin dIx (eVar 2) (eBin dSub (eBin dIx (eVar 0) (eC (.int 1))) (eVar 3)))) (aCons (escf (eC (.int 0))) aNil))))) sNil)
    (sRet (eTup (aCons (escf (eC (.str "var"))) (aCons (escf (eIf (tOf (eBin dGe (eBin dIx (eVar 0) (eC (.int 1))) (eVar 3))) (eBin dSub (eBin dIx (eVar 0) (eC (.int 1))) (eVar 1)) (eBin dIx (eVar 0) (eC (.int 1))))) aNil))))) sNil)
    (sSeq (sIf (tOf (eBin dIn (eBin dIx (eVar 0) (eC (.int 0))) (eTup (aCons (escf (eC (.str "all"))) (aCons (escf (eC (.str "some"))) aNil))))) (sRet (eBin dAdd (eSl dSl (eVar 0) (fun z => .ok none z) (oInt (eC (.int 2)))) (eTup (aCons (escf (eCall (call ._law_filled) (aCons (escf (eBin dIx (eVar 0) (eC (.int 2)))) (aCons (escf (eVar 1)) (aCons (escf (eVar 2)) (aCons (escf (eBin dAdd (eVar 3) (eC (.int 1)))) aNil)))))) aNil)))) sNil)
    (sSeq (sIf (tOf (eBin dIn (eBin dIx (eVar 0) (eC (.int 0))) (eTup (aCons (escf (eC (.str "call"))) (aCons (escf (eC (.str "rel"))) aNil))))) (sRet (eBin dAdd (eSl dSl (eVar 0) (fun z => .ok none z) (oInt (eC (.int 2)))) (eTup (aCons (escf (eFn fTuple (aCons (opd (eLc (iAnyM (eBin dIx (eVar 0) (eC (.int 2)))) (kName 4) (fun z => .ok true z) (eCall (call ._law_filled) (aCons (escf (eVar 4)) (aCons (escf (eVar 1)) (aCons (escf (eVar 2)) (aCons (escf (eVar 3)) aNil))))) [4])) aNil))) aNil)))) sNil)
    (sRet (eBin dAdd (eSl dSl (eVar 0) (fun z => .ok none z) (oInt (eC (.int 1)))) (eFn fTuple (aCons (opd (eLc (iAnyM (eSl dSl (eVar 0) (oInt (eC (.int 1))) (fun z => .ok none z))) (kName 4) (fun z => .ok true z) (eCall (call ._law_filled) (aCons (escf (eVar 4)) (aCons (escf (eVar 1)) (aCons (escf (eVar 2)) (aCons (escf (eVar 3)) aNil))))) [4])) aNil)))))))
def m__law_told_by (call : Fn → List S → Int → Rs S Int) : Sm M2 Out :=
    (sSeq (sSet 2 (eC .non))
    (sSeq (sSet 3 (eC .non))
    (sSeq (sCatch 4 2 (tb1 "TooMany" true) (sSet 3 (eCall (call .put_all) (aCons (escf (eVar 0)) (aCons (escf (eVar 1)) aNil)))))
    (sSeq (sIf (tOf (eBin dIs (eVar 2) (eC .non))) (sRet (eVar 3)) sNil)
    (sSeq (sSet 5 (eUn (dIsX (tb1 "TooMany" false)) (eVar 2)))
    (sSeq (sSet 6 (eAndM (eUn (dIsX (tb1 "TooMany" true)) (eVar 2)) (eAndM (eUn (dIsX (tb1 "TooMany" true)) (eVar 2)) (eNotM (eVar 5)))))
    (sRet (eIf (tTru dTru (eVar 6)) (eC (.str "many")) (eC (.str "other"))))))))))
def m__law_tower (call : Fn → List S → Int → Rs S Int) : Sm M2 Out :=
    (sSeq (sSet 3 (eTup (aCons (escf (eC (.str "var"))) (aCons (escf (eC (.int 0))) aNil))))
    (sSeq (sFor (iRg1M (aCons (opd (eBin dSub (eVar 2) (eC (.int 1)))) aNil)) (kName 4) (sIf (tOf (eBin dLt (eVar 4) (eBin dSub (eVar 1) (eVar 2)))) (sSet 3 (eTup (aCons (escf (eC (.str "call"))) (aCons (escf (eBin dIx (eBin dIx (eVar 0) (eC (.int 4))) (eC (.int 1)))) (aCons (escf (eTup (aCons (escf (eVar 3)) (aCons (escf (eTup (aCons (escf (eC (.str "call"))) (aCons (escf (eBin dIx (eBin dIx (eBin dIx (eVar 0) (eC (.int 1))) (eC (.int 2))) (eC (.int 0)))) (aCons (escf (eTup aNil)) aNil))))) aNil)))) aNil))))) (sSet 3 (eTup (aCons (escf (eC (.str "call"))) (aCons (escf (eBin dIx (eBin dIx (eVar 0) (eC (.int 3))) (eC (.int 1)))) (aCons (escf (eTup (aCons (escf (eVar 3)) aNil))) aNil)))))))
    (sRet (eVar 3))))
def m__law_great_right (call : Fn → List S → Int → Rs S Int) : Sm M2 Out :=
    (sSeq (sSet 2 (eTup (aCons (escf (eC (.str "rel"))) (aCons (escf (eBin dIx (eBin dIx (eVar 0) (eC (.int 5))) (eC (.int 1)))) (aCons (escf (eTup (aCons (escf (eTup (aCons (escf (eC (.str "var"))) (aCons (escf (eC (.int 0))) aNil)))) aNil))) aNil)))))
    (sSeq (sFor (iRg1M (aCons (opd (eC (.int 5))) aNil)) (kName 3) (sSet 2 (eTup (aCons (escf (eC (.str "and"))) (aCons (escf (eVar 2)) (aCons (escf (eVar 2)) aNil))))))
    (sSeq (sSet 4 (eLst (aCons (escf (eVar 2)) (aCons (escf (eTup (aCons (escf (eC (.str "all"))) (aCons (escf (eBin dIx (eBin dIx (eVar 0) (eC (.int 0))) (eC (.int 1)))) (aCons (escf (eCall (call ._law_put) (aCons (escf (eTup (aCons (escf (eC (.str "raise"))) (aCons (escf (eC (.int 1))) aNil)))) (aCons (escf (eVar 2)) (aCons (escf (eC (.int 0))) aNil))))) aNil))))) (aCons (escf (eTup (aCons (escf (eC (.str "and"))) (aCons (escf (eVar 2)) (aCons (escf (eTup (aCons (escf (eC (.str "no"))) aNil))) aNil))))) aNil)))))
    (sSeq (sSet 5 (eLst (aCons (escf (eC (.int 3999))) (aCons (escf (eC (.int 4000))) (aCons (escf (eC (.int 4001))) aNil)))))
    (sSeq (sFor (iRg1M (aCons (opd (eC (.int 3))) aNil)) (kName 6) (sSeq (sSet 7 (eTup (aCons (escf (eCall (call ._law_tower) (aCons (escf (eVar 0)) (aCons (escf (eC (.int 123))) (aCons (escf (eC (.int 62))) aNil))))) aNil)))
    (sSeq (sSet 8 (eCall (call ._law_told_by) (aCons (escf (eBin dIx (eVar 4) (eVar 6))) (aCons (escf (eVar 7)) aNil))))
    (sIf (tOf (eBin dNe (eVar 8) (eIf (tOf (eBin dLt (eBin dIx (eVar 5) (eVar 6)) (eC (.int 4001)))) (eCall (call ._law_filled) (aCons (escf (eBin dIx (eVar 4) (eVar 6))) (aCons (escf (eC (.int 1))) (aCons (escf (eVar 7)) (aCons (escf (eC (.int 0))) aNil))))) (eC (.str "many"))))) (sRet (eC (.bl false))) sNil))))
    (sSeq (sSet 9 (eBin dAdd (eC (.int 110)) (eBin dMod (eVar 1) (eC (.int 10)))))
    (sSeq (sFor (iAnyM (eTup (aCons (escf (eBin dSub (eC (.int 119)) (eVar 9))) (aCons (escf (eBin dSub (eC (.int 120)) (eVar 9))) (aCons (escf (eBin dSub (eC (.int 121)) (eVar 9))) aNil))))) (kName 10) (sSeq (sSet 7 (eTup (aCons (escf (eCall (call ._law_tower) (aCons (escf (eVar 0)) (aCons (escf (eVar 9)) (aCons (escf (eVar 9)) aNil))))) aNil)))
    (sSeq (sSet 11 (eCall (call ._law_tower) (aCons (escf (eVar 0)) (aCons (escf (eBin dAdd (eVar 10) (eC (.int 1)))) (aCons (escf (eBin dAdd (eVar 10) (eC (.int 1)))) aNil)))))
    (sSeq (sSet 8 (eCall (call ._law_told_by) (aCons (escf (eVar 11)) (aCons (escf (eVar 7)) aNil))))
    (sIf (tOf (eBin dNe (eVar 8) (eIf (tOf (eBin dLt (eBin dAdd (eVar 10) (eVar 9)) (eC (.int 121)))) (eCall (call ._law_filled) (aCons (escf (eVar 11)) (aCons (escf (eC (.int 1))) (aCons (escf (eVar 7)) (aCons (escf (eC (.int 0))) aNil))))) (eC (.str "many"))))) (sRet (eC (.bl false))) sNil)))))
    (sRet (eC (.bl true))))))))))
def m_law_pre : Sm M0 Out :=
    (sSet 1 (eLc (iAnyM (eVar 0)) (kName 13) (fun z => .ok true z) (eVar 13) [13]))
def m_law (call : Fn → List S → Int → Rs S Int) : Sm M2 Out :=
    (sSeq (sSet 3 (eCall (call ._law_entries) (aCons (escf (eCall (call ._law_cell) (aCons (escf (eVar 1)) (aCons (escf (eVar 2)) aNil)))) aNil)))
    (sSeq (sFor (iRg1M (aCons (opd (eFn fMax (aCons (opd (eC (.int 4))) (aCons (opd (eFn fMin (aCons (opd (eC (.int 40))) (aCons (opd (eFn fLen (aCons (opd (eVar 1)) aNil))) aNil)))) aNil)))) aNil)) (kName 4) (sSeq (sSet 5 (eCall (call ._law_cell) (aCons (escf (eVar 1)) (aCons (escf (eVar 2)) aNil))))
    (sSeq (sSet 6 (eFn fTuple (aCons (opd (eLc (iRg1M (aCons (opd (eBin dMod (eVar 5) (eC (.int 4)))) aNil)) (kName 17) (fun z => .ok true z) (eBin dIx (eBin dIx (eVar 3) (eBin dBand (eBin dShr (eBin dFdiv (eVar 5) (eC (.int 4))) (eVar 17)) (eC (.int 1)))) (eC (.int 1))) [17])) aNil)))
    (sSeq (sSet 7 (eFn fTuple (aCons (opd (eLc (iRg1M (aCons (opd (eBin dMod (eBin dFdiv (eVar 5) (eC (.int 128))) (eC (.int 3)))) aNil)) (kName 17) (fun z => .ok true z) (eBin dIx (eBin dIx (eVar 3) (eBin dBand (eBin dShr (eBin dFdiv (eVar 5) (eC (.int 32))) (eVar 17)) (eC (.int 1)))) (eC (.int 1))) [17])) aNil)))
    (sSeq (sSet 8 (eCall (call ._law_any_statement) (aCons (escf (eVar 3)) (aCons (escf (eVar 1)) (aCons (escf (eVar 2)) (aCons (escf (eBin dAdd (eVar 6) (eVar 7))) (aCons (escf (eBin dMod (eBin dFdiv (eVar 5) (eC (.int 384))) (eC (.int 4)))) aNil)))))))
    (sSeq (sIf (tOf (eBin dEq (eBin dMod (eBin dFdiv (eVar 5) (eC (.int 1536))) (eC (.int 3))) (eC (.int 0)))) (sSet 8 (eCall (call ._law_any_term) (aCons (escf (eVar 3)) (aCons (escf (eVar 1)) (aCons (escf (eVar 2)) (aCons (escf (eBin dAdd (eVar 6) (eVar 7))) (aCons (escf (eBin dIx (eBin dIx (eVar 3) (eC (.int 0))) (eC (.int 1)))) (aCons (escf (eC (.int 4))) aNil)))))))) sNil)
    (sSeq (sSet 9 (eLc (iAnyM (eCall (call ._law_spots) (aCons (escf (eVar 8)) (aCons (escf (eFn fLen (aCons (opd (eVar 6)) aNil))) (aCons (escf (eC (.int 0))) (aCons (escf (eTup aNil)) aNil)))))) (kTup 3 (ksCons (kName 14) (ksCons (kName 15) (ksCons (kName 16) ksNil)))) (fun z => .ok true z) (eVar 14) [14, 15, 16]))
    (sSeq (sSet 10 (eFn fTuple (aCons (opd (eLc (iAnyM (eVar 6)) (kName 18) (fun z => .ok true z) (eCall (call ._law_any_term) (aCons (escf (eVar 3)) (aCons (escf (eVar 1)) (aCons (escf (eVar 2)) (aCons (escf (eVar 7)) (aCons (escf (eVar 18)) (aCons (escf (eC (.int 2))) aNil))))))) [18])) aNil)))
    (sSeq (sSet 11 (eFn fTuple (aCons (opd (eLc (iEnM (eVar 10)) (kTup 2 (ksCons (kName 14) (ksCons (kName 19) ksNil))) (fun z => .ok true z) (eIf (tOf (eBin dIn (eVar 14) (eVar 9))) (eVar 19) (eC .non)) [14, 19])) aNil)))
    (sSeq (sSet 12 (eCall (call ._law_filled) (aCons (escf (eVar 8)) (aCons (escf (eFn fLen (aCons (opd (eVar 6)) aNil))) (aCons (escf (eVar 10)) (aCons (escf (eC (.int 0))) aNil))))))
    (sIf (tOrM (tOf (eBin dNe (eCall (call ._law_told_by) (aCons (escf (eVar 8)) (aCons (escf (eVar 10)) aNil))) (eVar 12))) (tOf (eBin dNe (eCall (call ._law_told_by) (aCons (escf (eVar 8)) (aCons (escf (eVar 11)) aNil))) (eVar 12)))) (sRet (eC (.bl false))) sNil)))))))))))
    (sRet (eCall (call ._law_great_right) (aCons (escf (eVar 3)) (aCons (escf (eCall (call ._law_cell) (aCons (escf (eVar 1)) (aCons (escf (eVar 2)) aNil)))) aNil))))))
def mir : Nat → Fn → List S → Int → Rs S Int
  | 0, _ => fun _ _ => .bad
  | n + 1, .within => fnM 1 (m_within (mir n))
  | n + 1, .parts_of => fnM 3 (m_parts_of (mir n))
  | n + 1, .deep_of => fnM 6 (m_deep_of (mir n))
  | n + 1, .lifted => fnM 5 (m_lifted (mir n))
  | n + 1, .term_for => fnM 2 (m_term_for (mir n))
  | n + 1, .need_fit => fnM 12 (m_need_fit (mir n))
  | n + 1, .put => fnM 6 (m_put (mir n))
  | n + 1, .put_in => fnM 2 (m_put_in (mir n))
  | n + 1, .put_all => fnM 3 (m_put_all (mir n))
  | n + 1, ._law_cell => fnM 6 (m__law_cell (mir n))
  | n + 1, ._law_entries => fnM 10 (m__law_entries (mir n))
  | n + 1, ._law_put => fnM 5 (m__law_put (mir n))
  | n + 1, ._law_any_term => fnM 11 (m__law_any_term (mir n))
  | n + 1, ._law_any_statement => fnM 11 (m__law_any_statement (mir n))
  | n + 1, ._law_kids => fnM 2 (m__law_kids (mir n))
  | n + 1, ._law_spots => fnM 7 (m__law_spots (mir n))
  | n + 1, ._law_filled => fnM 5 (m__law_filled (mir n))
  | n + 1, ._law_told_by => fnM 7 (m__law_told_by (mir n))
  | n + 1, ._law_tower => fnM 5 (m__law_tower (mir n))
  | n + 1, ._law_great_right => fnM 12 (m__law_great_right (mir n))
end L
namespace L
open PySem L2 G
theorem sc_within : FnScope ["thing"] ["thing"] (defScope s_within) := ⟨rfl, rfl, rfl, by decide +kernel, rfl, by decide +kernel, by decide +kernel⟩
theorem sc_parts_of : FnScope ["thing", "found", "waiting"] ["thing"] (defScope s_parts_of) := ⟨rfl, rfl, rfl, by decide +kernel, rfl, by decide +kernel, by decide +kernel⟩
theorem sc_deep_of : FnScope ["thing", "found", "waiting", "one", "deep", "part"] ["thing"] (defScope s_deep_of) := ⟨rfl, rfl, rfl, by decide +kernel, rfl, by decide +kernel, by decide +kernel⟩
theorem sc_lifted : FnScope ["thing", "many", "above", "word", "one"] ["thing", "many", "above"] (defScope s_lifted) := ⟨rfl, rfl, rfl, by decide +kernel, rfl, by decide +kernel, by decide +kernel⟩
theorem sc_term_for : FnScope ["terms", "number"] ["terms", "number"] (defScope s_term_for) := ⟨rfl, rfl, rfl, by decide +kernel, rfl, by decide +kernel, by decide +kernel⟩
theorem sc_need_fit : FnScope ["thing", "terms", "sizes", "many", "waiting", "one", "bound", "deep", "size", "more", "term", "part"] ["thing", "terms"] (defScope s_need_fit) := ⟨rfl, rfl, rfl, by decide +kernel, rfl, by decide +kernel, by decide +kernel⟩
theorem sc_put : FnScope ["thing", "terms", "bound", "word", "found", "one"] ["thing", "terms", "bound"] (defScope s_put) := ⟨rfl, rfl, rfl, by decide +kernel, rfl, by decide +kernel, by decide +kernel⟩
theorem sc_put_in : FnScope ["thing", "terms"] ["thing", "terms"] (defScope s_put_in) := ⟨rfl, rfl, rfl, by decide +kernel, rfl, by decide +kernel, by decide +kernel⟩
theorem sc_put_all : FnScope ["pattern", "terms", "term"] ["pattern", "terms"] (defScope s_put_all) := ⟨rfl, rfl, rfl, by decide +kernel, rfl, by decide +kernel, by decide +kernel⟩
theorem sc__law_cell : FnScope ["_law_cells", "_law_spot", "_law_k", "_law_base", "_law_own", "_law_turn"] ["_law_cells", "_law_spot"] (defScope s__law_cell) := ⟨rfl, rfl, rfl, by decide +kernel, rfl, by decide +kernel, by decide +kernel⟩
theorem sc__law_entries : FnScope ["_law_n", "_law_e", "_law_s", "_law_m", "_law_c", "_law_x", "_law_y", "_law_names", "_law_rows", "_law_sign"] ["_law_n"] (defScope s__law_entries) := ⟨rfl, rfl, rfl, by decide +kernel, rfl, by decide +kernel, by decide +kernel⟩
theorem sc__law_put : FnScope ["_law_mode", "_law_thing", "_law_v", "_law_k", "_law_one"] ["_law_mode", "_law_thing", "_law_v"] (defScope s__law_put) := ⟨rfl, rfl, rfl, by decide +kernel, rfl, by decide +kernel, by decide +kernel⟩
theorem sc__law_any_term : FnScope ["_law_room", "_law_cells", "_law_spot", "_law_around", "_law_sort", "_law_deep", "_law_n", "_law_some", "_law_one", "_law_k", "_law_name"] ["_law_room", "_law_cells", "_law_spot", "_law_around", "_law_sort", "_law_deep"] (defScope s__law_any_term) := ⟨rfl, rfl, rfl, by decide +kernel, rfl, by decide +kernel, by decide +kernel⟩
theorem sc__law_any_statement : FnScope ["_law_room", "_law_cells", "_law_spot", "_law_around", "_law_deep", "_law_n", "_law_way", "_law_one", "_law_sort", "_law_pair", "_law_k"] ["_law_room", "_law_cells", "_law_spot", "_law_around", "_law_deep"] (defScope s__law_any_statement) := ⟨rfl, rfl, rfl, by decide +kernel, rfl, by decide +kernel, by decide +kernel⟩
theorem sc__law_kids : FnScope ["_law_thing", "_law_one"] ["_law_thing"] (defScope s__law_kids) := ⟨rfl, rfl, rfl, by decide +kernel, rfl, by decide +kernel, by decide +kernel⟩
theorem sc__law_spots : FnScope ["_law_pattern", "_law_many", "_law_v", "_law_way", "_law_found", "_law_at", "_law_one"] ["_law_pattern", "_law_many", "_law_v", "_law_way"] (defScope s__law_spots) := ⟨rfl, rfl, rfl, by decide +kernel, rfl, by decide +kernel, by decide +kernel⟩
theorem sc__law_filled : FnScope ["_law_pattern", "_law_many", "_law_terms", "_law_v", "_law_one"] ["_law_pattern", "_law_many", "_law_terms", "_law_v"] (defScope s__law_filled) := ⟨rfl, rfl, rfl, by decide +kernel, rfl, by decide +kernel, by decide +kernel⟩
theorem sc__law_told_by : FnScope ["_law_pattern", "_law_terms", "_law_refusal", "_law_found", "_law_e", "_law_others", "_law_is_alone"] ["_law_pattern", "_law_terms"] (defScope s__law_told_by) := ⟨rfl, rfl, rfl, by decide +kernel, rfl, by decide +kernel, by decide +kernel⟩
theorem sc__law_tower : FnScope ["_law_room", "_law_many", "_law_deep", "_law_found", "_law_turn"] ["_law_room", "_law_many", "_law_deep"] (defScope s__law_tower) := ⟨rfl, rfl, rfl, by decide +kernel, rfl, by decide +kernel, by decide +kernel⟩
theorem sc__law_great_right : FnScope ["_law_room", "_law_n", "_law_one", "_law_turn", "_law_made", "_law_due", "_law_at", "_law_terms", "_law_found", "_law_deep", "_law_more", "_law_tower_here"] ["_law_room", "_law_n"] (defScope s__law_great_right) := ⟨rfl, rfl, rfl, by decide +kernel, rfl, by decide +kernel, by decide +kernel⟩
theorem sc_law : FnScope ["_law_script", "_law_cells", "_law_spot", "_law_room", "_law_turn", "_law_n", "_law_opens", "_law_around", "_law_pattern", "_law_there", "_law_terms", "_law_some", "_law_due", "_law_one", "_law_place", "_law_way", "_law_v", "_law_k", "_law_sort", "_law_term"] ["_law_script"] (defScope s_law) := ⟨rfl, rfl, rfl, by decide +kernel, rfl, by decide +kernel, by decide +kernel⟩
/-- what the top has written -/
structure Tt (K : PySem.W.Frag) (mg : Str → Option Value) (C_BadGround C_BadRoom C_BadText C_GroundError C_NoStep C_NoText C_NotDone C_TooMany : Addr) : Prop where
  within : FnIn K mg "within" s_within ["thing"] []
  parts_of : FnIn K mg "parts_of" s_parts_of ["thing"] []
  deep_of : FnIn K mg "deep_of" s_deep_of ["thing"] []
  lifted : FnIn K mg "lifted" s_lifted ["thing", "many", "above"] [V.int 0]
  term_for : FnIn K mg "term_for" s_term_for ["terms", "number"] []
  need_fit : FnIn K mg "need_fit" s_need_fit ["thing", "terms"] []
  put : FnIn K mg "put" s_put ["thing", "terms", "bound"] []
  put_in : FnIn K mg "put_in" s_put_in ["thing", "terms"] []
  put_all : FnIn K mg "put_all" s_put_all ["pattern", "terms"] []
  _law_cell : FnIn K mg "_law_cell" s__law_cell ["_law_cells", "_law_spot"] []
  _law_entries : FnIn K mg "_law_entries" s__law_entries ["_law_n"] []
  _law_put : FnIn K mg "_law_put" s__law_put ["_law_mode", "_law_thing", "_law_v"] []
  _law_any_term : FnIn K mg "_law_any_term" s__law_any_term ["_law_room", "_law_cells", "_law_spot", "_law_around", "_law_sort", "_law_deep"] []
  _law_any_statement : FnIn K mg "_law_any_statement" s__law_any_statement ["_law_room", "_law_cells", "_law_spot", "_law_around", "_law_deep"] []
  _law_kids : FnIn K mg "_law_kids" s__law_kids ["_law_thing"] []
  _law_spots : FnIn K mg "_law_spots" s__law_spots ["_law_pattern", "_law_many", "_law_v", "_law_way"] []
  _law_filled : FnIn K mg "_law_filled" s__law_filled ["_law_pattern", "_law_many", "_law_terms", "_law_v"] []
  _law_told_by : FnIn K mg "_law_told_by" s__law_told_by ["_law_pattern", "_law_terms"] []
  _law_tower : FnIn K mg "_law_tower" s__law_tower ["_law_room", "_law_many", "_law_deep"] []
  _law_great_right : FnIn K mg "_law_great_right" s__law_great_right ["_law_room", "_law_n"] []
  b_ValueError : mg "ValueError" = none
  b_enumerate : mg "enumerate" = none
  b_int : mg "int" = none
  b_isinstance : mg "isinstance" = none
  b_len : mg "len" = none
  b_list : mg "list" = none
  b_max : mg "max" = none
  b_min : mg "min" = none
  b_range : mg "range" = none
  b_tuple : mg "tuple" = none
  c_BOUND : GlD K mg "BOUND" c_BOUND
  c_CALLED : GlD K mg "CALLED" c_CALLED
  c_JOINED : GlD K mg "JOINED" c_JOINED
  c_MOST_FOUND : GlD K mg "MOST_FOUND" c_MOST_FOUND
  c_MOST_FOUND_DEEP : GlD K mg "MOST_FOUND_DEEP" c_MOST_FOUND_DEEP
  g_BadGround : mg "BadGround" = some (.ref C_BadGround)
  g_BadRoom : mg "BadRoom" = some (.ref C_BadRoom)
  g_BadText : mg "BadText" = some (.ref C_BadText)
  g_GroundError : mg "GroundError" = some (.ref C_GroundError)
  g_NoStep : mg "NoStep" = some (.ref C_NoStep)
  g_NoText : mg "NoText" = some (.ref C_NoText)
  g_NotDone : mg "NotDone" = some (.ref C_NotDone)
  g_TooMany : mg "TooMany" = some (.ref C_TooMany)
  x_TooMany : XF K mg "TooMany" C_TooMany
  ec_TooMany : ExcC K C_TooMany
  e_GroundError_TooMany : PySem.W.exmOne K (.ref C_TooMany) (.ref C_GroundError) = some true
  k_BadGround_BadRoom_BadText_NoStep_NoText_NotDone_TooMany : PySem.W.kitAny K (.ref C_TooMany) [.ref C_BadGround, .ref C_BadRoom, .ref C_BadText, .ref C_NoStep, .ref C_NoText, .ref C_NotDone] = some false
  k_TooMany_TooMany : PySem.W.kitOne K (.ref C_TooMany) (.ref C_TooMany) = some true
  k_ValueError_TooMany : PySem.W.kitOne K (.ref C_TooMany) (.type "ValueError") = some true
structure Tx (P : Program) (w : World) (K : PySem.W.Frag) (mg : Str → Option Value) (base : Heap) (n : Nat) : Prop where
  within : FnAt M2 P w K mg base (xrK K) n "within" ["thing"] [] (mir n .within)
  parts_of : FnAt M2 P w K mg base (xrK K) n "parts_of" ["thing"] [] (mir n .parts_of)
  deep_of : FnAt M2 P w K mg base (xrK K) n "deep_of" ["thing"] [] (mir n .deep_of)
  lifted : FnAt M2 P w K mg base (xrK K) n "lifted" ["thing", "many", "above"] [V.int 0] (mir n .lifted)
  term_for : FnAt M2 P w K mg base (xrK K) n "term_for" ["terms", "number"] [] (mir n .term_for)
  need_fit : FnAt M2 P w K mg base (xrK K) n "need_fit" ["thing", "terms"] [] (mir n .need_fit)
  put : FnAt M2 P w K mg base (xrK K) n "put" ["thing", "terms", "bound"] [] (mir n .put)
  put_in : FnAt M2 P w K mg base (xrK K) n "put_in" ["thing", "terms"] [] (mir n .put_in)
  put_all : FnAt M2 P w K mg base (xrK K) n "put_all" ["pattern", "terms"] [] (mir n .put_all)
  _law_cell : FnAt M2 P w K mg base (xrK K) n "_law_cell" ["_law_cells", "_law_spot"] [] (mir n ._law_cell)
  _law_entries : FnAt M2 P w K mg base (xrK K) n "_law_entries" ["_law_n"] [] (mir n ._law_entries)
  _law_put : FnAt M2 P w K mg base (xrK K) n "_law_put" ["_law_mode", "_law_thing", "_law_v"] [] (mir n ._law_put)
  _law_any_term : FnAt M2 P w K mg base (xrK K) n "_law_any_term" ["_law_room", "_law_cells", "_law_spot", "_law_around", "_law_sort", "_law_deep"] [] (mir n ._law_any_term)
  _law_any_statement : FnAt M2 P w K mg base (xrK K) n "_law_any_statement" ["_law_room", "_law_cells", "_law_spot", "_law_around", "_law_deep"] [] (mir n ._law_any_statement)
  _law_kids : FnAt M2 P w K mg base (xrK K) n "_law_kids" ["_law_thing"] [] (mir n ._law_kids)
  _law_spots : FnAt M2 P w K mg base (xrK K) n "_law_spots" ["_law_pattern", "_law_many", "_law_v", "_law_way"] [] (mir n ._law_spots)
  _law_filled : FnAt M2 P w K mg base (xrK K) n "_law_filled" ["_law_pattern", "_law_many", "_law_terms", "_law_v"] [] (mir n ._law_filled)
  _law_told_by : FnAt M2 P w K mg base (xrK K) n "_law_told_by" ["_law_pattern", "_law_terms"] [] (mir n ._law_told_by)
  _law_tower : FnAt M2 P w K mg base (xrK K) n "_law_tower" ["_law_room", "_law_many", "_law_deep"] [] (mir n ._law_tower)
  _law_great_right : FnAt M2 P w K mg base (xrK K) n "_law_great_right" ["_law_room", "_law_n"] [] (mir n ._law_great_right)
section
variable {P : Program} {w : World} {K : PySem.W.Frag} {mg : Str → Option Value} {base : Heap} {n : Nat} {C_BadGround C_BadRoom C_BadText C_GroundError C_NoStep C_NoText C_NotDone C_TooMany : Addr}
theorem d_within (T : Tt K mg C_BadGround C_BadRoom C_BadText C_GroundError C_NoStep C_NoText C_NotDone C_TooMany) (H : Tx P w K mg base n) : FnAt M2 P w K mg base (xrK K) (n + 1) "within" ["thing"] [] (fnM 1 (m_within (mir n))) := by
  refine fnAt_succ T.within sc_within (fun f cdv A outer s Hp E hr hgu => ?_)
  have p := pc_def (P := P) (w := w) (K := K) (mg := mg) (base := base) (outer := outer) (H := Hp) (E := E) sc_within hr hgu
  exact (dss_cons (ds_if (Cp.dt (cp_in p.toPl) (de_ixA p.toPl (de_var 0) de_int) (de_const p.toPl T.c_CALLED) rfl) (dss_one (ds_ret (Fb.de (fb_list p.toPl) p.toPl T.b_list (da_rd (de_ixA p.toPl (de_var 0) de_int) da_nil)))) dss_nil)
    (dss_cons (ds_if (Cp.dt (cp_in p.toPl) (de_ixA p.toPl (de_var 0) de_int) (de_const p.toPl T.c_JOINED) rfl) (dss_one (ds_ret (Fb.de (fb_list p.toPl) p.toPl T.b_list (da_rd (de_sl p.toPl (de_var 0) (do_some de_int) do_none) da_nil)))) dss_nil)
    (dss_one (ds_ret (de_if (Cp.dt (cp_in p.toPl) (de_ixA p.toPl (de_var 0) de_int) (de_const p.toPl T.c_BOUND) rfl) (de_lst (da_es (de_ixA p.toPl (de_var 0) de_int) da_nil)) (de_lst da_nil))))))
theorem d_parts_of (T : Tt K mg C_BadGround C_BadRoom C_BadText C_GroundError C_NoStep C_NoText C_NotDone C_TooMany) (H : Tx P w K mg base n) : FnAt M2 P w K mg base (xrK K) (n + 1) "parts_of" ["thing"] [] (fnM 3 (m_parts_of (mir n))) := by
  refine fnAt_succ T.parts_of sc_parts_of (fun f cdv A outer s Hp E hr hgu => ?_)
  have p := pc_def (P := P) (w := w) (K := K) (mg := mg) (base := base) (outer := outer) (H := Hp) (E := E) sc_parts_of hr hgu
  exact (dss_cons (ds_set (i := 1) p.toPl.nds (fun _ => rfl) (fun _ => by first | exact Or.inl rfl | exact Or.inr rfl) de_int)
    (dss_cons (ds_set (i := 2) p.toPl.nds (fun _ => rfl) (fun _ => by first | exact Or.inl rfl | exact Or.inr rfl) (de_lst (da_es (de_var 0) da_nil)))
    (dss_cons (ds_while whileN own_def (Cp.dt (cp_ne p.toPl) (de_var 2) (de_lst da_nil) (nomark _)) (dss_cons (ds_set (i := 1) p.toPl.nds (fun _ => rfl) (fun _ => by first | exact Or.inl rfl | exact Or.inr rfl) (de_add p.toPl (de_var 1) de_int))
    (dss_one (ds_expr (de_extend (i := 2) p.k (fun _ => rfl) (fun _ => by first | exact Or.inl rfl | exact Or.inr (Or.inl rfl) | exact Or.inr (Or.inr rfl)) (by decide) (by decide) (de_fn p H.within (da_es (de_pop (i := 2) p.k (fun _ => rfl) (fun _ => by first | exact Or.inl rfl | exact Or.inr (Or.inl rfl) | exact Or.inr (Or.inr rfl)) (by decide) (by decide)) da_nil) (len_cons (fun _ _ _ h => len_nil h))))))))
    (dss_one (ds_ret (de_var 1))))))
theorem d_deep_of (T : Tt K mg C_BadGround C_BadRoom C_BadText C_GroundError C_NoStep C_NoText C_NotDone C_TooMany) (H : Tx P w K mg base n) : FnAt M2 P w K mg base (xrK K) (n + 1) "deep_of" ["thing"] [] (fnM 6 (m_deep_of (mir n))) := by
  refine fnAt_succ T.deep_of sc_deep_of (fun f cdv A outer s Hp E hr hgu => ?_)
  have p := pc_def (P := P) (w := w) (K := K) (mg := mg) (base := base) (outer := outer) (H := Hp) (E := E) sc_deep_of hr hgu
  exact (dss_cons (ds_set (i := 1) p.toPl.nds (fun _ => rfl) (fun _ => by first | exact Or.inl rfl | exact Or.inr rfl) de_int)
    (dss_cons (ds_set (i := 2) p.toPl.nds (fun _ => rfl) (fun _ => by first | exact Or.inl rfl | exact Or.inr rfl) (de_lst (da_es (de_tup (da_es (de_var 0) (da_es de_int da_nil))) da_nil)))
    (dss_cons (ds_while whileN own_def (Cp.dt (cp_ne p.toPl) (de_var 2) (de_lst da_nil) (nomark _)) (dss_cons (ds_asg (de_pop (i := 2) p.k (fun _ => rfl) (fun _ => by first | exact Or.inl rfl | exact Or.inr (Or.inl rfl) | exact Or.inr (Or.inr rfl)) (by decide) (by decide)) (dg_tup p.k p.c (dgs_cons (dg_name p.toPl.nds (fun _ => rfl) (fun _ => by first | exact Or.inl rfl | exact Or.inr rfl)) (dgs_cons (dg_name p.toPl.nds (fun _ => rfl) (fun _ => by first | exact Or.inl rfl | exact Or.inr rfl)) dgs_nil))))
    (dss_cons (ds_set (i := 1) p.toPl.nds (fun _ => rfl) (fun _ => by first | exact Or.inl rfl | exact Or.inr rfl) (Fb.de (fb_max p.toPl) p.toPl T.b_max (da_rd (de_var 1) (da_rd (de_var 4) da_nil))))
    (dss_one (ds_expr (de_extend (i := 2) p.k (fun _ => rfl) (fun _ => by first | exact Or.inl rfl | exact Or.inr (Or.inl rfl) | exact Or.inr (Or.inr rfl)) (by decide) (by decide) (de_lc (own := [("part", 5)]) p.c p.toPl.nds (fun _ => blkOk_by (N := ["thing", "found", "waiting", "one", "deep", "part"]) (sc := defScope s_deep_of) (by decide +kernel)) (di_any p.toPl (de_fn p H.within (da_es (de_var 3) da_nil) (len_cons (fun _ _ _ h => len_nil h)))) (dg_name (p.blk _).toPl.nds (fun _ => rfl) (fun _ => by first | exact Or.inl rfl | exact Or.inr rfl)) dts_nil (de_tup (da_es (de_var 5) (da_es (de_add (p.blk _).toPl (de_var 4) de_int) da_nil))))))))))
    (dss_one (ds_ret (de_var 1))))))
theorem d_lifted (T : Tt K mg C_BadGround C_BadRoom C_BadText C_GroundError C_NoStep C_NoText C_NotDone C_TooMany) (H : Tx P w K mg base n) : FnAt M2 P w K mg base (xrK K) (n + 1) "lifted" ["thing", "many", "above"] [V.int 0] (fnM 5 (m_lifted (mir n))) := by
  refine fnAt_succ T.lifted sc_lifted (fun f cdv A outer s Hp E hr hgu => ?_)
  have p := pc_def (P := P) (w := w) (K := K) (mg := mg) (base := base) (outer := outer) (H := Hp) (E := E) sc_lifted hr hgu
  exact (dss_cons (ds_set (i := 3) p.toPl.nds (fun _ => rfl) (fun _ => by first | exact Or.inl rfl | exact Or.inr rfl) (de_ixA p.toPl (de_var 0) de_int))
    (dss_cons (ds_if (Cp.dt (cp_eq p.toPl) (de_var 3) de_str (nomark _)) (dss_one (ds_ret (de_if (Cp.dt cp_ge (de_ixA p.toPl (de_var 0) de_int) (de_var 2) (nomark _)) (de_tup (da_es de_str (da_es (de_add p.toPl (de_ixA p.toPl (de_var 0) de_int) (de_var 1)) da_nil))) (de_var 0)))) dss_nil)
    (dss_cons (ds_if (Cp.dt (cp_in p.toPl) (de_var 3) (de_const p.toPl T.c_CALLED) rfl) (dss_one (ds_ret (de_tup (da_es (de_var 3) (da_es (de_ixA p.toPl (de_var 0) de_int) (da_es (Fb.de (fb_tuple p.toPl) p.toPl T.b_tuple (da_rd (de_lc (own := [("one", 4)]) p.c p.toPl.nds (fun _ => blkOk_by (N := ["thing", "many", "above", "word", "one"]) (sc := defScope s_lifted) (by decide +kernel)) (di_any p.toPl (de_ixA p.toPl (de_var 0) de_int)) (dg_name (p.blk _).toPl.nds (fun _ => rfl) (fun _ => by first | exact Or.inl rfl | exact Or.inr rfl)) dts_nil (de_fn (p.blk _) H.lifted (da_es (de_var 4) (da_es (de_var 1) (da_es (de_var 2) da_nil))) (len_cons (len_cons (len_cons (fun _ _ _ h => len_nil h)))))) da_nil)) da_nil)))))) dss_nil)
    (dss_cons (ds_if (Cp.dt (cp_in p.toPl) (de_var 3) (de_const p.toPl T.c_JOINED) rfl) (dss_one (ds_ret (de_tup (da_es (de_var 3) (da_es (de_fn p H.lifted (da_es (de_ixA p.toPl (de_var 0) de_int) (da_es (de_var 1) (da_es (de_var 2) da_nil))) (len_cons (len_cons (len_cons (fun _ _ _ h => len_nil h))))) (da_es (de_fn p H.lifted (da_es (de_ixA p.toPl (de_var 0) de_int) (da_es (de_var 1) (da_es (de_var 2) da_nil))) (len_cons (len_cons (len_cons (fun _ _ _ h => len_nil h))))) da_nil)))))) dss_nil)
    (dss_one (ds_ret (de_if (Cp.dt (cp_in p.toPl) (de_var 3) (de_const p.toPl T.c_BOUND) rfl) (de_tup (da_es (de_var 3) (da_es (de_ixA p.toPl (de_var 0) de_int) (da_es (de_fn p H.lifted (da_es (de_ixA p.toPl (de_var 0) de_int) (da_es (de_var 1) (da_es (de_add p.toPl (de_var 2) de_int) da_nil))) (len_cons (len_cons (len_cons (fun _ _ _ h => len_nil h))))) da_nil)))) (de_var 0))))))))
theorem d_term_for (T : Tt K mg C_BadGround C_BadRoom C_BadText C_GroundError C_NoStep C_NoText C_NotDone C_TooMany) (H : Tx P w K mg base n) : FnAt M2 P w K mg base (xrK K) (n + 1) "term_for" ["terms", "number"] [] (fnM 2 (m_term_for (mir n))) := by
  refine fnAt_succ T.term_for sc_term_for (fun f cdv A outer s Hp E hr hgu => ?_)
  have p := pc_def (P := P) (w := w) (K := K) (mg := mg) (base := base) (outer := outer) (H := Hp) (E := E) sc_term_for hr hgu
  exact (dss_one (ds_ret (de_if (Cp.chainT cp_le cp_lt de_int (de_var 1) (Fb.de (fb_len p.toPl) p.toPl T.b_len (da_rd (de_var 0) da_nil))) (de_ixA p.toPl (de_var 0) (de_sub (de_sub (Fb.de (fb_len p.toPl) p.toPl T.b_len (da_rd (de_var 0) da_nil)) de_int) (de_var 1))) de_non)))
theorem d_need_fit (T : Tt K mg C_BadGround C_BadRoom C_BadText C_GroundError C_NoStep C_NoText C_NotDone C_TooMany) (H : Tx P w K mg base n) : FnAt M2 P w K mg base (xrK K) (n + 1) "need_fit" ["thing", "terms"] [] (fnM 12 (m_need_fit (mir n))) := by
  refine fnAt_succ T.need_fit sc_need_fit (fun f cdv A outer s Hp E hr hgu => ?_)
  have p := pc_def (P := P) (w := w) (K := K) (mg := mg) (base := base) (outer := outer) (H := Hp) (E := E) sc_need_fit hr hgu
  exact (dss_cons (ds_setLc (i := 2) (own := [("term", 10)]) p.c p.toPl.nds (fun _ => rfl) (fun _ => rfl) (fun _ => sw_true rfl rfl rfl (by decide +kernel)) (fun _ => blkOk_by (N := ["thing", "terms", "sizes", "many", "waiting", "one", "bound", "deep", "size", "more", "term", "part"]) (sc := defScope s_need_fit) (by decide +kernel)) (di_any p.toPl (de_var 1)) (dg_name (p.blk _).toPl.nds (fun _ => rfl) (fun _ => by first | exact Or.inl rfl | exact Or.inr rfl)) dts_nil (de_tup (da_es (de_fn (p.blk _) H.parts_of (da_es (de_var 10) da_nil) (len_cons (fun _ _ _ h => len_nil h))) (da_es (de_fn (p.blk _) H.deep_of (da_es (de_var 10) da_nil) (len_cons (fun _ _ _ h => len_nil h))) da_nil))))
    (dss_cons (ds_set (i := 3) p.toPl.nds (fun _ => rfl) (fun _ => by first | exact Or.inl rfl | exact Or.inr rfl) de_int)
    (dss_cons (ds_set (i := 4) p.toPl.nds (fun _ => rfl) (fun _ => by first | exact Or.inl rfl | exact Or.inr rfl) (de_lst (da_es (de_tup (da_es (de_var 0) (da_es de_int (da_es de_int da_nil)))) da_nil)))
    (dss_one (ds_while whileN own_def (Cp.dt (cp_ne p.toPl) (de_var 4) (de_lst da_nil) (nomark _)) (dss_cons (ds_asg (de_pop (i := 4) p.k (fun _ => rfl) (fun _ => by first | exact Or.inl rfl | exact Or.inr (Or.inl rfl) | exact Or.inr (Or.inr rfl)) (by decide) (by decide)) (dg_tup p.k p.c (dgs_cons (dg_name p.toPl.nds (fun _ => rfl) (fun _ => by first | exact Or.inl rfl | exact Or.inr rfl)) (dgs_cons (dg_name p.toPl.nds (fun _ => rfl) (fun _ => by first | exact Or.inl rfl | exact Or.inr rfl)) (dgs_cons (dg_name p.toPl.nds (fun _ => rfl) (fun _ => by first | exact Or.inl rfl | exact Or.inr rfl)) dgs_nil)))))
    (dss_cons (ds_set (i := 8) p.toPl.nds (fun _ => rfl) (fun _ => by first | exact Or.inl rfl | exact Or.inr rfl) de_non)
    (dss_cons (ds_if (Cp.dt (cp_eq p.toPl) (de_ixA p.toPl (de_var 5) de_int) de_str (nomark _)) (dss_one (ds_set (i := 8) p.toPl.nds (fun _ => rfl) (fun _ => by first | exact Or.inl rfl | exact Or.inr rfl) (de_fn p H.term_for (da_es (de_var 2) (da_es (de_sub (de_ixA p.toPl (de_var 5) de_int) (de_var 6)) da_nil)) (len_cons (len_cons (fun _ _ _ h => len_nil h)))))) dss_nil)
    (dss_cons (ds_if (Cp.dt cp_is (de_var 8) de_non (nomark _)) (dss_one (ds_set (i := 8) p.toPl.nds (fun _ => rfl) (fun _ => by first | exact Or.inl rfl | exact Or.inr rfl) (de_tup (da_es de_int (da_es de_int da_nil))))) dss_nil)
    (dss_cons (ds_set (i := 3) p.toPl.nds (fun _ => rfl) (fun _ => by first | exact Or.inl rfl | exact Or.inr rfl) (de_add p.toPl (de_var 3) (de_ixA p.toPl (de_var 8) de_int)))
    (dss_cons (ds_if (dt_w (dw_or (Cp.dt cp_gt (de_var 3) (de_const p.toPl T.c_MOST_FOUND) (nomark _)) (dw_or1 (Cp.dt cp_gt (de_add p.toPl (de_sub (de_var 7) de_int) (de_ixA p.toPl (de_var 8) de_int)) (de_const p.toPl T.c_MOST_FOUND_DEEP) (nomark _))))) (dss_one (ds_raise p (fun _ => takes_of rfl rfl rfl rfl) T.x_TooMany)) dss_nil)
    (dss_cons (ds_set (i := 9) p.toPl.nds (fun _ => rfl) (fun _ => by first | exact Or.inl rfl | exact Or.inr rfl) (Fb.de fb_int p.toPl T.b_int (da_rd (Cp.de (cp_in p.toPl) (de_ixA p.toPl (de_var 5) de_int) (de_const p.toPl T.c_BOUND) rfl) da_nil)))
    (dss_one (ds_expr (de_extend (i := 4) p.k (fun _ => rfl) (fun _ => by first | exact Or.inl rfl | exact Or.inr (Or.inl rfl) | exact Or.inr (Or.inr rfl)) (by decide) (by decide) (de_lc (own := [("part", 11)]) p.c p.toPl.nds (fun _ => blkOk_by (N := ["thing", "terms", "sizes", "many", "waiting", "one", "bound", "deep", "size", "more", "term", "part"]) (sc := defScope s_need_fit) (by decide +kernel)) (di_any p.toPl (de_fn p H.within (da_es (de_var 5) da_nil) (len_cons (fun _ _ _ h => len_nil h)))) (dg_name (p.blk _).toPl.nds (fun _ => rfl) (fun _ => by first | exact Or.inl rfl | exact Or.inr rfl)) dts_nil (de_tup (da_es (de_var 11) (da_es (de_add (p.blk _).toPl (de_var 6) (de_var 9)) (da_es (de_add (p.blk _).toPl (de_var 7) de_int) da_nil))))))))))))))))))))
theorem d_put (T : Tt K mg C_BadGround C_BadRoom C_BadText C_GroundError C_NoStep C_NoText C_NotDone C_TooMany) (H : Tx P w K mg base n) : FnAt M2 P w K mg base (xrK K) (n + 1) "put" ["thing", "terms", "bound"] [] (fnM 6 (m_put (mir n))) := by
  refine fnAt_succ T.put sc_put (fun f cdv A outer s Hp E hr hgu => ?_)
  have p := pc_def (P := P) (w := w) (K := K) (mg := mg) (base := base) (outer := outer) (H := Hp) (E := E) sc_put hr hgu
  exact (dss_cons (ds_set (i := 3) p.toPl.nds (fun _ => rfl) (fun _ => by first | exact Or.inl rfl | exact Or.inr rfl) (de_ixA p.toPl (de_var 0) de_int))
    (dss_cons (ds_if (Cp.dt (cp_eq p.toPl) (de_var 3) de_str (nomark _)) (dss_cons (ds_set (i := 4) p.toPl.nds (fun _ => rfl) (fun _ => by first | exact Or.inl rfl | exact Or.inr rfl) (de_fn p H.term_for (da_es (de_var 1) (da_es (de_sub (de_ixA p.toPl (de_var 0) de_int) (de_var 2)) da_nil)) (len_cons (len_cons (fun _ _ _ h => len_nil h)))))
    (dss_cons (ds_if (Cp.dt cp_isNot (de_var 4) de_non (nomark _)) (dss_one (ds_ret (de_fnD p H.lifted (fun _ => .int _) (da_es (de_var 4) (da_es (de_var 2) da_nil)) (fun z ss z1 h => congrArg (· + 1) ((len_cons (len_cons (fun _ _ _ h => len_nil h))) z ss z1 h))))) dss_nil)
    (dss_one (ds_ret (de_if (Cp.dt cp_lt (de_ixA p.toPl (de_var 0) de_int) (de_var 2) (nomark _)) (de_var 0) (de_tup (da_es de_str (da_es (de_sub (de_ixA p.toPl (de_var 0) de_int) (Fb.de (fb_len p.toPl) p.toPl T.b_len (da_rd (de_var 1) da_nil))) da_nil)))))))) dss_nil)
    (dss_cons (ds_if (Cp.dt (cp_in p.toPl) (de_var 3) (de_const p.toPl T.c_CALLED) rfl) (dss_one (ds_ret (de_tup (da_es (de_var 3) (da_es (de_ixA p.toPl (de_var 0) de_int) (da_es (Fb.de (fb_tuple p.toPl) p.toPl T.b_tuple (da_rd (de_lc (own := [("one", 5)]) p.c p.toPl.nds (fun _ => blkOk_by (N := ["thing", "terms", "bound", "word", "found", "one"]) (sc := defScope s_put) (by decide +kernel)) (di_any p.toPl (de_ixA p.toPl (de_var 0) de_int)) (dg_name (p.blk _).toPl.nds (fun _ => rfl) (fun _ => by first | exact Or.inl rfl | exact Or.inr rfl)) dts_nil (de_fn (p.blk _) H.put (da_es (de_var 5) (da_es (de_var 1) (da_es (de_var 2) da_nil))) (len_cons (len_cons (len_cons (fun _ _ _ h => len_nil h)))))) da_nil)) da_nil)))))) dss_nil)
    (dss_cons (ds_if (Cp.dt (cp_in p.toPl) (de_var 3) (de_const p.toPl T.c_JOINED) rfl) (dss_one (ds_ret (de_tup (da_es (de_var 3) (da_es (de_fn p H.put (da_es (de_ixA p.toPl (de_var 0) de_int) (da_es (de_var 1) (da_es (de_var 2) da_nil))) (len_cons (len_cons (len_cons (fun _ _ _ h => len_nil h))))) (da_es (de_fn p H.put (da_es (de_ixA p.toPl (de_var 0) de_int) (da_es (de_var 1) (da_es (de_var 2) da_nil))) (len_cons (len_cons (len_cons (fun _ _ _ h => len_nil h))))) da_nil)))))) dss_nil)
    (dss_one (ds_ret (de_if (Cp.dt (cp_in p.toPl) (de_var 3) (de_const p.toPl T.c_BOUND) rfl) (de_tup (da_es (de_var 3) (da_es (de_ixA p.toPl (de_var 0) de_int) (da_es (de_fn p H.put (da_es (de_ixA p.toPl (de_var 0) de_int) (da_es (de_var 1) (da_es (de_add p.toPl (de_var 2) de_int) da_nil))) (len_cons (len_cons (len_cons (fun _ _ _ h => len_nil h))))) da_nil)))) (de_var 0))))))))
theorem d_put_in (T : Tt K mg C_BadGround C_BadRoom C_BadText C_GroundError C_NoStep C_NoText C_NotDone C_TooMany) (H : Tx P w K mg base n) : FnAt M2 P w K mg base (xrK K) (n + 1) "put_in" ["thing", "terms"] [] (fnM 2 (m_put_in (mir n))) := by
  refine fnAt_succ T.put_in sc_put_in (fun f cdv A outer s Hp E hr hgu => ?_)
  have p := pc_def (P := P) (w := w) (K := K) (mg := mg) (base := base) (outer := outer) (H := Hp) (E := E) sc_put_in hr hgu
  exact (dss_cons (ds_expr (de_fn p H.need_fit (da_es (de_var 0) (da_es (de_var 1) da_nil)) (len_cons (len_cons (fun _ _ _ h => len_nil h)))))
    (dss_one (ds_ret (de_fn p H.put (da_es (de_var 0) (da_es (de_var 1) (da_es de_int da_nil))) (len_cons (len_cons (len_cons (fun _ _ _ h => len_nil h))))))))
theorem d_put_all (T : Tt K mg C_BadGround C_BadRoom C_BadText C_GroundError C_NoStep C_NoText C_NotDone C_TooMany) (H : Tx P w K mg base n) : FnAt M2 P w K mg base (xrK K) (n + 1) "put_all" ["pattern", "terms"] [] (fnM 3 (m_put_all (mir n))) := by
  refine fnAt_succ T.put_all sc_put_all (fun f cdv A outer s Hp E hr hgu => ?_)
  have p := pc_def (P := P) (w := w) (K := K) (mg := mg) (base := base) (outer := outer) (H := Hp) (E := E) sc_put_all hr hgu
  exact (dss_one (ds_ret (de_fn p H.put_in (da_es (de_var 0) (da_es (Fb.de (fb_tuple p.toPl) p.toPl T.b_tuple (da_rd (de_lc (own := [("term", 2)]) p.c p.toPl.nds (fun _ => blkOk_by (N := ["pattern", "terms", "term"]) (sc := defScope s_put_all) (by decide +kernel)) (di_any p.toPl (de_rev p.toPl (de_var 1))) (dg_name (p.blk _).toPl.nds (fun _ => rfl) (fun _ => by first | exact Or.inl rfl | exact Or.inr rfl)) dts_nil (de_if (Cp.dt cp_is (de_var 2) de_non (nomark _)) (de_tup (da_es de_str (da_es de_int da_nil))) (de_var 2))) da_nil)) da_nil)) (len_cons (len_cons (fun _ _ _ h => len_nil h))))))
theorem d__law_cell (T : Tt K mg C_BadGround C_BadRoom C_BadText C_GroundError C_NoStep C_NoText C_NotDone C_TooMany) (H : Tx P w K mg base n) : FnAt M2 P w K mg base (xrK K) (n + 1) "_law_cell" ["_law_cells", "_law_spot"] [] (fnM 6 (m__law_cell (mir n))) := by
  refine fnAt_succ T._law_cell sc__law_cell (fun f cdv A outer s Hp E hr hgu => ?_)
  have p := pc_def (P := P) (w := w) (K := K) (mg := mg) (base := base) (outer := outer) (H := Hp) (E := E) sc__law_cell hr hgu
  exact (dss_cons (ds_spot 1 p.toPl (de_add p.toPl (de_spot 1 p.toPl) de_int))
    (dss_cons (ds_set (i := 2) p.toPl.nds (fun _ => rfl) (fun _ => by first | exact Or.inl rfl | exact Or.inr rfl) (de_spot 1 p.toPl))
    (dss_cons (ds_set (i := 3) p.toPl.nds (fun _ => rfl) (fun _ => by first | exact Or.inl rfl | exact Or.inr rfl) (de_add p.toPl (de_mul (de_mul de_int (de_var 2)) (de_var 2)) (de_mul de_int (de_var 2))))
    (dss_cons (ds_if (dt_w (dw_and (Cp.dt cp_gt (Fb.de (fb_len p.toPl) p.toPl T.b_len (da_rd (de_var 0) da_nil)) de_int (nomark _)) (dw_and (Cp.dt (cp_eq p.toPl) (de_mod (de_ixA p.toPl (de_var 0) de_int) de_int) de_int (nomark _)) (dw_and1 (Cp.dt cp_lt (de_fdiv (de_var 2) (Fb.de (fb_len p.toPl) p.toPl T.b_len (da_rd (de_var 0) da_nil))) de_int (nomark _)))))) (dss_cons (ds_set (i := 4) p.toPl.nds (fun _ => rfl) (fun _ => by first | exact Or.inl rfl | exact Or.inr rfl) (de_fdiv (de_ixA p.toPl (de_var 0) (de_mod (de_var 2) (Fb.de (fb_len p.toPl) p.toPl T.b_len (da_rd (de_var 0) da_nil)))) de_int))
    (dss_cons (ds_for own_def p.c (di_range1 p.toPl T.b_range (da_rd (de_fdiv (de_var 2) (Fb.de (fb_len p.toPl) p.toPl T.b_len (da_rd (de_var 0) da_nil))) da_nil)) (dg_name p.toPl.nds (fun _ => rfl) (fun _ => by first | exact Or.inl rfl | exact Or.inr rfl)) (dss_one (ds_set (i := 4) p.toPl.nds (fun _ => rfl) (fun _ => by first | exact Or.inl rfl | exact Or.inr rfl) (de_fdiv (de_var 4) de_int))))
    (dss_one (ds_if (Cp.dt cp_gt (de_var 4) de_int (nomark _)) (dss_one (ds_ret (de_mod (de_var 4) de_int))) dss_nil)))) dss_nil)
    (dss_cons (ds_if (Cp.dt cp_gt (Fb.de (fb_len p.toPl) p.toPl T.b_len (da_rd (de_var 0) da_nil)) de_int (nomark _)) (dss_one (ds_set (i := 3) p.toPl.nds (fun _ => rfl) (fun _ => by first | exact Or.inl rfl | exact Or.inr rfl) (de_add p.toPl (de_var 3) (de_mul (de_ixA p.toPl (de_var 0) (de_mod (de_var 2) (Fb.de (fb_len p.toPl) p.toPl T.b_len (da_rd (de_var 0) da_nil)))) (de_add p.toPl de_int (de_fdiv (de_var 2) (Fb.de (fb_len p.toPl) p.toPl T.b_len (da_rd (de_var 0) da_nil)))))))) dss_nil)
    (dss_one (ds_ret (de_fdiv (de_mod (de_mul (de_var 3) de_int) de_int) de_int))))))))
theorem d__law_entries (T : Tt K mg C_BadGround C_BadRoom C_BadText C_GroundError C_NoStep C_NoText C_NotDone C_TooMany) (H : Tx P w K mg base n) : FnAt M2 P w K mg base (xrK K) (n + 1) "_law_entries" ["_law_n"] [] (fnM 10 (m__law_entries (mir n))) := by
  refine fnAt_succ T._law_entries sc__law_entries (fun f cdv A outer s Hp E hr hgu => ?_)
  have p := pc_def (P := P) (w := w) (K := K) (mg := mg) (base := base) (outer := outer) (H := Hp) (E := E) sc__law_entries hr hgu
  exact (dss_cons (ds_set (i := 1) p.toPl.nds (fun _ => rfl) (fun _ => by first | exact Or.inl rfl | exact Or.inr rfl) (de_ixA p.toPl (de_lst (da_es de_str (da_es de_str (da_es de_str (da_es de_str (da_es de_str da_nil)))))) (de_mod (de_var 0) de_int)))
    (dss_cons (ds_asg (de_tup (da_es (de_add p.toPl de_str (de_var 1)) (da_es (de_add p.toPl de_str (de_var 1)) (da_es (de_tup (da_es de_str (da_es (de_add p.toPl de_str (de_var 1)) (da_es (de_tup da_nil) da_nil)))) (da_es (de_tup (da_es de_str (da_es de_int da_nil))) (da_es (de_tup (da_es de_str (da_es de_int da_nil))) da_nil)))))) (dg_tup p.k p.c (dgs_cons (dg_name p.toPl.nds (fun _ => rfl) (fun _ => by first | exact Or.inl rfl | exact Or.inr rfl)) (dgs_cons (dg_name p.toPl.nds (fun _ => rfl) (fun _ => by first | exact Or.inl rfl | exact Or.inr rfl)) (dgs_cons (dg_name p.toPl.nds (fun _ => rfl) (fun _ => by first | exact Or.inl rfl | exact Or.inr rfl)) (dgs_cons (dg_name p.toPl.nds (fun _ => rfl) (fun _ => by first | exact Or.inl rfl | exact Or.inr rfl)) (dgs_cons (dg_name p.toPl.nds (fun _ => rfl) (fun _ => by first | exact Or.inl rfl | exact Or.inr rfl)) dgs_nil)))))))
    (dss_cons (ds_set (i := 7) p.toPl.nds (fun _ => rfl) (fun _ => by first | exact Or.inl rfl | exact Or.inr rfl) (Fb.de (fb_tuple p.toPl) p.toPl T.b_tuple (da_rd (de_lc (own := [("_law_sign", 9)]) p.c p.toPl.nds (fun _ => blkOk_by (N := ["_law_n", "_law_e", "_law_s", "_law_m", "_law_c", "_law_x", "_law_y", "_law_names", "_law_rows", "_law_sign"]) (sc := defScope s__law_entries) (by decide +kernel)) (di_any p.toPl (de_sl p.toPl de_str do_none (do_some (de_add p.toPl de_int (de_mod (de_fdiv (de_var 0) de_int) de_int))))) (dg_name (p.blk _).toPl.nds (fun _ => rfl) (fun _ => by first | exact Or.inl rfl | exact Or.inr rfl)) dts_nil (de_add (p.blk _).toPl (de_add (p.blk _).toPl de_str (de_var 9)) (de_var 1))) da_nil)))
    (dss_cons (ds_set (i := 8) p.toPl.nds (fun _ => rfl) (fun _ => by first | exact Or.inl rfl | exact Or.inr rfl) (de_lst (da_es (de_tup (da_es de_str (da_es (de_var 2) (da_es (de_tup da_nil) da_nil)))) (da_es (de_tup (da_es de_str (da_es (de_var 3) (da_es (de_var 7) da_nil)))) (da_es (de_tup (da_es de_str (da_es (de_add p.toPl de_str (de_var 1)) (da_es (de_tup da_nil) (da_es (de_var 2) da_nil))))) (da_es (de_tup (da_es de_str (da_es (de_add p.toPl de_str (de_var 1)) (da_es (de_tup (da_es (de_var 2) da_nil)) (da_es (de_var 2) da_nil))))) da_nil))))))
    (dss_cons (ds_set (i := 8) p.toPl.nds (fun _ => rfl) (fun _ => by first | exact Or.inl rfl | exact Or.inr rfl) (de_add p.toPl (de_var 8) (de_lst (da_es (de_tup (da_es de_str (da_es (de_add p.toPl de_str (de_var 1)) (da_es (de_tup (da_es (de_var 2) (da_es (de_var 3) da_nil))) (da_es (de_var 2) da_nil))))) (da_es (de_tup (da_es de_str (da_es (de_add p.toPl de_str (de_var 1)) (da_es (de_tup (da_es (de_var 2) da_nil)) da_nil)))) (da_es (de_tup (da_es de_str (da_es (de_add p.toPl de_str (de_var 1)) (da_es (de_tup (da_es (de_var 2) (da_es (de_var 3) da_nil))) da_nil)))) (da_es (de_tup (da_es de_str (da_es (de_add p.toPl de_str (de_var 1)) (da_es (de_tup da_nil) da_nil)))) da_nil)))))))
    (dss_cons (ds_set (i := 8) p.toPl.nds (fun _ => rfl) (fun _ => by first | exact Or.inl rfl | exact Or.inr rfl) (de_add p.toPl (de_var 8) (de_lst (da_es (de_tup (da_es de_str (da_es (de_add p.toPl de_str (de_var 1)) (da_es (de_tup (da_es (de_var 2) da_nil)) (da_es (de_tup (da_es de_str (da_es (de_var 5) (da_es (de_var 5) da_nil)))) da_nil))))) (da_es (de_tup (da_es de_str (da_es (de_add p.toPl de_str (de_var 1)) (da_es (de_tup (da_es (de_var 2) (da_es (de_var 2) da_nil))) (da_es (de_tup (da_es de_str (da_es (de_var 6) (da_es (de_var 5) da_nil)))) da_nil))))) da_nil)))))
    (dss_cons (ds_set (i := 8) p.toPl.nds (fun _ => rfl) (fun _ => by first | exact Or.inl rfl | exact Or.inr rfl) (de_add p.toPl (de_var 8) (de_lst (da_es (de_tup (da_es de_str (da_es (de_add p.toPl de_str (de_var 1)) (da_es (de_tup (da_es de_str (da_es (de_var 2) (da_es (de_tup (da_es de_str (da_es (de_add p.toPl de_str (de_var 1)) (da_es (de_tup (da_es (de_var 5) da_nil)) da_nil)))) da_nil)))) da_nil)))) (da_es (de_tup (da_es de_str (da_es (de_add p.toPl de_str (de_var 1)) (da_es (de_tup (da_es de_str (da_es (de_add p.toPl de_str (de_var 1)) (da_es (de_tup da_nil) da_nil)))) da_nil)))) da_nil)))))
    (dss_cons (ds_expr (de_append (i := 8) p.k (fun _ => rfl) (fun _ => by first | exact Or.inl rfl | exact Or.inr (Or.inl rfl) | exact Or.inr (Or.inr rfl)) (by decide) (by decide) (de_tup (da_es de_str (da_es (de_add p.toPl de_str (de_var 1)) (da_es (de_tup (da_es de_str (da_es (de_var 3) (da_es (de_tup (da_es de_str (da_es (de_add p.toPl de_str (de_var 1)) (da_es (de_tup (da_es (de_var 4) (da_es (de_var 5) da_nil))) da_nil)))) da_nil)))) da_nil))))))
    (dss_one (ds_ret (Fb.de (fb_tuple p.toPl) p.toPl T.b_tuple (da_rd (de_var 8) da_nil))))))))))))
theorem d__law_put (T : Tt K mg C_BadGround C_BadRoom C_BadText C_GroundError C_NoStep C_NoText C_NotDone C_TooMany) (H : Tx P w K mg base n) : FnAt M2 P w K mg base (xrK K) (n + 1) "_law_put" ["_law_mode", "_law_thing", "_law_v"] [] (fnM 5 (m__law_put (mir n))) := by
  refine fnAt_succ T._law_put sc__law_put (fun f cdv A outer s Hp E hr hgu => ?_)
  have p := pc_def (P := P) (w := w) (K := K) (mg := mg) (base := base) (outer := outer) (H := Hp) (E := E) sc__law_put hr hgu
  exact (dss_cons (ds_if (Cp.dt (cp_eq p.toPl) (de_ixA p.toPl (de_var 1) de_int) de_str (nomark _)) (dss_cons (ds_set (i := 3) p.toPl.nds (fun _ => rfl) (fun _ => by first | exact Or.inl rfl | exact Or.inr rfl) (de_ixA p.toPl (de_var 1) de_int))
    (dss_cons (ds_if (Cp.dt (cp_eq p.toPl) (de_ixA p.toPl (de_var 0) de_int) de_str (nomark _)) (dss_one (ds_ret (de_tup (da_es de_str (da_es (de_if (Cp.dt cp_ge (de_var 3) (de_var 2) (nomark _)) (de_add p.toPl (de_var 3) (de_ixA p.toPl (de_var 0) de_int)) (de_var 3)) da_nil))))) dss_nil)
    (dss_cons (ds_if (dt_w (dw_and (Cp.dt (cp_eq p.toPl) (de_ixA p.toPl (de_var 0) de_int) de_str (nomark _)) (dw_and1 (Cp.dt cp_ge (de_var 3) (de_var 2) (nomark _))))) (dss_one (ds_ret (de_if (Cp.dt (cp_eq p.toPl) (de_var 3) (de_var 2) (nomark _)) (de_fn p H._law_put (da_es (de_tup (da_es de_str (da_es (de_var 2) da_nil))) (da_es (de_ixA p.toPl (de_var 0) de_int) (da_es de_int da_nil))) (len_cons (len_cons (len_cons (fun _ _ _ h => len_nil h))))) (de_tup (da_es de_str (da_es (de_sub (de_var 3) de_int) da_nil)))))) dss_nil)
    (dss_one (ds_ret (de_var 1)))))) dss_nil)
    (dss_cons (ds_if (Cp.dt (cp_in p.toPl) (de_ixA p.toPl (de_var 1) de_int) (de_tup (da_es de_str (da_es de_str da_nil))) rfl) (dss_one (ds_ret (de_add p.toPl (de_sl p.toPl (de_var 1) do_none (do_some de_int)) (de_tup (da_es (de_fn p H._law_put (da_es (de_var 0) (da_es (de_ixA p.toPl (de_var 1) de_int) (da_es (de_add p.toPl (de_var 2) de_int) da_nil))) (len_cons (len_cons (len_cons (fun _ _ _ h => len_nil h))))) da_nil))))) dss_nil)
    (dss_cons (ds_if (Cp.dt (cp_in p.toPl) (de_ixA p.toPl (de_var 1) de_int) (de_tup (da_es de_str (da_es de_str da_nil))) rfl) (dss_one (ds_ret (de_add p.toPl (de_sl p.toPl (de_var 1) do_none (do_some de_int)) (de_tup (da_es (Fb.de (fb_tuple p.toPl) p.toPl T.b_tuple (da_rd (de_lc (own := [("_law_one", 4)]) p.c p.toPl.nds (fun _ => blkOk_by (N := ["_law_mode", "_law_thing", "_law_v", "_law_k", "_law_one"]) (sc := defScope s__law_put) (by decide +kernel)) (di_any p.toPl (de_ixA p.toPl (de_var 1) de_int)) (dg_name (p.blk _).toPl.nds (fun _ => rfl) (fun _ => by first | exact Or.inl rfl | exact Or.inr rfl)) dts_nil (de_fn (p.blk _) H._law_put (da_es (de_var 0) (da_es (de_var 4) (da_es (de_var 2) da_nil))) (len_cons (len_cons (len_cons (fun _ _ _ h => len_nil h)))))) da_nil)) da_nil))))) dss_nil)
    (dss_one (ds_ret (de_add p.toPl (de_sl p.toPl (de_var 1) do_none (do_some de_int)) (Fb.de (fb_tuple p.toPl) p.toPl T.b_tuple (da_rd (de_lc (own := [("_law_one", 4)]) p.c p.toPl.nds (fun _ => blkOk_by (N := ["_law_mode", "_law_thing", "_law_v", "_law_k", "_law_one"]) (sc := defScope s__law_put) (by decide +kernel)) (di_any p.toPl (de_sl p.toPl (de_var 1) (do_some de_int) do_none)) (dg_name (p.blk _).toPl.nds (fun _ => rfl) (fun _ => by first | exact Or.inl rfl | exact Or.inr rfl)) dts_nil (de_fn (p.blk _) H._law_put (da_es (de_var 0) (da_es (de_var 4) (da_es (de_var 2) da_nil))) (len_cons (len_cons (len_cons (fun _ _ _ h => len_nil h)))))) da_nil))))))))
theorem d__law_any_term (T : Tt K mg C_BadGround C_BadRoom C_BadText C_GroundError C_NoStep C_NoText C_NotDone C_TooMany) (H : Tx P w K mg base n) : FnAt M2 P w K mg base (xrK K) (n + 1) "_law_any_term" ["_law_room", "_law_cells", "_law_spot", "_law_around", "_law_sort", "_law_deep"] [] (fnM 11 (m__law_any_term (mir n))) := by
  refine fnAt_succ T._law_any_term sc__law_any_term (fun f cdv A outer s Hp E hr hgu => ?_)
  have p := pc_def (P := P) (w := w) (K := K) (mg := mg) (base := base) (outer := outer) (H := Hp) (E := E) sc__law_any_term hr hgu
  exact (dss_cons (ds_set (i := 6) p.toPl.nds (fun _ => rfl) (fun _ => by first | exact Or.inl rfl | exact Or.inr rfl) (de_fn p H._law_cell (da_es (de_var 1) (da_es (de_var 2) da_nil)) (len_cons (len_cons (fun _ _ _ h => len_nil h)))))
    (dss_cons (ds_setLc (i := 7) (own := [("_law_k", 9), ("_law_one", 8)]) p.c p.toPl.nds (fun _ => rfl) (fun _ => rfl) (fun _ => sw_true rfl rfl rfl (by decide +kernel)) (fun _ => blkOk_by (N := ["_law_room", "_law_cells", "_law_spot", "_law_around", "_law_sort", "_law_deep", "_law_n", "_law_some", "_law_one", "_law_k", "_law_name"]) (sc := defScope s__law_any_term) (by decide +kernel)) (di_enum p.toPl T.b_enumerate (de_var 3)) (dg_tup (p.blk _).k (p.blk _).c (dgs_cons (dg_name (p.blk _).toPl.nds (fun _ => rfl) (fun _ => by first | exact Or.inl rfl | exact Or.inr rfl)) (dgs_cons (dg_name (p.blk _).toPl.nds (fun _ => rfl) (fun _ => by first | exact Or.inl rfl | exact Or.inr rfl)) dgs_nil))) (dts_one (Cp.dt (cp_eq (p.blk _).toPl) (de_var 8) (de_var 4) (nomark _))) (de_tup (da_es de_str (da_es (de_var 9) da_nil))))
    (dss_cons (ds_if (Cp.dt (cp_eq p.toPl) (de_var 4) (de_ixA p.toPl (de_ixA p.toPl (de_var 0) de_int) de_int) (nomark _)) (dss_cons (ds_set (i := 7) p.toPl.nds (fun _ => rfl) (fun _ => by first | exact Or.inl rfl | exact Or.inr rfl) (de_add p.toPl (de_var 7) (de_lc (own := [("_law_name", 10)]) p.c p.toPl.nds (fun _ => blkOk_by (N := ["_law_room", "_law_cells", "_law_spot", "_law_around", "_law_sort", "_law_deep", "_law_n", "_law_some", "_law_one", "_law_k", "_law_name"]) (sc := defScope s__law_any_term) (by decide +kernel)) (di_any p.toPl (de_ixA p.toPl (de_ixA p.toPl (de_var 0) de_int) de_int)) (dg_name (p.blk _).toPl.nds (fun _ => rfl) (fun _ => by first | exact Or.inl rfl | exact Or.inr rfl)) dts_nil (de_tup (da_es de_str (da_es (de_var 10) (da_es (de_tup da_nil) da_nil)))))))
    (dss_one (ds_ret (de_ixA p.toPl (de_var 7) (de_mod (de_var 6) (Fb.de (fb_len p.toPl) p.toPl T.b_len (da_rd (de_var 7) da_nil))))))) dss_nil)
    (dss_cons (ds_if (dt_w (dw_and (Cp.dt cp_gt (de_var 5) de_int (nomark _)) (dw_and1 (Cp.dt (cp_eq p.toPl) (de_mod (de_var 6) de_int) de_int (nomark _))))) (dss_one (ds_ret (de_tup (da_es de_str (da_es (de_ixA p.toPl (de_ixA p.toPl (de_var 0) de_int) de_int) (da_es (de_tup (da_es (de_fn p H._law_any_term (da_es (de_var 0) (da_es (de_var 1) (da_es (de_var 2) (da_es (de_var 3) (da_es (de_var 4) (da_es (de_sub (de_var 5) de_int) da_nil)))))) (len_cons (len_cons (len_cons (len_cons (len_cons (len_cons (fun _ _ _ h => len_nil h)))))))) da_nil)) da_nil)))))) dss_nil)
    (dss_cons (ds_if (dt_w (dw_and (Cp.dt cp_gt (de_var 5) de_int (nomark _)) (dw_and1 (Cp.dt (cp_eq p.toPl) (de_mod (de_var 6) de_int) de_int (nomark _))))) (dss_cons (ds_set (i := 8) p.toPl.nds (fun _ => rfl) (fun _ => by first | exact Or.inl rfl | exact Or.inr rfl) (de_fn p H._law_any_term (da_es (de_var 0) (da_es (de_var 1) (da_es (de_var 2) (da_es (de_var 3) (da_es (de_var 4) (da_es (de_sub (de_var 5) de_int) da_nil)))))) (len_cons (len_cons (len_cons (len_cons (len_cons (len_cons (fun _ _ _ h => len_nil h)))))))))
    (dss_one (ds_ret (de_tup (da_es de_str (da_es (de_ixA p.toPl (de_ixA p.toPl (de_var 0) de_int) de_int) (da_es (de_tup (da_es (de_var 8) (da_es (de_fn p H._law_any_term (da_es (de_var 0) (da_es (de_var 1) (da_es (de_var 2) (da_es (de_var 3) (da_es (de_ixA p.toPl (de_ixA p.toPl (de_var 0) de_int) de_int) (da_es de_int da_nil)))))) (len_cons (len_cons (len_cons (len_cons (len_cons (len_cons (fun _ _ _ h => len_nil h)))))))) da_nil))) da_nil))))))) dss_nil)
    (dss_cons (ds_expr (de_append (i := 7) p.k (fun _ => rfl) (fun _ => by first | exact Or.inl rfl | exact Or.inr (Or.inl rfl) | exact Or.inr (Or.inr rfl)) (by decide) (by decide) (de_tup (da_es de_str (da_es (de_ixA p.toPl (de_ixA p.toPl (de_var 0) de_int) de_int) (da_es (de_tup da_nil) da_nil))))))
    (dss_one (ds_ret (de_ixA p.toPl (de_var 7) (de_mod (de_fdiv (de_var 6) de_int) (Fb.de (fb_len p.toPl) p.toPl T.b_len (da_rd (de_var 7) da_nil))))))))))))
theorem d__law_any_statement (T : Tt K mg C_BadGround C_BadRoom C_BadText C_GroundError C_NoStep C_NoText C_NotDone C_TooMany) (H : Tx P w K mg base n) : FnAt M2 P w K mg base (xrK K) (n + 1) "_law_any_statement" ["_law_room", "_law_cells", "_law_spot", "_law_around", "_law_deep"] [] (fnM 11 (m__law_any_statement (mir n))) := by
  refine fnAt_succ T._law_any_statement sc__law_any_statement (fun f cdv A outer s Hp E hr hgu => ?_)
  have p := pc_def (P := P) (w := w) (K := K) (mg := mg) (base := base) (outer := outer) (H := Hp) (E := E) sc__law_any_statement hr hgu
  exact (dss_cons (ds_set (i := 5) p.toPl.nds (fun _ => rfl) (fun _ => by first | exact Or.inl rfl | exact Or.inr rfl) (de_fn p H._law_cell (da_es (de_var 1) (da_es (de_var 2) da_nil)) (len_cons (len_cons (fun _ _ _ h => len_nil h)))))
    (dss_cons (ds_set (i := 6) p.toPl.nds (fun _ => rfl) (fun _ => by first | exact Or.inl rfl | exact Or.inr rfl) (de_mod (de_var 5) de_int))
    (dss_cons (ds_if (dt_w (dw_or (Cp.dt (cp_eq p.toPl) (de_var 4) de_int (nomark _)) (dw_or1 (Cp.dt cp_lt (de_var 6) de_int (nomark _))))) (dss_cons (ds_set (i := 7) p.toPl.nds (fun _ => rfl) (fun _ => by first | exact Or.inl rfl | exact Or.inr rfl) (de_fn p H._law_any_term (da_es (de_var 0) (da_es (de_var 1) (da_es (de_var 2) (da_es (de_var 3) (da_es (de_ixA p.toPl (de_ixA p.toPl (de_var 0) de_int) de_int) (da_es de_int da_nil)))))) (len_cons (len_cons (len_cons (len_cons (len_cons (len_cons (fun _ _ _ h => len_nil h)))))))))
    (dss_cons (ds_if (Cp.dt (cp_eq p.toPl) (de_var 6) de_int (nomark _)) (dss_one (ds_ret (de_ixA p.toPl (de_lst (da_es (de_tup (da_es de_str da_nil)) (da_es (de_tup (da_es de_str (da_es (de_ixA p.toPl (de_ixA p.toPl (de_var 0) de_int) de_int) (da_es (de_tup da_nil) da_nil)))) da_nil))) (de_mod (de_fdiv (de_var 5) de_int) de_int)))) dss_nil)
    (dss_cons (ds_if (Cp.dt cp_lt (de_var 6) de_int (nomark _)) (dss_one (ds_ret (de_tup (da_es de_str (da_es (de_ixA p.toPl (de_ixA p.toPl (de_var 0) de_int) de_int) (da_es (de_tup (da_es (de_var 7) da_nil)) da_nil)))))) dss_nil)
    (dss_cons (ds_if (Cp.dt (cp_eq p.toPl) (de_var 6) de_int (nomark _)) (dss_one (ds_ret (de_tup (da_es de_str (da_es (de_ixA p.toPl (de_ixA p.toPl (de_var 0) de_int) de_int) (da_es (de_tup (da_es (de_var 7) (da_es (de_fn p H._law_any_term (da_es (de_var 0) (da_es (de_var 1) (da_es (de_var 2) (da_es (de_var 3) (da_es (de_ixA p.toPl (de_ixA p.toPl (de_var 0) de_int) de_int) (da_es de_int da_nil)))))) (len_cons (len_cons (len_cons (len_cons (len_cons (len_cons (fun _ _ _ h => len_nil h)))))))) da_nil))) da_nil)))))) dss_nil)
    (dss_cons (ds_set (i := 8) p.toPl.nds (fun _ => rfl) (fun _ => by first | exact Or.inl rfl | exact Or.inr rfl) (de_ixA p.toPl (de_ixA p.toPl (de_var 0) (de_mod (de_fdiv (de_var 5) de_int) de_int)) de_int))
    (dss_cons (ds_setLc (i := 9) (own := [("_law_k", 10)]) p.c p.toPl.nds (fun _ => rfl) (fun _ => rfl) (fun _ => sw_true rfl rfl rfl (by decide +kernel)) (fun _ => blkOk_by (N := ["_law_room", "_law_cells", "_law_spot", "_law_around", "_law_deep", "_law_n", "_law_way", "_law_one", "_law_sort", "_law_pair", "_law_k"]) (sc := defScope s__law_any_statement) (by decide +kernel)) (di_range1 p.toPl T.b_range (da_rd de_int da_nil)) (dg_name (p.blk _).toPl.nds (fun _ => rfl) (fun _ => by first | exact Or.inl rfl | exact Or.inr rfl)) dts_nil (de_fn (p.blk _) H._law_any_term (da_es (de_var 0) (da_es (de_var 1) (da_es (de_var 2) (da_es (de_var 3) (da_es (de_var 8) (da_es de_int da_nil)))))) (len_cons (len_cons (len_cons (len_cons (len_cons (len_cons (fun _ _ _ h => len_nil h)))))))))
    (dss_one (ds_ret (de_tup (da_es de_str (da_es (de_ixA p.toPl (de_var 9) de_int) (da_es (de_ixA p.toPl (de_var 9) de_int) da_nil)))))))))))) dss_nil)
    (dss_cons (ds_if (Cp.dt cp_lt (de_var 6) de_int (nomark _)) (dss_cons (ds_set (i := 7) p.toPl.nds (fun _ => rfl) (fun _ => by first | exact Or.inl rfl | exact Or.inr rfl) (de_fn p H._law_any_statement (da_es (de_var 0) (da_es (de_var 1) (da_es (de_var 2) (da_es (de_var 3) (da_es (de_sub (de_var 4) de_int) da_nil))))) (len_cons (len_cons (len_cons (len_cons (len_cons (fun _ _ _ h => len_nil h))))))))
    (dss_one (ds_ret (de_tup (da_es (de_ixA p.toPl (de_lst (da_es de_str (da_es de_str (da_es de_str da_nil)))) (de_sub (de_var 6) de_int)) (da_es (de_var 7) (da_es (de_fn p H._law_any_statement (da_es (de_var 0) (da_es (de_var 1) (da_es (de_var 2) (da_es (de_var 3) (da_es (de_sub (de_var 4) de_int) da_nil))))) (len_cons (len_cons (len_cons (len_cons (len_cons (fun _ _ _ h => len_nil h))))))) da_nil))))))) dss_nil)
    (dss_cons (ds_set (i := 8) p.toPl.nds (fun _ => rfl) (fun _ => by first | exact Or.inl rfl | exact Or.inr rfl) (de_ixA p.toPl (de_ixA p.toPl (de_var 0) (de_mod (de_fdiv (de_var 5) de_int) de_int)) de_int))
    (dss_one (ds_ret (de_tup (da_es (de_ixA p.toPl (de_lst (da_es de_str (da_es de_str da_nil))) (de_sub (de_var 6) de_int)) (da_es (de_var 8) (da_es (de_fn p H._law_any_statement (da_es (de_var 0) (da_es (de_var 1) (da_es (de_var 2) (da_es (de_add p.toPl (de_tup (da_es (de_var 8) da_nil)) (de_var 3)) (da_es (de_sub (de_var 4) de_int) da_nil))))) (len_cons (len_cons (len_cons (len_cons (len_cons (fun _ _ _ h => len_nil h))))))) da_nil)))))))))))
theorem d__law_kids (T : Tt K mg C_BadGround C_BadRoom C_BadText C_GroundError C_NoStep C_NoText C_NotDone C_TooMany) (H : Tx P w K mg base n) : FnAt M2 P w K mg base (xrK K) (n + 1) "_law_kids" ["_law_thing"] [] (fnM 2 (m__law_kids (mir n))) := by
  refine fnAt_succ T._law_kids sc__law_kids (fun f cdv A outer s Hp E hr hgu => ?_)
  have p := pc_def (P := P) (w := w) (K := K) (mg := mg) (base := base) (outer := outer) (H := Hp) (E := E) sc__law_kids hr hgu
  exact (dss_cons (ds_if (Cp.dt (cp_in p.toPl) (de_ixA p.toPl (de_var 0) de_int) (de_tup (da_es de_str (da_es de_str da_nil))) rfl) (dss_one (ds_ret (Fb.de (fb_list p.toPl) p.toPl T.b_list (da_rd (de_ixA p.toPl (de_var 0) de_int) da_nil)))) dss_nil)
    (dss_cons (ds_if (Cp.dt (cp_in p.toPl) (de_ixA p.toPl (de_var 0) de_int) (de_tup (da_es de_str (da_es de_str da_nil))) rfl) (dss_one (ds_ret (de_lst (da_es (de_ixA p.toPl (de_var 0) de_int) da_nil)))) dss_nil)
    (dss_one (ds_ret (de_lc (own := [("_law_one", 1)]) p.c p.toPl.nds (fun _ => blkOk_by (N := ["_law_thing", "_law_one"]) (sc := defScope s__law_kids) (by decide +kernel)) (di_any p.toPl (de_sl p.toPl (de_var 0) (do_some de_int) do_none)) (dg_name (p.blk _).toPl.nds (fun _ => rfl) (fun _ => by first | exact Or.inl rfl | exact Or.inr rfl)) (dts_one (dt_tru (p.blk _).toPl (de_isi (p.blk _).toPl T.b_isinstance T.b_tuple PyProof.Rows.boot_tuple (de_var 1)))) (de_var 1))))))
theorem d__law_spots (T : Tt K mg C_BadGround C_BadRoom C_BadText C_GroundError C_NoStep C_NoText C_NotDone C_TooMany) (H : Tx P w K mg base n) : FnAt M2 P w K mg base (xrK K) (n + 1) "_law_spots" ["_law_pattern", "_law_many", "_law_v", "_law_way"] [] (fnM 7 (m__law_spots (mir n))) := by
  refine fnAt_succ T._law_spots sc__law_spots (fun f cdv A outer s Hp E hr hgu => ?_)
  have p := pc_def (P := P) (w := w) (K := K) (mg := mg) (base := base) (outer := outer) (H := Hp) (E := E) sc__law_spots hr hgu
  exact (dss_cons (ds_if (Cp.dt (cp_eq p.toPl) (de_ixA p.toPl (de_var 0) de_int) de_str (nomark _)) (dss_one (ds_ret (de_if (Cp.chainT cp_le cp_lt (de_var 2) (de_ixA p.toPl (de_var 0) de_int) (de_add p.toPl (de_var 2) (de_var 1))) (de_lst (da_es (de_tup (da_es (de_sub (de_ixA p.toPl (de_var 0) de_int) (de_var 2)) (da_es (de_var 3) (da_es (de_var 2) da_nil)))) da_nil)) (de_lst da_nil)))) dss_nil)
    (dss_cons (ds_set (i := 4) p.toPl.nds (fun _ => rfl) (fun _ => by first | exact Or.inl rfl | exact Or.inr rfl) (de_lst da_nil))
    (dss_cons (ds_for own_def p.c (di_enum p.toPl T.b_enumerate (de_fn p H._law_kids (da_es (de_var 0) da_nil) (len_cons (fun _ _ _ h => len_nil h)))) (dg_tup p.k p.c (dgs_cons (dg_name p.toPl.nds (fun _ => rfl) (fun _ => by first | exact Or.inl rfl | exact Or.inr rfl)) (dgs_cons (dg_name p.toPl.nds (fun _ => rfl) (fun _ => by first | exact Or.inl rfl | exact Or.inr rfl)) dgs_nil))) (dss_one (ds_set (i := 4) p.toPl.nds (fun _ => rfl) (fun _ => by first | exact Or.inl rfl | exact Or.inr rfl) (de_add p.toPl (de_var 4) (de_fn p H._law_spots (da_es (de_var 6) (da_es (de_var 1) (da_es (de_add p.toPl (de_var 2) (Fb.de fb_int p.toPl T.b_int (da_rd (Cp.de (cp_in p.toPl) (de_ixA p.toPl (de_var 0) de_int) (de_tup (da_es de_str (da_es de_str da_nil))) rfl) da_nil))) (da_es (de_add p.toPl (de_var 3) (de_tup (da_es (de_var 5) da_nil))) da_nil)))) (len_cons (len_cons (len_cons (len_cons (fun _ _ _ h => len_nil h))))))))))
    (dss_one (ds_ret (de_var 4))))))
theorem d__law_filled (T : Tt K mg C_BadGround C_BadRoom C_BadText C_GroundError C_NoStep C_NoText C_NotDone C_TooMany) (H : Tx P w K mg base n) : FnAt M2 P w K mg base (xrK K) (n + 1) "_law_filled" ["_law_pattern", "_law_many", "_law_terms", "_law_v"] [] (fnM 5 (m__law_filled (mir n))) := by
  refine fnAt_succ T._law_filled sc__law_filled (fun f cdv A outer s Hp E hr hgu => ?_)
  have p := pc_def (P := P) (w := w) (K := K) (mg := mg) (base := base) (outer := outer) (H := Hp) (E := E) sc__law_filled hr hgu
  exact (dss_cons (ds_if (Cp.dt (cp_eq p.toPl) (de_ixA p.toPl (de_var 0) de_int) de_str (nomark _)) (dss_cons (ds_if (Cp.chainT cp_le cp_lt (de_var 3) (de_ixA p.toPl (de_var 0) de_int) (de_add p.toPl (de_var 3) (de_var 1))) (dss_one (ds_ret (de_fn p H._law_put (da_es (de_tup (da_es de_str (da_es (de_var 3) da_nil))) (da_es (de_ixA p.toPl (de_var 2) (de_sub (de_ixA p.toPl (de_var 0) de_int) (de_var 3))) (da_es de_int da_nil))) (len_cons (len_cons (len_cons (fun _ _ _ h => len_nil h))))))) dss_nil)
    (dss_one (ds_ret (de_tup (da_es de_str (da_es (de_if (Cp.dt cp_ge (de_ixA p.toPl (de_var 0) de_int) (de_var 3) (nomark _)) (de_sub (de_ixA p.toPl (de_var 0) de_int) (de_var 1)) (de_ixA p.toPl (de_var 0) de_int)) da_nil)))))) dss_nil)
    (dss_cons (ds_if (Cp.dt (cp_in p.toPl) (de_ixA p.toPl (de_var 0) de_int) (de_tup (da_es de_str (da_es de_str da_nil))) rfl) (dss_one (ds_ret (de_add p.toPl (de_sl p.toPl (de_var 0) do_none (do_some de_int)) (de_tup (da_es (de_fn p H._law_filled (da_es (de_ixA p.toPl (de_var 0) de_int) (da_es (de_var 1) (da_es (de_var 2) (da_es (de_add p.toPl (de_var 3) de_int) da_nil)))) (len_cons (len_cons (len_cons (len_cons (fun _ _ _ h => len_nil h)))))) da_nil))))) dss_nil)
    (dss_cons (ds_if (Cp.dt (cp_in p.toPl) (de_ixA p.toPl (de_var 0) de_int) (de_tup (da_es de_str (da_es de_str da_nil))) rfl) (dss_one (ds_ret (de_add p.toPl (de_sl p.toPl (de_var 0) do_none (do_some de_int)) (de_tup (da_es (Fb.de (fb_tuple p.toPl) p.toPl T.b_tuple (da_rd (de_lc (own := [("_law_one", 4)]) p.c p.toPl.nds (fun _ => blkOk_by (N := ["_law_pattern", "_law_many", "_law_terms", "_law_v", "_law_one"]) (sc := defScope s__law_filled) (by decide +kernel)) (di_any p.toPl (de_ixA p.toPl (de_var 0) de_int)) (dg_name (p.blk _).toPl.nds (fun _ => rfl) (fun _ => by first | exact Or.inl rfl | exact Or.inr rfl)) dts_nil (de_fn (p.blk _) H._law_filled (da_es (de_var 4) (da_es (de_var 1) (da_es (de_var 2) (da_es (de_var 3) da_nil)))) (len_cons (len_cons (len_cons (len_cons (fun _ _ _ h => len_nil h))))))) da_nil)) da_nil))))) dss_nil)
    (dss_one (ds_ret (de_add p.toPl (de_sl p.toPl (de_var 0) do_none (do_some de_int)) (Fb.de (fb_tuple p.toPl) p.toPl T.b_tuple (da_rd (de_lc (own := [("_law_one", 4)]) p.c p.toPl.nds (fun _ => blkOk_by (N := ["_law_pattern", "_law_many", "_law_terms", "_law_v", "_law_one"]) (sc := defScope s__law_filled) (by decide +kernel)) (di_any p.toPl (de_sl p.toPl (de_var 0) (do_some de_int) do_none)) (dg_name (p.blk _).toPl.nds (fun _ => rfl) (fun _ => by first | exact Or.inl rfl | exact Or.inr rfl)) dts_nil (de_fn (p.blk _) H._law_filled (da_es (de_var 4) (da_es (de_var 1) (da_es (de_var 2) (da_es (de_var 3) da_nil)))) (len_cons (len_cons (len_cons (len_cons (fun _ _ _ h => len_nil h))))))) da_nil))))))))
theorem d__law_told_by (T : Tt K mg C_BadGround C_BadRoom C_BadText C_GroundError C_NoStep C_NoText C_NotDone C_TooMany) (H : Tx P w K mg base n) : FnAt M2 P w K mg base (xrK K) (n + 1) "_law_told_by" ["_law_pattern", "_law_terms"] [] (fnM 7 (m__law_told_by (mir n))) := by
  refine fnAt_succ T._law_told_by sc__law_told_by (fun f cdv A outer s Hp E hr hgu => ?_)
  have p := pc_def (P := P) (w := w) (K := K) (mg := mg) (base := base) (outer := outer) (H := Hp) (E := E) sc__law_told_by hr hgu
  exact (dss_cons (ds_set (i := 2) p.toPl.nds (fun _ => rfl) (fun _ => by first | exact Or.inl rfl | exact Or.inr rfl) de_non)
    (dss_cons (ds_set (i := 3) p.toPl.nds (fun _ => rfl) (fun _ => by first | exact Or.inl rfl | exact Or.inr rfl) de_non)
    (dss_cons (ds_catch (i := 4) (y := 2) p (fun _ => rfl) (fun _ => rfl) (fun _ => rfl) (fun _ => takes_of rfl rfl rfl rfl) (fun _ => rfl) (fun _ => rfl) (fun _ => rfl) (fun _ => rfl) (fun _ => rfl) (fun _ => ⟨rfl, by decide, .inl T.g_GroundError⟩) (tb1_ok ⟨C_TooMany, T.x_TooMany.xr, T.e_GroundError_TooMany⟩) (fun V => have pt := p.tr V; (dss_one (ds_set (i := 3) pt.toPl.nds (fun _ => rfl) (fun _ => by first | exact Or.inl rfl | exact Or.inr rfl) (de_fn pt H.put_all (da_es (de_var 0) (da_es (de_var 1) da_nil)) (len_cons (len_cons (fun _ _ _ h => len_nil h))))))))
    (dss_cons (ds_if (Cp.dt cp_is (de_var 2) de_non (nomark _)) (dss_one (ds_ret (de_var 3))) dss_nil)
    (dss_cons (ds_set (i := 5) p.toPl.nds (fun _ => rfl) (fun _ => by first | exact Or.inl rfl | exact Or.inr rfl) (de_isXT (vs := [.ref C_BadGround, .ref C_BadRoom, .ref C_BadText, .ref C_NoStep, .ref C_NoText, .ref C_NotDone]) p.toPl T.b_isinstance (by show 6 ≤ sizeLine; rw [sizeLine_eq]; decide) (fun _ => (pa_cons (pe_glob rfl T.g_BadGround rfl) (pa_cons (pe_glob rfl T.g_BadRoom rfl) (pa_cons (pe_glob rfl T.g_BadText rfl) (pa_cons (pe_glob rfl T.g_NoStep rfl) (pa_cons (pe_glob rfl T.g_NoText rfl) (pa_cons (pe_glob rfl T.g_NotDone rfl) pa_nil))))))) (fun ws h => vals_refs (as := [C_BadGround, C_BadRoom, C_BadText, C_NoStep, C_NoText, C_NotDone]) h) (tb1_ok ⟨C_TooMany, T.x_TooMany.xr, T.ec_TooMany, T.k_BadGround_BadRoom_BadText_NoStep_NoText_NotDone_TooMany⟩) (de_var 2)))
    (dss_cons (ds_set (i := 6) p.toPl.nds (fun _ => rfl) (fun _ => by first | exact Or.inl rfl | exact Or.inr rfl) (de_and (de_isX (vT := .ref C_TooMany) p.toPl T.b_isinstance (fun _ => pe_glob rfl T.g_TooMany rfl) (fun v h => h) (tb1_ok ⟨C_TooMany, T.x_TooMany.xr, T.ec_TooMany, T.k_TooMany_TooMany⟩) (de_var 2)) (de_and (de_isX (vT := .ty "ValueError") p.toPl T.b_isinstance (fun _ => pe_bltn rfl T.b_ValueError (by decide +kernel) rfl) (fun v h => h) (tb1_ok ⟨C_TooMany, T.x_TooMany.xr, T.ec_TooMany, T.k_ValueError_TooMany⟩) (de_var 2)) (de_one (de_not (de_var 5))))))
    (dss_one (ds_ret (de_if (dt_tru p.toPl (de_var 6)) de_str de_str)))))))))
theorem d__law_tower (T : Tt K mg C_BadGround C_BadRoom C_BadText C_GroundError C_NoStep C_NoText C_NotDone C_TooMany) (H : Tx P w K mg base n) : FnAt M2 P w K mg base (xrK K) (n + 1) "_law_tower" ["_law_room", "_law_many", "_law_deep"] [] (fnM 5 (m__law_tower (mir n))) := by
  refine fnAt_succ T._law_tower sc__law_tower (fun f cdv A outer s Hp E hr hgu => ?_)
  have p := pc_def (P := P) (w := w) (K := K) (mg := mg) (base := base) (outer := outer) (H := Hp) (E := E) sc__law_tower hr hgu
  exact (dss_cons (ds_set (i := 3) p.toPl.nds (fun _ => rfl) (fun _ => by first | exact Or.inl rfl | exact Or.inr rfl) (de_tup (da_es de_str (da_es de_int da_nil))))
    (dss_cons (ds_for own_def p.c (di_range1 p.toPl T.b_range (da_rd (de_sub (de_var 2) de_int) da_nil)) (dg_name p.toPl.nds (fun _ => rfl) (fun _ => by first | exact Or.inl rfl | exact Or.inr rfl)) (dss_one (ds_if (Cp.dt cp_lt (de_var 4) (de_sub (de_var 1) (de_var 2)) (nomark _)) (dss_one (ds_set (i := 3) p.toPl.nds (fun _ => rfl) (fun _ => by first | exact Or.inl rfl | exact Or.inr rfl) (de_tup (da_es de_str (da_es (de_ixA p.toPl (de_ixA p.toPl (de_var 0) de_int) de_int) (da_es (de_tup (da_es (de_var 3) (da_es (de_tup (da_es de_str (da_es (de_ixA p.toPl (de_ixA p.toPl (de_ixA p.toPl (de_var 0) de_int) de_int) de_int) (da_es (de_tup da_nil) da_nil)))) da_nil))) da_nil)))))) (dss_one (ds_set (i := 3) p.toPl.nds (fun _ => rfl) (fun _ => by first | exact Or.inl rfl | exact Or.inr rfl) (de_tup (da_es de_str (da_es (de_ixA p.toPl (de_ixA p.toPl (de_var 0) de_int) de_int) (da_es (de_tup (da_es (de_var 3) da_nil)) da_nil)))))))))
    (dss_one (ds_ret (de_var 3)))))
theorem d__law_great_right (T : Tt K mg C_BadGround C_BadRoom C_BadText C_GroundError C_NoStep C_NoText C_NotDone C_TooMany) (H : Tx P w K mg base n) : FnAt M2 P w K mg base (xrK K) (n + 1) "_law_great_right" ["_law_room", "_law_n"] [] (fnM 12 (m__law_great_right (mir n))) := by
  refine fnAt_succ T._law_great_right sc__law_great_right (fun f cdv A outer s Hp E hr hgu => ?_)
  have p := pc_def (P := P) (w := w) (K := K) (mg := mg) (base := base) (outer := outer) (H := Hp) (E := E) sc__law_great_right hr hgu
  exact (dss_cons (ds_set (i := 2) p.toPl.nds (fun _ => rfl) (fun _ => by first | exact Or.inl rfl | exact Or.inr rfl) (de_tup (da_es de_str (da_es (de_ixA p.toPl (de_ixA p.toPl (de_var 0) de_int) de_int) (da_es (de_tup (da_es (de_tup (da_es de_str (da_es de_int da_nil))) da_nil)) da_nil)))))
    (dss_cons (ds_for own_def p.c (di_range1 p.toPl T.b_range (da_rd de_int da_nil)) (dg_name p.toPl.nds (fun _ => rfl) (fun _ => by first | exact Or.inl rfl | exact Or.inr rfl)) (dss_one (ds_set (i := 2) p.toPl.nds (fun _ => rfl) (fun _ => by first | exact Or.inl rfl | exact Or.inr rfl) (de_tup (da_es de_str (da_es (de_var 2) (da_es (de_var 2) da_nil)))))))
    (dss_cons (ds_set (i := 4) p.toPl.nds (fun _ => rfl) (fun _ => by first | exact Or.inl rfl | exact Or.inr rfl) (de_lst (da_es (de_var 2) (da_es (de_tup (da_es de_str (da_es (de_ixA p.toPl (de_ixA p.toPl (de_var 0) de_int) de_int) (da_es (de_fn p H._law_put (da_es (de_tup (da_es de_str (da_es de_int da_nil))) (da_es (de_var 2) (da_es de_int da_nil))) (len_cons (len_cons (len_cons (fun _ _ _ h => len_nil h))))) da_nil)))) (da_es (de_tup (da_es de_str (da_es (de_var 2) (da_es (de_tup (da_es de_str da_nil)) da_nil)))) da_nil)))))
    (dss_cons (ds_set (i := 5) p.toPl.nds (fun _ => rfl) (fun _ => by first | exact Or.inl rfl | exact Or.inr rfl) (de_lst (da_es de_int (da_es de_int (da_es de_int da_nil)))))
    (dss_cons (ds_for own_def p.c (di_range1 p.toPl T.b_range (da_rd de_int da_nil)) (dg_name p.toPl.nds (fun _ => rfl) (fun _ => by first | exact Or.inl rfl | exact Or.inr rfl)) (dss_cons (ds_set (i := 7) p.toPl.nds (fun _ => rfl) (fun _ => by first | exact Or.inl rfl | exact Or.inr rfl) (de_tup (da_es (de_fn p H._law_tower (da_es (de_var 0) (da_es de_int (da_es de_int da_nil))) (len_cons (len_cons (len_cons (fun _ _ _ h => len_nil h))))) da_nil)))
    (dss_cons (ds_set (i := 8) p.toPl.nds (fun _ => rfl) (fun _ => by first | exact Or.inl rfl | exact Or.inr rfl) (de_fn p H._law_told_by (da_es (de_ixA p.toPl (de_var 4) (de_var 6)) (da_es (de_var 7) da_nil)) (len_cons (len_cons (fun _ _ _ h => len_nil h)))))
    (dss_one (ds_if (Cp.dt (cp_ne p.toPl) (de_var 8) (de_if (Cp.dt cp_lt (de_ixA p.toPl (de_var 5) (de_var 6)) de_int (nomark _)) (de_fn p H._law_filled (da_es (de_ixA p.toPl (de_var 4) (de_var 6)) (da_es de_int (da_es (de_var 7) (da_es de_int da_nil)))) (len_cons (len_cons (len_cons (len_cons (fun _ _ _ h => len_nil h)))))) de_str) (nomark _)) (dss_one (ds_ret de_bl)) dss_nil)))))
    (dss_cons (ds_set (i := 9) p.toPl.nds (fun _ => rfl) (fun _ => by first | exact Or.inl rfl | exact Or.inr rfl) (de_add p.toPl de_int (de_mod (de_var 1) de_int)))
    (dss_cons (ds_for own_def p.c (di_any p.toPl (de_tup (da_es (de_sub de_int (de_var 9)) (da_es (de_sub de_int (de_var 9)) (da_es (de_sub de_int (de_var 9)) da_nil))))) (dg_name p.toPl.nds (fun _ => rfl) (fun _ => by first | exact Or.inl rfl | exact Or.inr rfl)) (dss_cons (ds_set (i := 7) p.toPl.nds (fun _ => rfl) (fun _ => by first | exact Or.inl rfl | exact Or.inr rfl) (de_tup (da_es (de_fn p H._law_tower (da_es (de_var 0) (da_es (de_var 9) (da_es (de_var 9) da_nil))) (len_cons (len_cons (len_cons (fun _ _ _ h => len_nil h))))) da_nil)))
    (dss_cons (ds_set (i := 11) p.toPl.nds (fun _ => rfl) (fun _ => by first | exact Or.inl rfl | exact Or.inr rfl) (de_fn p H._law_tower (da_es (de_var 0) (da_es (de_add p.toPl (de_var 10) de_int) (da_es (de_add p.toPl (de_var 10) de_int) da_nil))) (len_cons (len_cons (len_cons (fun _ _ _ h => len_nil h))))))
    (dss_cons (ds_set (i := 8) p.toPl.nds (fun _ => rfl) (fun _ => by first | exact Or.inl rfl | exact Or.inr rfl) (de_fn p H._law_told_by (da_es (de_var 11) (da_es (de_var 7) da_nil)) (len_cons (len_cons (fun _ _ _ h => len_nil h)))))
    (dss_one (ds_if (Cp.dt (cp_ne p.toPl) (de_var 8) (de_if (Cp.dt cp_lt (de_add p.toPl (de_var 10) (de_var 9)) de_int (nomark _)) (de_fn p H._law_filled (da_es (de_var 11) (da_es de_int (da_es (de_var 7) (da_es de_int da_nil)))) (len_cons (len_cons (len_cons (len_cons (fun _ _ _ h => len_nil h)))))) de_str) (nomark _)) (dss_one (ds_ret de_bl)) dss_nil))))))
    (dss_one (ds_ret de_bl)))))))))
theorem tx_zero (T : Tt K mg C_BadGround C_BadRoom C_BadText C_GroundError C_NoStep C_NoText C_NotDone C_TooMany) : Tx P w K mg base 0 := ⟨fnAt_zero T.within, fnAt_zero T.parts_of, fnAt_zero T.deep_of, fnAt_zero T.lifted, fnAt_zero T.term_for, fnAt_zero T.need_fit, fnAt_zero T.put, fnAt_zero T.put_in, fnAt_zero T.put_all, fnAt_zero T._law_cell, fnAt_zero T._law_entries, fnAt_zero T._law_put, fnAt_zero T._law_any_term, fnAt_zero T._law_any_statement, fnAt_zero T._law_kids, fnAt_zero T._law_spots, fnAt_zero T._law_filled, fnAt_zero T._law_told_by, fnAt_zero T._law_tower, fnAt_zero T._law_great_right⟩
theorem tx_succ (T : Tt K mg C_BadGround C_BadRoom C_BadText C_GroundError C_NoStep C_NoText C_NotDone C_TooMany) (H : Tx P w K mg base n) : Tx P w K mg base (n + 1) := ⟨d_within T H, d_parts_of T H, d_deep_of T H, d_lifted T H, d_term_for T H, d_need_fit T H, d_put T H, d_put_in T H, d_put_all T H, d__law_cell T H, d__law_entries T H, d__law_put T H, d__law_any_term T H, d__law_any_statement T H, d__law_kids T H, d__law_spots T H, d__law_filled T H, d__law_told_by T H, d__law_tower T H, d__law_great_right T H⟩
theorem tx_all (T : Tt K mg C_BadGround C_BadRoom C_BadText C_GroundError C_NoStep C_NoText C_NotDone C_TooMany) : ∀ n : Nat, Tx P w K mg base n
  | 0 => tx_zero T
  | n + 1 => tx_succ T (tx_all T n)
theorem d_law (T : Tt K mg C_BadGround C_BadRoom C_BadText C_GroundError C_NoStep C_NoText C_NotDone C_TooMany) {f : Addr} {fd : FuncData} (hF : FunD K "law" "law" (defArgs s_law) (defBody s_law) (defScope s_law) [] [] f fd)
    (hp : ∀ ns : List Int, ns.length ≤ 63 → (∀ z ∈ ns, Builtin.Int.intBits z ≤ 1048576) → ∃ z1 z', m_law_pre (zS 19 ns) = .ok .nx z1 ∧ m_law (mir lawLevel) ⟨z1.rho.set 2 (some (.m 0)), 0⟩ = .ok (.rt (.d (.bl true))) z') : FnG P w K mg base (L2.CX P w) (lawLevel + 9) f fd ["_law_script"] (spLaw K) := by
  have H : Tx P w K mg base lawLevel := tx_all T lawLevel
  refine okG hF sc_law (fun vs H Q E h => by obtain ⟨a, ns, rfl, _⟩ := h; rfl) (fun cdv A outer s Hp vs Q E hr hgu h => ?_)
  have p := pc_def (P := P) (w := w) (K := K) (mg := mg) (base := base) (outer := outer) (H := Hp) (E := E) sc_law hr hgu
  obtain ⟨tp, ptp, ctp⟩ : DS M0 (xrK K) K (fun _ : Unit => cxOf (L2.CX P w) P w K mg base ["_law_script", "_law_cells", "_law_spot", "_law_room", "_law_turn", "_law_n", "_law_opens", "_law_around", "_law_pattern", "_law_there", "_law_terms", "_law_some", "_law_due", "_law_one", "_law_place", "_law_way", "_law_v", "_law_k", "_law_sort", "_law_term"] "law" (defScope s_law) f cdv A outer s Hp E) (fun cls d _ H => E cls d H) ((defBody s_law).getD 0 (.Pass ⟨0, 0, 0, 0⟩)) m_law_pre :=
    (ds_set (i := 1) p.toPl.nds (fun _ => rfl) (fun _ => by first | exact Or.inl rfl | exact Or.inr rfl) (de_lc (own := [("_law_one", 13)]) p.c p.toPl.nds (fun _ => blkOk_by (N := ["_law_script", "_law_cells", "_law_spot", "_law_room", "_law_turn", "_law_n", "_law_opens", "_law_around", "_law_pattern", "_law_there", "_law_terms", "_law_some", "_law_due", "_law_one", "_law_place", "_law_way", "_law_v", "_law_k", "_law_sort", "_law_term"]) (sc := defScope s_law) (by decide +kernel)) (di_any p.toPl (de_var 0)) (dg_name (p.blk _).toPl.nds (fun _ => rfl) (fun _ => by first | exact Or.inl rfl | exact Or.inr rfl)) dts_nil (de_var 13)))
  obtain ⟨t, pt, ct⟩ : DSs M2 (xrK K) K (fun _ : Unit => cxOf (L2.CX P w) P w K mg base ["_law_script", "_law_cells", "_law_spot", "_law_room", "_law_turn", "_law_n", "_law_opens", "_law_around", "_law_pattern", "_law_there", "_law_terms", "_law_some", "_law_due", "_law_one", "_law_place", "_law_way", "_law_v", "_law_k", "_law_sort", "_law_term"] "law" (defScope s_law) f cdv A outer s Hp E) (fun cls d _ H => E cls d H) ((defBody s_law).drop 2) (m_law (mir lawLevel)) :=
    (dss_cons (ds_set (i := 3) p.toPl.nds (fun _ => rfl) (fun _ => by first | exact Or.inl rfl | exact Or.inr rfl) (de_fn p H._law_entries (da_es (de_fn p H._law_cell (da_es (de_var 1) (da_es (de_var 2) da_nil)) (len_cons (len_cons (fun _ _ _ h => len_nil h)))) da_nil) (len_cons (fun _ _ _ h => len_nil h))))
    (dss_cons (ds_for own_def p.c (di_range1 p.toPl T.b_range (da_rd (Fb.de (fb_max p.toPl) p.toPl T.b_max (da_rd de_int (da_rd (Fb.de (fb_min p.toPl) p.toPl T.b_min (da_rd de_int (da_rd (Fb.de (fb_len p.toPl) p.toPl T.b_len (da_rd (de_var 1) da_nil)) da_nil))) da_nil))) da_nil)) (dg_name p.toPl.nds (fun _ => rfl) (fun _ => by first | exact Or.inl rfl | exact Or.inr rfl)) (dss_cons (ds_set (i := 5) p.toPl.nds (fun _ => rfl) (fun _ => by first | exact Or.inl rfl | exact Or.inr rfl) (de_fn p H._law_cell (da_es (de_var 1) (da_es (de_var 2) da_nil)) (len_cons (len_cons (fun _ _ _ h => len_nil h)))))
    (dss_cons (ds_set (i := 6) p.toPl.nds (fun _ => rfl) (fun _ => by first | exact Or.inl rfl | exact Or.inr rfl) (Fb.de (fb_tuple p.toPl) p.toPl T.b_tuple (da_rd (de_lc (own := [("_law_k", 17)]) p.c p.toPl.nds (fun _ => blkOk_by (N := ["_law_script", "_law_cells", "_law_spot", "_law_room", "_law_turn", "_law_n", "_law_opens", "_law_around", "_law_pattern", "_law_there", "_law_terms", "_law_some", "_law_due", "_law_one", "_law_place", "_law_way", "_law_v", "_law_k", "_law_sort", "_law_term"]) (sc := defScope s_law) (by decide +kernel)) (di_range1 p.toPl T.b_range (da_rd (de_mod (de_var 5) de_int) da_nil)) (dg_name (p.blk _).toPl.nds (fun _ => rfl) (fun _ => by first | exact Or.inl rfl | exact Or.inr rfl)) dts_nil (de_ixA (p.blk _).toPl (de_ixA (p.blk _).toPl (de_var 3) (de_band (de_shr (de_fdiv (de_var 5) de_int) (de_var 17)) de_int)) de_int)) da_nil)))
    (dss_cons (ds_set (i := 7) p.toPl.nds (fun _ => rfl) (fun _ => by first | exact Or.inl rfl | exact Or.inr rfl) (Fb.de (fb_tuple p.toPl) p.toPl T.b_tuple (da_rd (de_lc (own := [("_law_k", 17)]) p.c p.toPl.nds (fun _ => blkOk_by (N := ["_law_script", "_law_cells", "_law_spot", "_law_room", "_law_turn", "_law_n", "_law_opens", "_law_around", "_law_pattern", "_law_there", "_law_terms", "_law_some", "_law_due", "_law_one", "_law_place", "_law_way", "_law_v", "_law_k", "_law_sort", "_law_term"]) (sc := defScope s_law) (by decide +kernel)) (di_range1 p.toPl T.b_range (da_rd (de_mod (de_fdiv (de_var 5) de_int) de_int) da_nil)) (dg_name (p.blk _).toPl.nds (fun _ => rfl) (fun _ => by first | exact Or.inl rfl | exact Or.inr rfl)) dts_nil (de_ixA (p.blk _).toPl (de_ixA (p.blk _).toPl (de_var 3) (de_band (de_shr (de_fdiv (de_var 5) de_int) (de_var 17)) de_int)) de_int)) da_nil)))
    (dss_cons (ds_set (i := 8) p.toPl.nds (fun _ => rfl) (fun _ => by first | exact Or.inl rfl | exact Or.inr rfl) (de_fn p H._law_any_statement (da_es (de_var 3) (da_es (de_var 1) (da_es (de_var 2) (da_es (de_add p.toPl (de_var 6) (de_var 7)) (da_es (de_mod (de_fdiv (de_var 5) de_int) de_int) da_nil))))) (len_cons (len_cons (len_cons (len_cons (len_cons (fun _ _ _ h => len_nil h))))))))
    (dss_cons (ds_if (Cp.dt (cp_eq p.toPl) (de_mod (de_fdiv (de_var 5) de_int) de_int) de_int (nomark _)) (dss_one (ds_set (i := 8) p.toPl.nds (fun _ => rfl) (fun _ => by first | exact Or.inl rfl | exact Or.inr rfl) (de_fn p H._law_any_term (da_es (de_var 3) (da_es (de_var 1) (da_es (de_var 2) (da_es (de_add p.toPl (de_var 6) (de_var 7)) (da_es (de_ixA p.toPl (de_ixA p.toPl (de_var 3) de_int) de_int) (da_es de_int da_nil)))))) (len_cons (len_cons (len_cons (len_cons (len_cons (len_cons (fun _ _ _ h => len_nil h)))))))))) dss_nil)
    (dss_cons (ds_set (i := 9) p.toPl.nds (fun _ => rfl) (fun _ => by first | exact Or.inl rfl | exact Or.inr rfl) (de_lc (own := [("_law_place", 14), ("_law_way", 15), ("_law_v", 16)]) p.c p.toPl.nds (fun _ => blkOk_by (N := ["_law_script", "_law_cells", "_law_spot", "_law_room", "_law_turn", "_law_n", "_law_opens", "_law_around", "_law_pattern", "_law_there", "_law_terms", "_law_some", "_law_due", "_law_one", "_law_place", "_law_way", "_law_v", "_law_k", "_law_sort", "_law_term"]) (sc := defScope s_law) (by decide +kernel)) (di_any p.toPl (de_fn p H._law_spots (da_es (de_var 8) (da_es (Fb.de (fb_len p.toPl) p.toPl T.b_len (da_rd (de_var 6) da_nil)) (da_es de_int (da_es (de_tup da_nil) da_nil)))) (len_cons (len_cons (len_cons (len_cons (fun _ _ _ h => len_nil h))))))) (dg_tup (p.blk _).k (p.blk _).c (dgs_cons (dg_name (p.blk _).toPl.nds (fun _ => rfl) (fun _ => by first | exact Or.inl rfl | exact Or.inr rfl)) (dgs_cons (dg_name (p.blk _).toPl.nds (fun _ => rfl) (fun _ => by first | exact Or.inl rfl | exact Or.inr rfl)) (dgs_cons (dg_name (p.blk _).toPl.nds (fun _ => rfl) (fun _ => by first | exact Or.inl rfl | exact Or.inr rfl)) dgs_nil)))) dts_nil (de_var 14)))
    (dss_cons (ds_set (i := 10) p.toPl.nds (fun _ => rfl) (fun _ => by first | exact Or.inl rfl | exact Or.inr rfl) (Fb.de (fb_tuple p.toPl) p.toPl T.b_tuple (da_rd (de_lc (own := [("_law_sort", 18)]) p.c p.toPl.nds (fun _ => blkOk_by (N := ["_law_script", "_law_cells", "_law_spot", "_law_room", "_law_turn", "_law_n", "_law_opens", "_law_around", "_law_pattern", "_law_there", "_law_terms", "_law_some", "_law_due", "_law_one", "_law_place", "_law_way", "_law_v", "_law_k", "_law_sort", "_law_term"]) (sc := defScope s_law) (by decide +kernel)) (di_any p.toPl (de_var 6)) (dg_name (p.blk _).toPl.nds (fun _ => rfl) (fun _ => by first | exact Or.inl rfl | exact Or.inr rfl)) dts_nil (de_fn (p.blk _) H._law_any_term (da_es (de_var 3) (da_es (de_var 1) (da_es (de_var 2) (da_es (de_var 7) (da_es (de_var 18) (da_es de_int da_nil)))))) (len_cons (len_cons (len_cons (len_cons (len_cons (len_cons (fun _ _ _ h => len_nil h))))))))) da_nil)))
    (dss_cons (ds_set (i := 11) p.toPl.nds (fun _ => rfl) (fun _ => by first | exact Or.inl rfl | exact Or.inr rfl) (Fb.de (fb_tuple p.toPl) p.toPl T.b_tuple (da_rd (de_lc (own := [("_law_place", 14), ("_law_term", 19)]) p.c p.toPl.nds (fun _ => blkOk_by (N := ["_law_script", "_law_cells", "_law_spot", "_law_room", "_law_turn", "_law_n", "_law_opens", "_law_around", "_law_pattern", "_law_there", "_law_terms", "_law_some", "_law_due", "_law_one", "_law_place", "_law_way", "_law_v", "_law_k", "_law_sort", "_law_term"]) (sc := defScope s_law) (by decide +kernel)) (di_enum p.toPl T.b_enumerate (de_var 10)) (dg_tup (p.blk _).k (p.blk _).c (dgs_cons (dg_name (p.blk _).toPl.nds (fun _ => rfl) (fun _ => by first | exact Or.inl rfl | exact Or.inr rfl)) (dgs_cons (dg_name (p.blk _).toPl.nds (fun _ => rfl) (fun _ => by first | exact Or.inl rfl | exact Or.inr rfl)) dgs_nil))) dts_nil (de_if (Cp.dt (cp_in (p.blk _).toPl) (de_var 14) (de_var 9) rfl) (de_var 19) de_non)) da_nil)))
    (dss_cons (ds_set (i := 12) p.toPl.nds (fun _ => rfl) (fun _ => by first | exact Or.inl rfl | exact Or.inr rfl) (de_fn p H._law_filled (da_es (de_var 8) (da_es (Fb.de (fb_len p.toPl) p.toPl T.b_len (da_rd (de_var 6) da_nil)) (da_es (de_var 10) (da_es de_int da_nil)))) (len_cons (len_cons (len_cons (len_cons (fun _ _ _ h => len_nil h)))))))
    (dss_one (ds_if (dt_w (dw_or (Cp.dt (cp_ne p.toPl) (de_fn p H._law_told_by (da_es (de_var 8) (da_es (de_var 10) da_nil)) (len_cons (len_cons (fun _ _ _ h => len_nil h)))) (de_var 12) (nomark _)) (dw_or1 (Cp.dt (cp_ne p.toPl) (de_fn p H._law_told_by (da_es (de_var 8) (da_es (de_var 11) da_nil)) (len_cons (len_cons (fun _ _ _ h => len_nil h)))) (de_var 12) (nomark _))))) (dss_one (ds_ret de_bl)) dss_nil))))))))))))
    (dss_one (ds_ret (de_fn p H._law_great_right (da_es (de_var 3) (da_es (de_fn p H._law_cell (da_es (de_var 1) (da_es (de_var 2) da_nil)) (len_cons (len_cons (fun _ _ _ h => len_nil h)))) da_nil)) (len_cons (len_cons (fun _ _ _ h => len_nil h))))))))
  exact ⟨_, pss_cons (ptp ()) (pss_cons (ps_set (i := 2) sc_law.nd rfl (by first | exact Or.inl rfl | exact Or.inr rfl) (pe_lst (pa_cons pe_int pa_nil))) (pt ())), law_runS (N := ["_law_script", "_law_cells", "_law_spot", "_law_room", "_law_turn", "_law_n", "_law_opens", "_law_around", "_law_pattern", "_law_there", "_law_terms", "_law_some", "_law_due", "_law_one", "_law_place", "_law_way", "_law_v", "_law_k", "_law_sort", "_law_term"]) (by decide) hp ctp ct h⟩
end
/-! ### the end -/
theorem all_mk {l : PySem.W.OpenLaw} {w : World} {K : PySem.W.Frag} {h : Heap} {mg : Str → Option Value} {fa f0 f1 f2 f3 f4 f5 f6 f7 f8 f9 f10 f11 f12 f13 f14 f15 f16 f17 f18 f19 f20 : Addr} (X : K.In h) (G0 : h.Ns mainGlobals mg) (hfa : mg "law" = some (.ref fa))
    {od0 an0 od1 an1 od2 an2 od3 an3 od4 an4 od5 an5 od6 an6 od7 an7 od8 an8 od9 an9 od10 an10 od11 an11 od12 an12 od13 an13 od14 an14 od15 an15 od16 an16 od17 an17 od18 an18 od19 an19 od20 an20 : Option Addr} {sl0 sl1 sl2 sl3 sl4 sl5 sl6 sl7 sl8 sl9 sl10 sl11 sl12 sl13 sl14 sl15 sl16 sl17 sl18 sl19 sl20 : Array (Option Value)} {oc0 kV0 dc0 pm0 cd0 ct0 oc1 kV1 dc1 pm1 cd1 ct1 oc2 kV2 dc2 pm2 cd2 ct2 oc3 kV3 dc3 pm3 cd3 ct3 oc4 kV4 dc4 pm4 cd4 ct4 oc5 kV5 dc5 pm5 cd5 ct5 oc6 kV6 dc6 pm6 cd6 ct6 oc7 kV7 dc7 pm7 cd7 ct7 oc8 kV8 dc8 pm8 cd8 ct8 oc9 kV9 dc9 pm9 cd9 ct9 oc10 kV10 dc10 pm10 cd10 ct10 oc11 kV11 dc11 pm11 cd11 ct11 oc12 kV12 dc12 pm12 cd12 ct12 oc13 kV13 dc13 pm13 cd13 ct13 oc14 kV14 dc14 pm14 cd14 ct14 oc15 kV15 dc15 pm15 cd15 ct15 oc16 kV16 dc16 pm16 cd16 ct16 oc17 kV17 dc17 pm17 cd17 ct17 oc18 kV18 dc18 pm18 cd18 ct18 oc19 kV19 dc19 pm19 cd19 ct19 oc20 kV20 dc20 pm20 cd20 ct20 : Value}
    (a0 : PySem.W.nsIn K mainGlobals "within" = some (some (.ref f0))) (l0 : K.lookup f0 = some ⟨oc0, od0, .func (PySem.W.fnOf "within" "within" (defArgs s_within) (defBody s_within) (defScope s_within) .none kV0 dc0 pm0 an0 cd0 ct0), sl0⟩) (c0 : PySem.W.codeIn K cd0 "within" = true) (k0 : PySem.W.keepIn K (.ref f0) = true)
    (a1 : PySem.W.nsIn K mainGlobals "parts_of" = some (some (.ref f1))) (l1 : K.lookup f1 = some ⟨oc1, od1, .func (PySem.W.fnOf "parts_of" "parts_of" (defArgs s_parts_of) (defBody s_parts_of) (defScope s_parts_of) .none kV1 dc1 pm1 an1 cd1 ct1), sl1⟩) (c1 : PySem.W.codeIn K cd1 "parts_of" = true) (k1 : PySem.W.keepIn K (.ref f1) = true)
    (a2 : PySem.W.nsIn K mainGlobals "deep_of" = some (some (.ref f2))) (l2 : K.lookup f2 = some ⟨oc2, od2, .func (PySem.W.fnOf "deep_of" "deep_of" (defArgs s_deep_of) (defBody s_deep_of) (defScope s_deep_of) .none kV2 dc2 pm2 an2 cd2 ct2), sl2⟩) (c2 : PySem.W.codeIn K cd2 "deep_of" = true) (k2 : PySem.W.keepIn K (.ref f2) = true)
    {dT3 : Addr} {ocT3 : Value} {odT3 : Option Addr} {slT3 : Array (Option Value)} {tkT3 : Tok} {nT3 : Nat}
    (a3 : PySem.W.nsIn K mainGlobals "lifted" = some (some (.ref f3))) (l3 : K.lookup f3 = some ⟨oc3, od3, .func (PySem.W.fnOf "lifted" "lifted" (defArgs s_lifted) (defBody s_lifted) (defScope s_lifted) (.ref dT3) kV3 dc3 pm3 an3 cd3 ct3), sl3⟩) (c3 : PySem.W.codeIn K cd3 "lifted" = true) (k3 : PySem.W.keepIn K (.ref f3) = true)
    (lT3 : K.lookup dT3 = some ⟨ocT3, odT3, .seq #[.int 0 tkT3] nT3, slT3⟩)
    (a4 : PySem.W.nsIn K mainGlobals "term_for" = some (some (.ref f4))) (l4 : K.lookup f4 = some ⟨oc4, od4, .func (PySem.W.fnOf "term_for" "term_for" (defArgs s_term_for) (defBody s_term_for) (defScope s_term_for) .none kV4 dc4 pm4 an4 cd4 ct4), sl4⟩) (c4 : PySem.W.codeIn K cd4 "term_for" = true) (k4 : PySem.W.keepIn K (.ref f4) = true)
    (a5 : PySem.W.nsIn K mainGlobals "need_fit" = some (some (.ref f5))) (l5 : K.lookup f5 = some ⟨oc5, od5, .func (PySem.W.fnOf "need_fit" "need_fit" (defArgs s_need_fit) (defBody s_need_fit) (defScope s_need_fit) .none kV5 dc5 pm5 an5 cd5 ct5), sl5⟩) (c5 : PySem.W.codeIn K cd5 "need_fit" = true) (k5 : PySem.W.keepIn K (.ref f5) = true)
    (a6 : PySem.W.nsIn K mainGlobals "put" = some (some (.ref f6))) (l6 : K.lookup f6 = some ⟨oc6, od6, .func (PySem.W.fnOf "put" "put" (defArgs s_put) (defBody s_put) (defScope s_put) .none kV6 dc6 pm6 an6 cd6 ct6), sl6⟩) (c6 : PySem.W.codeIn K cd6 "put" = true) (k6 : PySem.W.keepIn K (.ref f6) = true)
    (a7 : PySem.W.nsIn K mainGlobals "put_in" = some (some (.ref f7))) (l7 : K.lookup f7 = some ⟨oc7, od7, .func (PySem.W.fnOf "put_in" "put_in" (defArgs s_put_in) (defBody s_put_in) (defScope s_put_in) .none kV7 dc7 pm7 an7 cd7 ct7), sl7⟩) (c7 : PySem.W.codeIn K cd7 "put_in" = true) (k7 : PySem.W.keepIn K (.ref f7) = true)
    (a8 : PySem.W.nsIn K mainGlobals "put_all" = some (some (.ref f8))) (l8 : K.lookup f8 = some ⟨oc8, od8, .func (PySem.W.fnOf "put_all" "put_all" (defArgs s_put_all) (defBody s_put_all) (defScope s_put_all) .none kV8 dc8 pm8 an8 cd8 ct8), sl8⟩) (c8 : PySem.W.codeIn K cd8 "put_all" = true) (k8 : PySem.W.keepIn K (.ref f8) = true)
    (a9 : PySem.W.nsIn K mainGlobals "_law_cell" = some (some (.ref f9))) (l9 : K.lookup f9 = some ⟨oc9, od9, .func (PySem.W.fnOf "_law_cell" "_law_cell" (defArgs s__law_cell) (defBody s__law_cell) (defScope s__law_cell) .none kV9 dc9 pm9 an9 cd9 ct9), sl9⟩) (c9 : PySem.W.codeIn K cd9 "_law_cell" = true) (k9 : PySem.W.keepIn K (.ref f9) = true)
    (a10 : PySem.W.nsIn K mainGlobals "_law_entries" = some (some (.ref f10))) (l10 : K.lookup f10 = some ⟨oc10, od10, .func (PySem.W.fnOf "_law_entries" "_law_entries" (defArgs s__law_entries) (defBody s__law_entries) (defScope s__law_entries) .none kV10 dc10 pm10 an10 cd10 ct10), sl10⟩) (c10 : PySem.W.codeIn K cd10 "_law_entries" = true) (k10 : PySem.W.keepIn K (.ref f10) = true)
    (a11 : PySem.W.nsIn K mainGlobals "_law_put" = some (some (.ref f11))) (l11 : K.lookup f11 = some ⟨oc11, od11, .func (PySem.W.fnOf "_law_put" "_law_put" (defArgs s__law_put) (defBody s__law_put) (defScope s__law_put) .none kV11 dc11 pm11 an11 cd11 ct11), sl11⟩) (c11 : PySem.W.codeIn K cd11 "_law_put" = true) (k11 : PySem.W.keepIn K (.ref f11) = true)
    (a12 : PySem.W.nsIn K mainGlobals "_law_any_term" = some (some (.ref f12))) (l12 : K.lookup f12 = some ⟨oc12, od12, .func (PySem.W.fnOf "_law_any_term" "_law_any_term" (defArgs s__law_any_term) (defBody s__law_any_term) (defScope s__law_any_term) .none kV12 dc12 pm12 an12 cd12 ct12), sl12⟩) (c12 : PySem.W.codeIn K cd12 "_law_any_term" = true) (k12 : PySem.W.keepIn K (.ref f12) = true)
    (a13 : PySem.W.nsIn K mainGlobals "_law_any_statement" = some (some (.ref f13))) (l13 : K.lookup f13 = some ⟨oc13, od13, .func (PySem.W.fnOf "_law_any_statement" "_law_any_statement" (defArgs s__law_any_statement) (defBody s__law_any_statement) (defScope s__law_any_statement) .none kV13 dc13 pm13 an13 cd13 ct13), sl13⟩) (c13 : PySem.W.codeIn K cd13 "_law_any_statement" = true) (k13 : PySem.W.keepIn K (.ref f13) = true)
    (a14 : PySem.W.nsIn K mainGlobals "_law_kids" = some (some (.ref f14))) (l14 : K.lookup f14 = some ⟨oc14, od14, .func (PySem.W.fnOf "_law_kids" "_law_kids" (defArgs s__law_kids) (defBody s__law_kids) (defScope s__law_kids) .none kV14 dc14 pm14 an14 cd14 ct14), sl14⟩) (c14 : PySem.W.codeIn K cd14 "_law_kids" = true) (k14 : PySem.W.keepIn K (.ref f14) = true)
    (a15 : PySem.W.nsIn K mainGlobals "_law_spots" = some (some (.ref f15))) (l15 : K.lookup f15 = some ⟨oc15, od15, .func (PySem.W.fnOf "_law_spots" "_law_spots" (defArgs s__law_spots) (defBody s__law_spots) (defScope s__law_spots) .none kV15 dc15 pm15 an15 cd15 ct15), sl15⟩) (c15 : PySem.W.codeIn K cd15 "_law_spots" = true) (k15 : PySem.W.keepIn K (.ref f15) = true)
    (a16 : PySem.W.nsIn K mainGlobals "_law_filled" = some (some (.ref f16))) (l16 : K.lookup f16 = some ⟨oc16, od16, .func (PySem.W.fnOf "_law_filled" "_law_filled" (defArgs s__law_filled) (defBody s__law_filled) (defScope s__law_filled) .none kV16 dc16 pm16 an16 cd16 ct16), sl16⟩) (c16 : PySem.W.codeIn K cd16 "_law_filled" = true) (k16 : PySem.W.keepIn K (.ref f16) = true)
    (a17 : PySem.W.nsIn K mainGlobals "_law_told_by" = some (some (.ref f17))) (l17 : K.lookup f17 = some ⟨oc17, od17, .func (PySem.W.fnOf "_law_told_by" "_law_told_by" (defArgs s__law_told_by) (defBody s__law_told_by) (defScope s__law_told_by) .none kV17 dc17 pm17 an17 cd17 ct17), sl17⟩) (c17 : PySem.W.codeIn K cd17 "_law_told_by" = true) (k17 : PySem.W.keepIn K (.ref f17) = true)
    (a18 : PySem.W.nsIn K mainGlobals "_law_tower" = some (some (.ref f18))) (l18 : K.lookup f18 = some ⟨oc18, od18, .func (PySem.W.fnOf "_law_tower" "_law_tower" (defArgs s__law_tower) (defBody s__law_tower) (defScope s__law_tower) .none kV18 dc18 pm18 an18 cd18 ct18), sl18⟩) (c18 : PySem.W.codeIn K cd18 "_law_tower" = true) (k18 : PySem.W.keepIn K (.ref f18) = true)
    (a19 : PySem.W.nsIn K mainGlobals "_law_great_right" = some (some (.ref f19))) (l19 : K.lookup f19 = some ⟨oc19, od19, .func (PySem.W.fnOf "_law_great_right" "_law_great_right" (defArgs s__law_great_right) (defBody s__law_great_right) (defScope s__law_great_right) .none kV19 dc19 pm19 an19 cd19 ct19), sl19⟩) (c19 : PySem.W.codeIn K cd19 "_law_great_right" = true) (k19 : PySem.W.keepIn K (.ref f19) = true)
    (a20 : PySem.W.nsIn K mainGlobals "law" = some (some (.ref f20))) (l20 : K.lookup f20 = some ⟨oc20, od20, .func (PySem.W.fnOf "law" "law" (defArgs s_law) (defBody s_law) (defScope s_law) .none kV20 dc20 pm20 an20 cd20 ct20), sl20⟩) (c20 : PySem.W.codeIn K cd20 "law" = true) (k20 : PySem.W.keepIn K (.ref f20) = true)
    (z_ValueError : PySem.W.nsIn K mainGlobals "ValueError" = some none)
    (z_enumerate : PySem.W.nsIn K mainGlobals "enumerate" = some none)
    (z_int : PySem.W.nsIn K mainGlobals "int" = some none)
    (z_isinstance : PySem.W.nsIn K mainGlobals "isinstance" = some none)
    (z_len : PySem.W.nsIn K mainGlobals "len" = some none)
    (z_list : PySem.W.nsIn K mainGlobals "list" = some none)
    (z_max : PySem.W.nsIn K mainGlobals "max" = some none)
    (z_min : PySem.W.nsIn K mainGlobals "min" = some none)
    (z_range : PySem.W.nsIn K mainGlobals "range" = some none)
    (z_tuple : PySem.W.nsIn K mainGlobals "tuple" = some none)
    {C_BadGround : Addr} (xa_BadGround : PySem.W.nsIn K mainGlobals "BadGround" = some (some (.ref C_BadGround)))
    {C_BadRoom : Addr} (xa_BadRoom : PySem.W.nsIn K mainGlobals "BadRoom" = some (some (.ref C_BadRoom)))
    {C_BadText : Addr} (xa_BadText : PySem.W.nsIn K mainGlobals "BadText" = some (some (.ref C_BadText)))
    {C_GroundError : Addr} (xa_GroundError : PySem.W.nsIn K mainGlobals "GroundError" = some (some (.ref C_GroundError)))
    {C_NoStep : Addr} (xa_NoStep : PySem.W.nsIn K mainGlobals "NoStep" = some (some (.ref C_NoStep)))
    {C_NoText : Addr} (xa_NoText : PySem.W.nsIn K mainGlobals "NoText" = some (some (.ref C_NoText)))
    {C_NotDone : Addr} (xa_NotDone : PySem.W.nsIn K mainGlobals "NotDone" = some (some (.ref C_NotDone)))
    {C_TooMany : Addr} (xa_TooMany : PySem.W.nsIn K mainGlobals "TooMany" = some (some (.ref C_TooMany)))
    (x1_TooMany : PySem.W.excIn K C_TooMany [.type "ValueError", .type "Exception", .type "BaseException", .type "object"] "ValueError.__new__" = true)
    (x2_TooMany : PySem.W.keepIn K (.ref C_TooMany) = true)
    (x3_TooMany : PySem.W.subIn K (.ref C_TooMany) (.type "BaseException") = some true)
    (x4_TooMany : PySem.W.typeIn K (.ref C_TooMany) = some (.type "type"))
    (y1_TooMany : PySem.W.findIn K (.ref C_TooMany) "__getattribute__" = some (some (.builtin "BaseException.__getattribute__")))
    (y2_TooMany : PySem.W.findIn K (.ref C_TooMany) "__getattr__" = some none)
    (y3_TooMany : PySem.W.hasDictIn K C_TooMany = true)
    (y4_TooMany : PySem.W.findIn K (.ref C_TooMany) "__class__" = some (some (.builtin "object.__class__")))
    (y5_TooMany : PySem.W.specialIn K (.builtin "object.__class__") "__get__" = some (some (.builtin "getset_descriptor.__get__")))
    (y6_TooMany : PySem.W.takesIn K (.builtin "object.__class__") = some true)
    (y7_TooMany : PySem.W.mroIn K C_TooMany (.type "object") = some true)
    (h1_BadGround : PySem.W.hasDictIn K C_BadGround = true)
    (h2_BadGround : PySem.W.typeIn K (.ref C_BadGround) = some (.type "type"))
    (h3_BadGround : PySem.W.subIn K (.ref C_BadGround) (.type "BaseException") = some true)
    (h1_BadRoom : PySem.W.hasDictIn K C_BadRoom = true)
    (h2_BadRoom : PySem.W.typeIn K (.ref C_BadRoom) = some (.type "type"))
    (h3_BadRoom : PySem.W.subIn K (.ref C_BadRoom) (.type "BaseException") = some true)
    (h1_BadText : PySem.W.hasDictIn K C_BadText = true)
    (h2_BadText : PySem.W.typeIn K (.ref C_BadText) = some (.type "type"))
    (h3_BadText : PySem.W.subIn K (.ref C_BadText) (.type "BaseException") = some true)
    (h1_GroundError : PySem.W.hasDictIn K C_GroundError = true)
    (h2_GroundError : PySem.W.typeIn K (.ref C_GroundError) = some (.type "type"))
    (h3_GroundError : PySem.W.subIn K (.ref C_GroundError) (.type "BaseException") = some true)
    (h1_NoStep : PySem.W.hasDictIn K C_NoStep = true)
    (h2_NoStep : PySem.W.typeIn K (.ref C_NoStep) = some (.type "type"))
    (h3_NoStep : PySem.W.subIn K (.ref C_NoStep) (.type "BaseException") = some true)
    (h1_NoText : PySem.W.hasDictIn K C_NoText = true)
    (h2_NoText : PySem.W.typeIn K (.ref C_NoText) = some (.type "type"))
    (h3_NoText : PySem.W.subIn K (.ref C_NoText) (.type "BaseException") = some true)
    (h1_NotDone : PySem.W.hasDictIn K C_NotDone = true)
    (h2_NotDone : PySem.W.typeIn K (.ref C_NotDone) = some (.type "type"))
    (h3_NotDone : PySem.W.subIn K (.ref C_NotDone) (.type "BaseException") = some true)
    (h1_TooMany : PySem.W.hasDictIn K C_TooMany = true)
    (h2_TooMany : PySem.W.typeIn K (.ref C_TooMany) = some (.type "type"))
    (h3_TooMany : PySem.W.subIn K (.ref C_TooMany) (.type "BaseException") = some true)
    (s_TooMany_BadGround : PySem.W.subIn K (.ref C_TooMany) (.ref C_BadGround) = some false)
    (ne_TooMany_BadGround : (Value.ref C_TooMany == Value.ref C_BadGround) = false)
    (s_TooMany_BadRoom : PySem.W.subIn K (.ref C_TooMany) (.ref C_BadRoom) = some false)
    (ne_TooMany_BadRoom : (Value.ref C_TooMany == Value.ref C_BadRoom) = false)
    (s_TooMany_BadText : PySem.W.subIn K (.ref C_TooMany) (.ref C_BadText) = some false)
    (ne_TooMany_BadText : (Value.ref C_TooMany == Value.ref C_BadText) = false)
    (s_TooMany_GroundError : PySem.W.subIn K (.ref C_TooMany) (.ref C_GroundError) = some true)
    (ne_TooMany_GroundError : (Value.ref C_TooMany == Value.ref C_GroundError) = false)
    (s_TooMany_NoStep : PySem.W.subIn K (.ref C_TooMany) (.ref C_NoStep) = some false)
    (ne_TooMany_NoStep : (Value.ref C_TooMany == Value.ref C_NoStep) = false)
    (s_TooMany_NoText : PySem.W.subIn K (.ref C_TooMany) (.ref C_NoText) = some false)
    (ne_TooMany_NoText : (Value.ref C_TooMany == Value.ref C_NoText) = false)
    (s_TooMany_NotDone : PySem.W.subIn K (.ref C_TooMany) (.ref C_NotDone) = some false)
    (ne_TooMany_NotDone : (Value.ref C_TooMany == Value.ref C_NotDone) = false)
    (s_TooMany_ValueError : PySem.W.subIn K (.ref C_TooMany) (.type "ValueError") = some true)
    {ca_BOUND : Addr} {dd_BOUND : Option Addr} {ss_BOUND : Array (Option Value)} {tk0_BOUND tk1_BOUND : Tok} {nn_BOUND : Nat} (g_BOUND : PySem.W.nsIn K mainGlobals "BOUND" = some (some (.ref ca_BOUND))) (gl_BOUND : K.lookup ca_BOUND = some ⟨.type "tuple", dd_BOUND, .seq #[.str "all" tk0_BOUND, .str "some" tk1_BOUND] nn_BOUND, ss_BOUND⟩)
    {ca_CALLED : Addr} {dd_CALLED : Option Addr} {ss_CALLED : Array (Option Value)} {tk0_CALLED tk1_CALLED : Tok} {nn_CALLED : Nat} (g_CALLED : PySem.W.nsIn K mainGlobals "CALLED" = some (some (.ref ca_CALLED))) (gl_CALLED : K.lookup ca_CALLED = some ⟨.type "tuple", dd_CALLED, .seq #[.str "call" tk0_CALLED, .str "rel" tk1_CALLED] nn_CALLED, ss_CALLED⟩)
    {ca_JOINED : Addr} {dd_JOINED : Option Addr} {ss_JOINED : Array (Option Value)} {tk0_JOINED tk1_JOINED tk2_JOINED tk3_JOINED : Tok} {nn_JOINED : Nat} (g_JOINED : PySem.W.nsIn K mainGlobals "JOINED" = some (some (.ref ca_JOINED))) (gl_JOINED : K.lookup ca_JOINED = some ⟨.type "tuple", dd_JOINED, .seq #[.str "same" tk0_JOINED, .str "and" tk1_JOINED, .str "or" tk2_JOINED, .str "if" tk3_JOINED] nn_JOINED, ss_JOINED⟩)
    {tk_MOST_FOUND : Tok} (g_MOST_FOUND : PySem.W.nsIn K mainGlobals "MOST_FOUND" = some (some (.int 4000 tk_MOST_FOUND)))
    {tk_MOST_FOUND_DEEP : Tok} (g_MOST_FOUND_DEEP : PySem.W.nsIn K mainGlobals "MOST_FOUND_DEEP" = some (some (.int 120 tk_MOST_FOUND_DEEP)))
    (hp : ∀ ns : List Int, ns.length ≤ 63 → (∀ z ∈ ns, Builtin.Int.intBits z ≤ 1048576) → ∃ z1 z', m_law_pre (zS 19 ns) = .ok .nx z1 ∧ m_law (mir lawLevel) ⟨z1.rho.set 2 (some (.m 0)), 0⟩ = .ok (.rt (.d (.bl true))) z') :
    ∃ fd : FuncData, (∀ (s : Shared) (v : Value), BindsTo s fd ⟨[v], []⟩ [("_law_script", v)]) ∧ ∀ base : Heap, K.In base → base.Ns mainGlobals mg → FnG l.prog w K mg base (L2.CX l.prog w) (lawLevel + 9) fa fd ["_law_script"] (spLaw K) := by
  have e := hfa.symm.trans (PySem.W.mg_of X G0 a20)
  cases e
  have T : Tt K mg C_BadGround C_BadRoom C_BadText C_GroundError C_NoStep C_NoText C_NotDone C_TooMany := ⟨fnIn_mk X G0 a0 l0 c0 k0 (fun _ _ _ _ _ _ us hl => match us, hl with | [_], _ => rfl), fnIn_mk X G0 a1 l1 c1 k1 (fun _ _ _ _ _ _ us hl => match us, hl with | [_], _ => rfl), fnIn_mk X G0 a2 l2 c2 k2 (fun _ _ _ _ _ _ us hl => match us, hl with | [_], _ => rfl), fnIn_mkD X G0 a3 l3 c3 k3 lT3 (fun _ _ _ _ _ _ us its hl hi => match us, its, hl, hi with | [_, _, _], [_], _, _ => ⟨_, rfl, rfl⟩) (fun _ _ _ _ _ _ us its hl hi => match us, its, hl, hi with | [_, _], [_], _, _ => ⟨_, rfl, rfl⟩) (by decide), fnIn_mk X G0 a4 l4 c4 k4 (fun _ _ _ _ _ _ us hl => match us, hl with | [_, _], _ => rfl), fnIn_mk X G0 a5 l5 c5 k5 (fun _ _ _ _ _ _ us hl => match us, hl with | [_, _], _ => rfl), fnIn_mk X G0 a6 l6 c6 k6 (fun _ _ _ _ _ _ us hl => match us, hl with | [_, _, _], _ => rfl), fnIn_mk X G0 a7 l7 c7 k7 (fun _ _ _ _ _ _ us hl => match us, hl with | [_, _], _ => rfl), fnIn_mk X G0 a8 l8 c8 k8 (fun _ _ _ _ _ _ us hl => match us, hl with | [_, _], _ => rfl), fnIn_mk X G0 a9 l9 c9 k9 (fun _ _ _ _ _ _ us hl => match us, hl with | [_, _], _ => rfl), fnIn_mk X G0 a10 l10 c10 k10 (fun _ _ _ _ _ _ us hl => match us, hl with | [_], _ => rfl), fnIn_mk X G0 a11 l11 c11 k11 (fun _ _ _ _ _ _ us hl => match us, hl with | [_, _, _], _ => rfl), fnIn_mk X G0 a12 l12 c12 k12 (fun _ _ _ _ _ _ us hl => match us, hl with | [_, _, _, _, _, _], _ => rfl), fnIn_mk X G0 a13 l13 c13 k13 (fun _ _ _ _ _ _ us hl => match us, hl with | [_, _, _, _, _], _ => rfl), fnIn_mk X G0 a14 l14 c14 k14 (fun _ _ _ _ _ _ us hl => match us, hl with | [_], _ => rfl), fnIn_mk X G0 a15 l15 c15 k15 (fun _ _ _ _ _ _ us hl => match us, hl with | [_, _, _, _], _ => rfl), fnIn_mk X G0 a16 l16 c16 k16 (fun _ _ _ _ _ _ us hl => match us, hl with | [_, _, _, _], _ => rfl), fnIn_mk X G0 a17 l17 c17 k17 (fun _ _ _ _ _ _ us hl => match us, hl with | [_, _], _ => rfl), fnIn_mk X G0 a18 l18 c18 k18 (fun _ _ _ _ _ _ us hl => match us, hl with | [_, _, _], _ => rfl), fnIn_mk X G0 a19 l19 c19 k19 (fun _ _ _ _ _ _ us hl => match us, hl with | [_, _], _ => rfl), PySem.W.mg_none_of X G0 z_ValueError, PySem.W.mg_none_of X G0 z_enumerate, PySem.W.mg_none_of X G0 z_int, PySem.W.mg_none_of X G0 z_isinstance, PySem.W.mg_none_of X G0 z_len, PySem.W.mg_none_of X G0 z_list, PySem.W.mg_none_of X G0 z_max, PySem.W.mg_none_of X G0 z_min, PySem.W.mg_none_of X G0 z_range, PySem.W.mg_none_of X G0 z_tuple, glD_strs ["all", "some"] (PySem.W.mg_of X G0 g_BOUND) gl_BOUND rfl rfl (.cons ⟨_, rfl⟩ (.cons ⟨_, rfl⟩ .nil)) (by decide), glD_strs ["call", "rel"] (PySem.W.mg_of X G0 g_CALLED) gl_CALLED rfl rfl (.cons ⟨_, rfl⟩ (.cons ⟨_, rfl⟩ .nil)) (by decide), glD_strs ["same", "and", "or", "if"] (PySem.W.mg_of X G0 g_JOINED) gl_JOINED rfl rfl (.cons ⟨_, rfl⟩ (.cons ⟨_, rfl⟩ (.cons ⟨_, rfl⟩ (.cons ⟨_, rfl⟩ .nil)))) (by decide), ⟨.int 4000, _, PySem.W.mg_of X G0 g_MOST_FOUND, ⟨_, rfl⟩, fun _ => .int _⟩, ⟨.int 120, _, PySem.W.mg_of X G0 g_MOST_FOUND_DEEP, ⟨_, rfl⟩, fun _ => .int _⟩, PySem.W.mg_of X G0 xa_BadGround, PySem.W.mg_of X G0 xa_BadRoom, PySem.W.mg_of X G0 xa_BadText, PySem.W.mg_of X G0 xa_GroundError, PySem.W.mg_of X G0 xa_NoStep, PySem.W.mg_of X G0 xa_NoText, PySem.W.mg_of X G0 xa_NotDone, PySem.W.mg_of X G0 xa_TooMany, ⟨xa_TooMany, PySem.W.mg_of X G0 xa_TooMany, x1_TooMany, x2_TooMany, x3_TooMany, x4_TooMany⟩, ⟨y1_TooMany, y2_TooMany, x3_TooMany, y3_TooMany, y4_TooMany, y5_TooMany, y6_TooMany, y7_TooMany⟩, PySem.W.exm_ref h3_GroundError h1_GroundError h2_GroundError s_TooMany_GroundError, (any_no (kit_own h1_BadGround h2_BadGround s_TooMany_BadGround ne_TooMany_BadGround) (any_no (kit_own h1_BadRoom h2_BadRoom s_TooMany_BadRoom ne_TooMany_BadRoom) (any_no (kit_own h1_BadText h2_BadText s_TooMany_BadText ne_TooMany_BadText) (any_no (kit_own h1_NoStep h2_NoStep s_TooMany_NoStep ne_TooMany_NoStep) (any_no (kit_own h1_NoText h2_NoText s_TooMany_NoText ne_TooMany_NoText) (any_no (kit_own h1_NotDone h2_NotDone s_TooMany_NotDone ne_TooMany_NotDone) any_nil)))))), kit_self, (kit_blt (by decide +kernel) s_TooMany_ValueError)⟩
  exact ⟨PySem.W.fnOf "law" "law" (defArgs s_law) (defBody s_law) (defScope s_law) .none kV20 dc20 pm20 an20 cd20 ct20, fun s v => .of_eq rfl, fun base _ _ => d_law T (funD_mk (st := s_law) l20 c20 k20) hp⟩
end L
namespace L
open PySem L2 G
theorem wv_var : dEq (.str "var") (.str "var") = some (.d (.bl true)) := by kernel_rfl
theorem wc_var : dIn (.str "var") c_CALLED = some (.d (.bl false)) := by kernel_rfl
theorem wj_var : dIn (.str "var") c_JOINED = some (.d (.bl false)) := by kernel_rfl
theorem wb_var : dIn (.str "var") c_BOUND = some (.d (.bl false)) := by kernel_rfl
theorem wv_call : dEq (.str "call") (.str "var") = some (.d (.bl false)) := by kernel_rfl
theorem wc_call : dIn (.str "call") c_CALLED = some (.d (.bl true)) := by kernel_rfl
theorem wj_call : dIn (.str "call") c_JOINED = some (.d (.bl false)) := by kernel_rfl
theorem wb_call : dIn (.str "call") c_BOUND = some (.d (.bl false)) := by kernel_rfl
theorem wv_rel : dEq (.str "rel") (.str "var") = some (.d (.bl false)) := by kernel_rfl
theorem wc_rel : dIn (.str "rel") c_CALLED = some (.d (.bl true)) := by kernel_rfl
theorem wj_rel : dIn (.str "rel") c_JOINED = some (.d (.bl false)) := by kernel_rfl
theorem wb_rel : dIn (.str "rel") c_BOUND = some (.d (.bl false)) := by kernel_rfl
theorem wv_same : dEq (.str "same") (.str "var") = some (.d (.bl false)) := by kernel_rfl
theorem wc_same : dIn (.str "same") c_CALLED = some (.d (.bl false)) := by kernel_rfl
theorem wj_same : dIn (.str "same") c_JOINED = some (.d (.bl true)) := by kernel_rfl
theorem wb_same : dIn (.str "same") c_BOUND = some (.d (.bl false)) := by kernel_rfl
theorem wv_no : dEq (.str "no") (.str "var") = some (.d (.bl false)) := by kernel_rfl
theorem wc_no : dIn (.str "no") c_CALLED = some (.d (.bl false)) := by kernel_rfl
theorem wj_no : dIn (.str "no") c_JOINED = some (.d (.bl false)) := by kernel_rfl
theorem wb_no : dIn (.str "no") c_BOUND = some (.d (.bl false)) := by kernel_rfl
theorem wv_and : dEq (.str "and") (.str "var") = some (.d (.bl false)) := by kernel_rfl
theorem wc_and : dIn (.str "and") c_CALLED = some (.d (.bl false)) := by kernel_rfl
theorem wj_and : dIn (.str "and") c_JOINED = some (.d (.bl true)) := by kernel_rfl
theorem wb_and : dIn (.str "and") c_BOUND = some (.d (.bl false)) := by kernel_rfl
theorem wv_or : dEq (.str "or") (.str "var") = some (.d (.bl false)) := by kernel_rfl
theorem wc_or : dIn (.str "or") c_CALLED = some (.d (.bl false)) := by kernel_rfl
theorem wj_or : dIn (.str "or") c_JOINED = some (.d (.bl true)) := by kernel_rfl
theorem wb_or : dIn (.str "or") c_BOUND = some (.d (.bl false)) := by kernel_rfl
theorem wv_if : dEq (.str "if") (.str "var") = some (.d (.bl false)) := by kernel_rfl
theorem wc_if : dIn (.str "if") c_CALLED = some (.d (.bl false)) := by kernel_rfl
theorem wj_if : dIn (.str "if") c_JOINED = some (.d (.bl true)) := by kernel_rfl
theorem wb_if : dIn (.str "if") c_BOUND = some (.d (.bl false)) := by kernel_rfl
theorem wv_all : dEq (.str "all") (.str "var") = some (.d (.bl false)) := by kernel_rfl
theorem wc_all : dIn (.str "all") c_CALLED = some (.d (.bl false)) := by kernel_rfl
theorem wj_all : dIn (.str "all") c_JOINED = some (.d (.bl false)) := by kernel_rfl
theorem wb_all : dIn (.str "all") c_BOUND = some (.d (.bl true)) := by kernel_rfl
theorem wv_some : dEq (.str "some") (.str "var") = some (.d (.bl false)) := by kernel_rfl
theorem wc_some : dIn (.str "some") c_CALLED = some (.d (.bl false)) := by kernel_rfl
theorem wj_some : dIn (.str "some") c_JOINED = some (.d (.bl false)) := by kernel_rfl
theorem wb_some : dIn (.str "some") c_BOUND = some (.d (.bl true)) := by kernel_rfl
local macro_rules | `(tactic| walk_at "ex") => `(tactic| try simp only [sSeq, sSet, sExpr, sRet, sIf, sAsg, una, escf, escS, opd, eVar, eC, eBin, eUn, eFn, eCall, eTup, eLst, aCons, aNil, fin, rd, rds, R.toS, dsOf, Rs.bind_ok, Rs.bind_bad, Rs.bind_ex, Rs.opt_some, Option.bind_some, Option.map_some, ownAt, eExt, eApp, ePop, List.getElem?_cons_zero, List.getElem?_cons_succ, List.set_cons_zero, List.set_cons_succ, okArg, List.all_cons, List.all_nil, Bool.and_self, if_true, kName, kTup, ksCons, ksNil, fMax, tOf, List.length_cons, List.length_nil, Bool.not_false, Bool.not_true, if_false, Bool.false_eq_true, lm0, lm1, lm2, lm3, lm4, lm5, lm6, lm7, lm8, lm9, lm10, lm11, lm12, fnM, List.map_cons, List.map_nil, List.replicate, List.cons_append, List.nil_append, Nat.reduceAdd, Nat.reduceSub, sNil, tAndM, tOrM, tNotM, tTru, dTru, eIf, dSub_i, dAdd_i, dLt_i, dLe_i, dGt_i, dGe_i, dEq_i, decide_true, decide_false, eChain, eAndM, eSl, oInt, dNeg, dIx, atI0, atI1, atI2, aDef, fTuple, wv_var, wc_var, wj_var, wb_var, wv_call, wc_call, wj_call, wb_call, wv_rel, wc_rel, wj_rel, wb_rel, wv_same, wc_same, wj_same, wb_same, wv_no, wc_no, wj_no, wb_no, wv_and, wc_and, wj_and, wb_and, wv_or, wc_or, wj_or, wb_or, wv_if, wc_if, wj_if, wb_if, wv_all, wc_all, wj_all, wb_all, wv_some, wc_some, wj_some, wb_some])
theorem within_eq (n : Nat) (t : Th) (m : Int) : mir (n + 1) .within [.d (enc t)] m = .ok (.l (encs (kids t))) m := by
  cases t <;> kernel_rfl
mutual
def lift (k : Int) : Th → Int → Th
  | .var v, a => if a ≤ v then .var (v + k) else .var v
  | .call f as, a => .call f (lifts k as a)
  | .rel f as, a => .rel f (lifts k as a)
  | .same x y, a => .same (lift k x a) (lift k y a)
  | .no, _ => .no
  | .and x y, a => .and (lift k x a) (lift k y a)
  | .or x y, a => .or (lift k x a) (lift k y a)
  | .imp x y, a => .imp (lift k x a) (lift k y a)
  | .all s x, a => .all s (lift k x (a + 1))
  | .some s x, a => .some s (lift k x (a + 1))
def lifts (k : Int) : List Th → Int → List Th
  | [], _ => []
  | t :: r, a => lift k t a :: lifts k r a
end
theorem lifts_map (k a : Int) : ∀ ts : List Th, lifts k ts a = ts.map fun t => lift k t a
  | [] => by rw [lifts]; rfl
  | t :: r => by rw [lifts, lifts_map k a r]; rfl
theorem depths_le {ts : List Th} {n : Nat} (h : depths ts ≤ n) : ∀ t ∈ ts, depth t ≤ n := by
  induction ts with
  | nil => intro t ht; cases ht
  | cons u r ih =>
    rw [depths] at h
    intro t ht
    rcases List.mem_cons.mp ht with rfl | ht
    · omega
    · exact ih (by omega) t ht
theorem mem_sizes {t : Th} : ∀ {ts : List Th}, t ∈ ts → size t ≤ sizes ts
  | u :: r, h => by
    rw [sizes]
    rcases List.mem_cons.mp h with rfl | h
    · omega
    · have := mem_sizes h; omega
theorem lift_call {c : List S → Int → Rs S Int} {s0 k a w : D} {x y : D} (m : Int) (h : c [.d x, .d k, .d a] m = .ok (.d y) m) : escf (eCall c (aCons (escf (eVar 4)) (aCons (escf (eVar 1)) (aCons (escf (eVar 2)) aNil))) : Sm M2 S) ⟨[some (.d s0), some (.d k), some (.d a), some (.d w), some (.d x)], m⟩ = .ok (.d y) ⟨[some (.d s0), some (.d k), some (.d a), some (.d w), some (.d x)], m⟩ := by
  walk_at "ex"
  rw [h]
  walk_at "ex"
theorem lift_lc {c : List S → Int → Rs S Int} {w f : D} {k a : Int} {as : List Th} (m : Int) (hl : as.length ≤ lim) (h : ∀ u ∈ as, c [.d (enc u), .d (.int k), .d (.int a)] m = .ok (.d (enc (lift k u a))) m) :
    (eLc (iAnyM (eBin dIx (eVar 0) (eC (.int 2)))) (kName 4) (fun z => .ok true z) (eCall c (aCons (escf (eVar 4)) (aCons (escf (eVar 1)) (aCons (escf (eVar 2)) aNil)))) [4] : Sm M2 S) ⟨[some (.d (.tup [w, f, .tup (encs as)])), some (.d (.int k)), some (.d (.int a)), some (.d w), none], m⟩ = .ok (.l (encs (lifts k as a))) ⟨[some (.d (.tup [w, f, .tup (encs as)])), some (.d (.int k)), some (.d (.int a)), some (.d w), none], m⟩ := by
  have e : encs (lifts k as a) = as.map fun u => enc (lift k u a) := by rw [lifts_map, encs_map, List.map_map]; rfl
  rw [e]
  refine elc_map (M := M2) enc (g := fun u => enc (lift k u a)) (ts := as) ?_ rfl hl (fun u hu => lift_call m (h u hu))
  rw [encs_map]
  rfl
theorem lifted_eq : ∀ (n : Nat) (t : Th) (k a : Int) (m : Int), depth t ≤ n → size t ≤ 900000 → mir (n + 1) .lifted [.d (enc t), .d (.int k), .d (.int a)] m = .ok (.d (enc (lift k t a))) m
  | 0, t, _, _, _, h, _ => by rw [depth_kids] at h; omega
  | n + 1, t, k, a, m, h, hs => by
    rw [depth_kids] at h
    rw [size_kids] at hs
    have hl := sizes_len (kids t)
    have ih : ∀ u ∈ kids t, ∀ a : Int, mir (n + 1) .lifted [.d (enc u), .d (.int k), .d (.int a)] m = .ok (.d (enc (lift k u a))) m := fun u hu a => lifted_eq n u k a m (depths_le (by omega) u hu) (by have := mem_sizes hu; omega)
    show fnM 5 (m_lifted (mir (n + 1))) [.d (enc t), .d (.int k), .d (.int a)] m = _
    unfold m_lifted
    cases t with
    | var v =>
      rw [enc, lift]
      walk_at "ex"
      by_cases c : a ≤ v
      · simp only [c]
        walk_at "ex"
        rw [enc]
      · simp only [c]
        walk_at "ex"
        rw [enc]
    | call f as =>
      have l1 := lift_lc (w := .str "call") (f := .str f) m (show as.length ≤ 1000000 by simp only [kids] at hs hl; omega) (fun u hu => ih u hu a)
      rw [enc, lift]
      walk_at "ex"
      rw [l1]
      walk_at "ex"
      rw [enc]
    | rel f as =>
      have l1 := lift_lc (w := .str "rel") (f := .str f) m (show as.length ≤ 1000000 by simp only [kids] at hs hl; omega) (fun u hu => ih u hu a)
      rw [enc, lift]
      walk_at "ex"
      rw [l1]
      walk_at "ex"
      rw [enc]
    | no =>
      rw [lift, enc]
      walk_at "ex"
    | same x y =>
      rw [enc, lift]
      walk_at "ex"
      rw [ih x (by simp [kids]) a]
      walk_at "ex"
      rw [ih y (by simp [kids]) a]
      walk_at "ex"
      rw [enc]
    | and x y =>
      rw [enc, lift]
      walk_at "ex"
      rw [ih x (by simp [kids]) a]
      walk_at "ex"
      rw [ih y (by simp [kids]) a]
      walk_at "ex"
      rw [enc]
    | or x y =>
      rw [enc, lift]
      walk_at "ex"
      rw [ih x (by simp [kids]) a]
      walk_at "ex"
      rw [ih y (by simp [kids]) a]
      walk_at "ex"
      rw [enc]
    | imp x y =>
      rw [enc, lift]
      walk_at "ex"
      rw [ih x (by simp [kids]) a]
      walk_at "ex"
      rw [ih y (by simp [kids]) a]
      walk_at "ex"
      rw [enc]
    | all s x =>
      rw [enc, lift]
      walk_at "ex"
      rw [ih x (by simp [kids]) (a + 1)]
      walk_at "ex"
      rw [enc]
    | some s x =>
      rw [enc, lift]
      walk_at "ex"
      rw [ih x (by simp [kids]) (a + 1)]
      walk_at "ex"
      rw [enc]
def bnd : Th → Nat
  | .all _ _ => 1
  | .some _ _ => 1
  | _ => 0
end L
namespace L
open PySem L2 G
local macro_rules | `(tactic| walk_at "ex") => `(tactic| try simp only [sSeq, sSet, sExpr, sRet, sIf, sAsg, una, escf, escS, opd, eVar, eC, eBin, eUn, eFn, eCall, eTup, eLst, aCons, aNil, fin, rd, rds, R.toS, dsOf, Rs.bind_ok, Rs.bind_bad, Rs.bind_ex, Rs.opt_some, Option.bind_some, Option.map_some, ownAt, eExt, eApp, ePop, List.getElem?_cons_zero, List.getElem?_cons_succ, List.set_cons_zero, List.set_cons_succ, okArg, List.all_cons, List.all_nil, Bool.and_self, if_true, kName, kTup, ksCons, ksNil, fMax, tOf, List.length_cons, List.length_nil, Bool.not_false, Bool.not_true, if_false, Bool.false_eq_true, lm0, lm1, lm2, lm3, lm4, lm5, lm6, lm7, lm8, lm9, lm10, lm11, lm12, fnM, List.map_cons, List.map_nil, List.replicate, List.cons_append, List.nil_append, Nat.reduceAdd, Nat.reduceSub, sNil, tAndM, tOrM, tNotM, tTru, dTru, eIf, dSub_i, dAdd_i, dLt_i, dLe_i, dGt_i, dGe_i, dEq_i, decide_true, decide_false, eChain, eAndM, eSl, oInt, dNeg, dIx, atI0, atI1, atI2, aDef, fTuple, wv_var, wc_var, wj_var, wb_var, wv_call, wc_call, wj_call, wb_call, wv_rel, wc_rel, wj_rel, wb_rel, wv_same, wc_same, wj_same, wb_same, wv_no, wc_no, wj_no, wb_no, wv_and, wc_and, wj_and, wb_and, wv_or, wc_or, wj_or, wb_or, wv_if, wc_if, wj_if, wb_if, wv_all, wc_all, wj_all, wb_all, wv_some, wc_some, wj_some, wb_some])
local macro_rules | `(tactic| walk_at "ey") => `(tactic| try simp only [sSeq, sSet, sExpr, sRet, sIf, sAsg, una, escf, escS, opd, eVar, eC, eBin, eUn, eFn, eCall, eTup, eLst, aCons, aNil, fin, rd, rds, R.toS, dsOf, Rs.bind_ok, Rs.bind_bad, Rs.bind_ex, Rs.opt_some, Option.bind_some, Option.map_some, ownAt, eExt, eApp, ePop, List.getElem?_cons_zero, List.getElem?_cons_succ, List.set_cons_zero, List.set_cons_succ, okArg, List.all_cons, List.all_nil, Bool.and_self, if_true, kName, kTup, ksCons, ksNil, fMax, tOf, List.length_cons, List.length_nil, Bool.not_false, Bool.not_true, if_false, Bool.false_eq_true, lm0, lm1, lm2, lm3, lm4, lm5, lm6, lm7, lm8, lm9, lm10, lm11, lm12, fnM, List.map_cons, List.map_nil, List.replicate, List.cons_append, List.nil_append, Nat.reduceAdd, Nat.reduceSub, sNil, tAndM, tOrM, tNotM, tTru, dTru, eIf, dSub_i, dAdd_i, dLt_i, dLe_i, dGt_i, dGe_i, dEq_i, decide_true, decide_false, eChain, eAndM, eSl, oInt, dNeg, fInt, aDef, fTuple])
def wd : Th → Str
  | .var _ => "var"
  | .call _ _ => "call"
  | .rel _ _ => "rel"
  | .same _ _ => "same"
  | .no => "no"
  | .and _ _ => "and"
  | .or _ _ => "or"
  | .imp _ _ => "if"
  | .all _ _ => "all"
  | .some _ _ => "some"
theorem hd0 (t : Th) : dIx (enc t) (.int 0) = some (.d (.str (wd t))) := by
  cases t <;> kernel_rfl
theorem wdB (t : Th) : dIn (.str (wd t)) c_BOUND = some (.d (.bl (bnd t == 1))) := by
  cases t <;> kernel_rfl
def isVar : Th → Bool
  | .var _ => true
  | _ => false
theorem wdV (t : Th) : dEq (.str (wd t)) (.str "var") = some (.d (.bl (isVar t))) := by
  cases t <;> kernel_rfl
theorem bnd_int (t : Th) : (if (bnd t == 1) = true then (1 : Int) else 0) = ((bnd t : Nat) : Int) := by
  cases t <;> rfl
theorem split_lastP {α : Type} (ts : List α) : ts = [] ∨ ∃ r t, ts = r ++ [t] := by
  rcases List.eq_nil_or_concat ts with h | ⟨r, t, h⟩
  · exact .inl h
  · exact .inr ⟨r, t, by simpa using h⟩
/-! term_for -/
def Sq (X : D) (xs : List D) : Prop := fLen [X] = some (.d (.int (xs.length : Nat))) ∧ ∀ j, dIx X (.int j) = (atI xs j).map .d
theorem sq_tup (xs : List D) : Sq (.tup xs) xs := ⟨rfl, fun _ => rfl⟩
theorem sq_lst (xs : List D) : Sq (.lst xs) xs := ⟨rfl, fun _ => rfl⟩
theorem tf_some {X : D} {xs : List D} (sq : Sq X xs) {i : Nat} {d : D} (n : Nat) (m : Int) (h : xs.reverse[i]? = some d) : mir (n + 1) .term_for [.d X, .d (.int (i : Int))] m = .ok (.d d) m := by
  have hi : i < xs.length := by
    have := List.getElem?_eq_some_iff.mp h
    obtain ⟨q, _⟩ := this
    rwa [List.length_reverse] at q
  have ea : atI xs ((xs.length : Nat) - 1 - (i : Int)) = some d := by
    unfold atI ixN
    rw [if_pos (by omega), if_pos (by omega), Option.bind_some]
    have e : ((xs.length : Nat) - 1 - (i : Int) : Int).toNat = xs.length - 1 - i := by omega
    rw [e, ← h, List.getElem?_reverse hi]
  show fnM 2 (m_term_for (mir n)) [.d X, .d (.int (i : Int))] m = _
  unfold m_term_for
  have c1 : (0 : Int) ≤ (i : Int) := by omega
  have c2 : (i : Int) < ((xs.length : Nat) : Int) := by omega
  have fl := sq.1
  walk_at "ey"
  simp only [c1]
  walk_at "ey"
  rw [fl]
  walk_at "ey"
  simp only [c2]
  walk_at "ey"
  rw [fl]
  walk_at "ey"
  rw [sq.2, ea]
  walk_at "ey"
theorem tf_none {X : D} {xs : List D} (sq : Sq X xs) {i : Int} (n : Nat) (m : Int) (h : i < 0 ∨ ((xs.length : Nat) : Int) ≤ i) : mir (n + 1) .term_for [.d X, .d (.int i)] m = .ok (.d .non) m := by
  show fnM 2 (m_term_for (mir n)) [.d X, .d (.int i)] m = _
  unfold m_term_for
  have fl := sq.1
  by_cases c1 : (0 : Int) ≤ i
  · have c2 : ¬ i < ((xs.length : Nat) : Int) := by omega
    walk_at "ey"
    simp only [c1]
    walk_at "ey"
    rw [fl]
    walk_at "ey"
    simp only [c2]
    walk_at "ey"
  · walk_at "ey"
    simp only [c1]
    walk_at "ey"
end L
namespace L
open PySem L2 G
local macro_rules | `(tactic| walk_at "ex") => `(tactic| try simp only [sSeq, sSet, sExpr, sRet, sIf, sAsg, una, escf, escS, opd, eVar, eC, eBin, eUn, eFn, eCall, eTup, eLst, aCons, aNil, fin, rd, rds, R.toS, dsOf, Rs.bind_ok, Rs.bind_bad, Rs.bind_ex, Rs.opt_some, Option.bind_some, Option.map_some, ownAt, eExt, eApp, ePop, List.getElem?_cons_zero, List.getElem?_cons_succ, List.set_cons_zero, List.set_cons_succ, okArg, List.all_cons, List.all_nil, Bool.and_self, if_true, kName, kTup, ksCons, ksNil, fMax, tOf, List.length_cons, List.length_nil, Bool.not_false, Bool.not_true, if_false, Bool.false_eq_true, lm0, lm1, lm2, lm3, lm4, lm5, lm6, lm7, lm8, lm9, lm10, lm11, lm12, fnM, List.map_cons, List.map_nil, List.replicate, List.cons_append, List.nil_append, Nat.reduceAdd, Nat.reduceSub, sNil, tAndM, tOrM, tNotM, tTru, dTru, eIf, dSub_i, dAdd_i, dLt_i, dLe_i, dGt_i, dGe_i, dEq_i, decide_true, decide_false, eChain, eAndM, eSl, oInt, dNeg, dIx, atI0, atI1, atI2, aDef, fTuple, wv_var, wc_var, wj_var, wb_var, wv_call, wc_call, wj_call, wb_call, wv_rel, wc_rel, wj_rel, wb_rel, wv_same, wc_same, wj_same, wb_same, wv_no, wc_no, wj_no, wb_no, wv_and, wc_and, wj_and, wb_and, wv_or, wc_or, wj_or, wb_or, wv_if, wc_if, wj_if, wb_if, wv_all, wc_all, wj_all, wb_all, wv_some, wc_some, wj_some, wb_some])
local macro_rules | `(tactic| walk_at "ey") => `(tactic| try simp only [sSeq, sSet, sExpr, sRet, sIf, sAsg, una, escf, escS, opd, eVar, eC, eBin, eUn, eFn, eCall, eTup, eLst, aCons, aNil, fin, rd, rds, R.toS, dsOf, Rs.bind_ok, Rs.bind_bad, Rs.bind_ex, Rs.opt_some, Option.bind_some, Option.map_some, ownAt, eExt, eApp, ePop, List.getElem?_cons_zero, List.getElem?_cons_succ, List.set_cons_zero, List.set_cons_succ, okArg, List.all_cons, List.all_nil, Bool.and_self, if_true, kName, kTup, ksCons, ksNil, fMax, tOf, List.length_cons, List.length_nil, Bool.not_false, Bool.not_true, if_false, Bool.false_eq_true, lm0, lm1, lm2, lm3, lm4, lm5, lm6, lm7, lm8, lm9, lm10, lm11, lm12, fnM, List.map_cons, List.map_nil, List.replicate, List.cons_append, List.nil_append, Nat.reduceAdd, Nat.reduceSub, sNil, tAndM, tOrM, tNotM, tTru, dTru, eIf, dSub_i, dAdd_i, dLt_i, dLe_i, dGt_i, dGe_i, dEq_i, decide_true, decide_false, eChain, eAndM, eSl, oInt, dNeg, fInt, aDef, fTuple])

def subV (us : List Th) (v b : Int) : Th := match us.reverse[(v - b).toNat]? with
  | some u => if 0 ≤ v - b then lift b u 0 else .var v
  | none => if v < b then .var v else .var (v - (us.length : Nat))
mutual
def sub (us : List Th) : Th → Int → Th
  | .var v, b => subV us v b
  | .call f as, b => .call f (subs us as b)
  | .rel f as, b => .rel f (subs us as b)
  | .same x y, b => .same (sub us x b) (sub us y b)
  | .no, _ => .no
  | .and x y, b => .and (sub us x b) (sub us y b)
  | .or x y, b => .or (sub us x b) (sub us y b)
  | .imp x y, b => .imp (sub us x b) (sub us y b)
  | .all s x, b => .all s (sub us x (b + 1))
  | .some s x, b => .some s (sub us x (b + 1))
def subs (us : List Th) : List Th → Int → List Th
  | [], _ => []
  | t :: r, b => sub us t b :: subs us r b
end
theorem subs_map (us : List Th) (b : Int) : ∀ ts : List Th, subs us ts b = ts.map fun t => sub us t b
  | [] => by rw [subs]; rfl
  | t :: r => by rw [subs, subs_map us b r]; rfl
theorem sub_call {c : List S → Int → Rs S Int} {s0 k a w : D} {x y : D} {s4 : Option S} (m : Int) (h : c [.d x, .d k, .d a] m = .ok (.d y) m) : escf (eCall c (aCons (escf (eVar 5)) (aCons (escf (eVar 1)) (aCons (escf (eVar 2)) aNil))) : Sm M2 S) ⟨[some (.d s0), some (.d k), some (.d a), some (.d w), s4, some (.d x)], m⟩ = .ok (.d y) ⟨[some (.d s0), some (.d k), some (.d a), some (.d w), s4, some (.d x)], m⟩ := by
  walk_at "ex"
  rw [h]
  walk_at "ex"
theorem sub_lc {c : List S → Int → Rs S Int} {w f : D} {us : List Th} {b : Int} {s4 : Option S} {as : List Th} (m : Int) (hl : as.length ≤ lim) (h : ∀ u ∈ as, c [.d (enc u), .d (.tup (encs us)), .d (.int b)] m = .ok (.d (enc (sub us u b))) m) :
    (eLc (iAnyM (eBin dIx (eVar 0) (eC (.int 2)))) (kName 5) (fun z => .ok true z) (eCall c (aCons (escf (eVar 5)) (aCons (escf (eVar 1)) (aCons (escf (eVar 2)) aNil)))) [5] : Sm M2 S) ⟨[some (.d (.tup [w, f, .tup (encs as)])), some (.d (.tup (encs us))), some (.d (.int b)), some (.d w), s4, none], m⟩ = .ok (.l (encs (subs us as b))) ⟨[some (.d (.tup [w, f, .tup (encs as)])), some (.d (.tup (encs us))), some (.d (.int b)), some (.d w), s4, none], m⟩ := by
  have e : encs (subs us as b) = as.map fun u => enc (sub us u b) := by rw [subs_map, encs_map, List.map_map]; rfl
  rw [e]
  refine elc_map (M := M2) enc (g := fun u => enc (sub us u b)) (ts := as) ?_ rfl hl (fun u hu => sub_call m (h u hu))
  rw [encs_map]
  rfl
theorem not_non (t : Th) : dIsNot (enc t) .non = some (.d (.bl true)) := by cases t <;> rfl
theorem non_non : dIsNot .non .non = some (.d (.bl false)) := rfl
theorem encs_rev (us : List Th) (i : Nat) : (encs us).reverse[i]? = (us.reverse[i]?).map enc := by
  rw [encs_map, ← List.map_reverse, List.getElem?_map]
theorem put_eq (us : List Th) (hu : ∀ u ∈ us, depth u ≤ 130 ∧ size u ≤ 900000) : ∀ (n : Nat) (t : Th) (b : Int) (m : Int), depth t ≤ n → size t ≤ 900000 → mir (n + 132) .put [.d (enc t), .d (.tup (encs us)), .d (.int b)] m = .ok (.d (enc (sub us t b))) m
  | 0, t, _, _, h, _ => by rw [depth_kids] at h; omega
  | n + 1, t, b, m, h, hs => by
    rw [depth_kids] at h
    rw [size_kids] at hs
    have hl := sizes_len (kids t)
    have ih : ∀ u ∈ kids t, ∀ b : Int, mir (n + 132) .put [.d (enc u), .d (.tup (encs us)), .d (.int b)] m = .ok (.d (enc (sub us u b))) m := fun u hu2 b => put_eq us hu n u b m (depths_le (by omega) u hu2) (by have := mem_sizes hu2; omega)
    show fnM 6 (m_put (mir (n + 132))) [.d (enc t), .d (.tup (encs us)), .d (.int b)] m = _
    unfold m_put
    cases t with
    | var v =>
      rw [enc, sub]
      walk_at "ex"
      unfold subV
      by_cases c : 0 ≤ v - b ∧ v - b < (us.length : Nat)
      · have e : v - b = (((v - b).toNat : Nat) : Int) := by omega
        have hi : (v - b).toNat < us.reverse.length := by rw [List.length_reverse]; omega
        obtain ⟨u, eu⟩ : ∃ u, us.reverse[(v - b).toNat]? = some u := ⟨_, List.getElem?_eq_getElem hi⟩
        have mu : u ∈ us := by
          have := List.mem_of_getElem? eu
          exact List.mem_reverse.mp this
        have tf := tf_some (sq_tup (encs us)) (n + 131) m (i := (v - b).toNat) (d := enc u) (by rw [encs_rev, eu]; rfl)
        rw [← e] at tf
        rw [tf, eu]
        walk_at "ex"
        rw [not_non]
        walk_at "ex"
        have lf : mir (n + 132) .lifted [.d (enc u), .d (.int b), .d (.int 0)] m = .ok (.d (enc (lift b u 0))) m := by
          have := lifted_eq (n + 131) u b 0 m (by have := (hu u mu).1; omega) (hu u mu).2
          exact this
        rw [lf]
        walk_at "ex"
        rw [if_pos c.1]
      · have tf := tf_none (sq_tup (encs us)) (i := v - b) (n + 131) m (by rw [encs_length]; omega)
        rw [tf]
        walk_at "ex"
        rw [non_non]
        walk_at "ex"
        by_cases c2 : v < b
        · have e0 : (v - b).toNat = 0 := by omega
          simp only [c2]
          walk_at "ex"
          have ne : ¬ 0 ≤ v - b := by omega
          cases us.reverse[(v - b).toNat]? with
          | none => simp only []; rw [enc]
          | some u => simp only [if_neg ne]; rw [enc]
        · simp only [c2]
          walk_at "ex"
          have fl : fLen [.tup (encs us)] = some (.d (.int ((encs us).length : Nat))) := rfl
          rw [fl, encs_length]
          walk_at "ex"
          have en : us.reverse[(v - b).toNat]? = none := List.getElem?_eq_none (by rw [List.length_reverse]; omega)
          rw [en]
          simp only []
          rw [enc]
    | no =>
      rw [sub, enc]
      walk_at "ex"
    | call f as =>
      have l1 := sub_lc (w := .str "call") (f := .str f) (us := us) (s4 := none) m (show as.length ≤ 1000000 by simp only [kids] at hs hl; omega) (fun u hu => ih u hu b)
      rw [enc, sub]
      walk_at "ex"
      rw [l1]
      walk_at "ex"
      rw [enc]
    | rel f as =>
      have l1 := sub_lc (w := .str "rel") (f := .str f) (us := us) (s4 := none) m (show as.length ≤ 1000000 by simp only [kids] at hs hl; omega) (fun u hu => ih u hu b)
      rw [enc, sub]
      walk_at "ex"
      rw [l1]
      walk_at "ex"
      rw [enc]
    | same x y =>
      rw [enc, sub]
      walk_at "ex"
      rw [ih x (by simp [kids]) b]
      walk_at "ex"
      rw [ih y (by simp [kids]) b]
      walk_at "ex"
      rw [enc]
    | and x y =>
      rw [enc, sub]
      walk_at "ex"
      rw [ih x (by simp [kids]) b]
      walk_at "ex"
      rw [ih y (by simp [kids]) b]
      walk_at "ex"
      rw [enc]
    | or x y =>
      rw [enc, sub]
      walk_at "ex"
      rw [ih x (by simp [kids]) b]
      walk_at "ex"
      rw [ih y (by simp [kids]) b]
      walk_at "ex"
      rw [enc]
    | imp x y =>
      rw [enc, sub]
      walk_at "ex"
      rw [ih x (by simp [kids]) b]
      walk_at "ex"
      rw [ih y (by simp [kids]) b]
      walk_at "ex"
      rw [enc]
    | all s x =>
      rw [enc, sub]
      walk_at "ex"
      rw [ih x (by simp [kids]) (b + 1)]
      walk_at "ex"
      rw [enc]
    | some s x =>
      rw [enc, sub]
      walk_at "ex"
      rw [ih x (by simp [kids]) (b + 1)]
      walk_at "ex"
      rw [enc]
end L
namespace L
open PySem L2 G
local macro_rules | `(tactic| walk_at "ev") => `(tactic| try simp only [sSeq, sSet, sExpr, sRet, sIf, sAsg, una, escf, escS, opd, eVar, eC, eBin, eUn, eFn, eCall, eTup, eLst, aCons, aNil, fin, rd, rds, R.toS, dsOf, Rs.bind_ok, Rs.bind_bad, Rs.bind_ex, Rs.opt_some, Option.bind_some, Option.map_some, ownAt, eExt, eApp, ePop, List.getElem?_cons_zero, List.getElem?_cons_succ, List.set_cons_zero, List.set_cons_succ, okArg, List.all_cons, List.all_nil, Bool.and_self, if_true, dAdd, kName, kTup, ksCons, ksNil, fMax, tOf, List.length_cons, List.length_nil, Bool.not_false, Bool.not_true, if_false, Bool.false_eq_true, lm0, lm1, lm2, lm3, lm4, lm5, lm6, lm7, lm8, lm9, lm10, lm11, lm12, fnM, List.map_cons, List.map_nil, List.replicate, List.cons_append, List.nil_append, Nat.reduceAdd, Nat.reduceSub, dIx, atI0, atI1, atI2, sNil, tAndM, tOrM, tNotM, tTru, dTru, eIf, dI, dSub, dLt, dLe, dGt, dGe])
/-! parts_of -/
def ePB (c : Fn → List S → Int → Rs S Int) : Sm M2 Out := sSeq (sSet 1 (eBin dAdd (eVar 1) (eC (.int 1)))) (sExpr (eExt 2 (eCall (c .within) (aCons (escf (ePop 2)) aNil))))
theorem parts_step {c : Fn → List S → Int → Rs S Int} (hc : ∀ t m, c .within [.d (enc t)] m = .ok (.l (encs (kids t))) m) (x : Option S) (f : Int) (ys : List D) (t : Th) (m : Int) (hl : ys.length + (encs (kids t)).length ≤ lim) :
    ePB c ⟨[x, some (.d (.int f)), some (.l (ys ++ [enc t]))], m⟩ = .ok .nx ⟨[x, some (.d (.int (f + 1))), some (.l (ys ++ encs (kids t)))], m⟩ := by
  have e1 : (ys ++ [enc t])[(ys ++ [enc t]).length - 1]? = some (enc t) := by simp
  have e2 : (ys ++ [enc t]).dropLast = ys := by simp
  unfold ePB
  walk_at "ev"
  rw [e1]
  walk_at "ev"
  rw [hc, e2]
  walk_at "ev"
  rw [if_pos hl]
  rfl
theorem split_lastN (ts : List Th) : ts = [] ∨ ∃ r t, ts = r ++ [t] := by
  rcases List.eq_nil_or_concat ts with h | ⟨r, t, h⟩
  · exact .inl h
  · exact .inr ⟨r, t, by simpa using h⟩
theorem cond_eqN (x f : Option S) {xs : List D} (m : Int) (h : lays xs = true) : (tOf (eBin dNe (eVar 2) (eLst aNil)) : Sm M2 Bool) ⟨[x, f, some (.l xs)], m⟩ = .ok (!xs.isEmpty) ⟨[x, f, some (.l xs)], m⟩ := by
  walk_at "ev"
  simp only [ne_nil h]
  rfl
theorem parts_loop {c : Fn → List S → Int → Rs S Int} (hc : ∀ t m, c .within [.d (enc t)] m = .ok (.l (encs (kids t))) m) (x : Option S) (m : Int) : ∀ (n : Nat) (ts : List Th) (f : Int), sizes ts < n → sizes ts ≤ 900000 → nmss ts = true →
    sWhile (tOf (eBin dNe (eVar 2) (eLst aNil))) (ePB c) n ⟨[x, some (.d (.int f)), some (.l (encs ts))], m⟩ = .ok .nx ⟨[x, some (.d (.int (f + sizes ts))), some (.l [])], m⟩
  | 0, ts, f, h, _, _ => by omega
  | n + 1, ts, f, h, hs, hn => by
    unfold sWhile
    rw [cond_eqN _ _ _ (by rw [lays_encs]; exact hn)]
    rcases split_lastN ts with rfl | ⟨r, t, rfl⟩
    · simp [encs, sizes]
    · rw [sizes_append] at h hs
      have e0 : (encs (r ++ [t])).isEmpty = false := by rw [encs_append]; cases encs r <;> rfl
      have e1 : encs (r ++ [t]) = encs r ++ [enc t] := by rw [encs_append, encs, encs]
      have e2 : sizes [t] = 1 + sizes (kids t) := by rw [sizes, sizes, size_kids]; omega
      have hr := sizes_len r
      have hk := sizes_len (kids t)
      rw [nmss_append, Bool.and_eq_true] at hn
      have hn2 : nms t = true := by have := hn.2; simpa [nmss] using this
      rw [e0, e1]
      simp only [Bool.not_false, Rs.bind_ok, if_true]
      rw [parts_step hc x f (encs r) t m (by rw [encs_length, encs_length]; show _ ≤ 1000000; omega), ← encs_append]
      simp only [Rs.bind_ok]
      rw [parts_loop hc x m n (r ++ kids t) (f + 1) (by rw [sizes_append]; omega) (by rw [sizes_append]; omega) (by rw [nmss_append, hn.1, nms_kids hn2]; rfl), sizes_append, sizes_append]
      have e3 : f + 1 + ((sizes r + sizes (kids t) : Nat) : Int) = f + ((sizes r + sizes [t] : Nat) : Int) := by omega
      rw [e3]
theorem parts_eq (n : Nat) (t : Th) (m : Int) (h : size t ≤ 900000) (hn : nms t = true) : mir (n + 2) .parts_of [.d (enc t)] m = .ok (.d (.int (size t))) m := by
  have hc := within_eq n
  have e : sizes [t] = size t := by simp [sizes]
  have L := parts_loop (c := mir (n + 1)) (fun t m => hc t m) (some (.d (enc t))) m whileN [t] 0 (by rw [e]; show _ < 1000000000; omega) (by rw [e]; exact h) (by simpa [nmss] using hn)
  have e2 : encs [t] = [enc t] := by simp [encs]
  rw [e2, e] at L
  show fnM 3 (m_parts_of (mir (n + 1))) [.d (enc t)] m = _
  unfold m_parts_of
  unfold ePB at L
  walk_at "ev"
  rw [L, Int.zero_add]
  walk_at "ev"
/-! deep_of -/
def prN (p : Th × Nat) : D := .tup [enc p.1, .int p.2]
def mxsN : List (Th × Nat) → Nat
  | [] => 0
  | (t, d) :: r => max (d + depths (kids t)) (mxsN r)
def szsN : List (Th × Nat) → Nat
  | [] => 0
  | (t, _) :: r => size t + szsN r
def nmpN : List (Th × Nat) → Bool
  | [] => true
  | (t, _) :: r => nms t && nmpN r
theorem mxs_appendN : ∀ xs ys, mxsN (xs ++ ys) = max (mxsN xs) (mxsN ys)
  | [], ys => by simp [mxsN]
  | x :: r, ys => by simp only [List.cons_append, mxsN, mxs_appendN r ys]; omega
theorem szs_appendN : ∀ xs ys, szsN (xs ++ ys) = szsN xs + szsN ys
  | [], ys => by simp [szsN]
  | x :: r, ys => by simp only [List.cons_append, szsN, szs_appendN r ys]; omega
theorem nmp_appendN : ∀ xs ys, nmpN (xs ++ ys) = (nmpN xs && nmpN ys)
  | [], ys => by simp [nmpN]
  | x :: r, ys => by simp only [List.cons_append, nmpN, nmp_appendN r ys, Bool.and_assoc]
theorem szs_lenN : ∀ ts : List (Th × Nat), ts.length ≤ szsN ts
  | [] => by simp [szsN]
  | (t, d) :: r => by
    have h := szs_lenN r
    have h2 := size_kids t
    simp only [List.length_cons, szsN]
    omega
theorem szs_kidsN (d : Nat) : ∀ ts : List Th, szsN (ts.map fun t => (t, d)) = sizes ts
  | [] => by simp [szsN, sizes]
  | t :: r => by simp only [List.map_cons, szsN, sizes, szs_kidsN d r]
theorem nmp_kidsN (d : Nat) : ∀ ts : List Th, nmpN (ts.map fun t => (t, d)) = nmss ts
  | [] => by simp [nmpN, nmss]
  | t :: r => by simp only [List.map_cons, nmpN, nmss, nmp_kidsN d r]
theorem mxs_kidsN (d : Nat) : ∀ ts : List Th, ts ≠ [] → mxsN (ts.map fun t => (t, d + 1)) = d + depths ts
  | [], h => (h rfl).elim
  | [t], _ => by
    simp only [List.map_cons, List.map_nil, mxsN, depths, depth_kids t]
    omega
  | t :: u :: r, _ => by
    have ih := mxs_kidsN d (u :: r) (by intro e; cases e)
    have e1 : mxsN ((t :: u :: r).map fun t => (t, d + 1)) = max (d + 1 + depths (kids t)) (mxsN ((u :: r).map fun t => (t, d + 1))) := rfl
    have e2 : depths (t :: u :: r) = max (depth t) (depths (u :: r)) := by rw [depths]
    rw [e1, ih, e2, depth_kids t]
    omega
theorem lays_prsN : ∀ ts : List (Th × Nat), lays (ts.map prN) = nmpN ts
  | [] => by simp [lays, nmpN]
  | (t, d) :: r => by simp [lays, nmpN, prN, lay, lay_enc, lays_prsN r]
def eDB (c : Fn → List S → Int → Rs S Int) : Sm M2 Out := sSeq (sAsg (ePop 2) (kTup 2 (ksCons (kName 3) (ksCons (kName 4) ksNil))))
    (sSeq (sSet 1 (eFn fMax (aCons (opd (eVar 1)) (aCons (opd (eVar 4)) aNil))))
    (sExpr (eExt 2 (eLc (iAnyM (eCall (c .within) (aCons (escf (eVar 3)) aNil))) (kName 5) (fun z => .ok true z) (eTup (aCons (escf (eVar 5)) (aCons (escf (eBin dAdd (eVar 4) (eC (.int 1)))) aNil))) [5]))))
theorem deep_step {c : Fn → List S → Int → Rs S Int} (hc : ∀ t m, c .within [.d (enc t)] m = .ok (.l (encs (kids t))) m) (x s3 s4 : Option S) (f : Int) (ys : List D) (t : Th) (d : Nat) (m : Int) (hl : ys.length + (kids t).length ≤ lim) :
    eDB c ⟨[x, some (.d (.int f)), some (.l (ys ++ [prN (t, d)])), s3, s4, none], m⟩ = .ok .nx ⟨[x, some (.d (.int (if (d : Int) > f then (d : Int) else f))), some (.l (ys ++ ((kids t).map fun k => (k, d + 1)).map prN)), some (.d (enc t)), some (.d (.int d)), none], m⟩ := by
  have e1 : (ys ++ [prN (t, d)])[(ys ++ [prN (t, d)]).length - 1]? = some (prN (t, d)) := by simp
  have e2 : (ys ++ [prN (t, d)]).dropLast = ys := by simp
  unfold eDB
  walk_at "ev"
  rw [e1, e2]
  simp only [prN]
  walk_at "ev"
  simp only [eLc, iAnyM]
  walk_at "ev"
  rw [hc]
  simp only [itemsD, noOwn, List.all_cons, List.all_nil, Bool.and_self]
  walk_at "ev"
  simp only [wipeZ, wipeR]
  walk_at "ev"
  rw [lc_map (M := M2) (i := 5) (g := fun k => .tup [k, .int ((d : Int) + 1)]) ?h1 (encs (kids t)) [] ?h2 ?h3]
  case h1 => rfl
  case h2 => rw [encs_length, List.length_nil]; omega
  case h3 => exact fun k _ => ⟨_, rfl, rfl⟩
  walk_at "ev"
  simp only [restR]
  walk_at "ev"
  have e3 : (encs (kids t)).map (fun k => D.tup [k, .int ((d : Int) + 1)]) = ((kids t).map fun k => (k, d + 1)).map prN := by
    rw [encs_map, List.map_map, List.map_map]
    rfl
  rw [e3]
  simp only [Option.getD]
  walk_at "ev"
  rw [if_pos (by rw [List.length_map, List.length_map]; exact hl)]
  rfl
theorem condD_eqN (x f s3 s4 s5 : Option S) {xs : List D} (m : Int) (h : lays xs = true) : (tOf (eBin dNe (eVar 2) (eLst aNil)) : Sm M2 Bool) ⟨[x, f, some (.l xs), s3, s4, s5], m⟩ = .ok (!xs.isEmpty) ⟨[x, f, some (.l xs), s3, s4, s5], m⟩ := by
  walk_at "ev"
  simp only [ne_nil h]
  rfl
theorem split_lastPN {α : Type} (ts : List α) : ts = [] ∨ ∃ r t, ts = r ++ [t] := by
  rcases List.eq_nil_or_concat ts with h | ⟨r, t, h⟩
  · exact .inl h
  · exact .inr ⟨r, t, by simpa using h⟩
theorem deep_loop {c : Fn → List S → Int → Rs S Int} (hc : ∀ t m, c .within [.d (enc t)] m = .ok (.l (encs (kids t))) m) (x : Option S) (m : Int) : ∀ (n : Nat) (ts : List (Th × Nat)) (f : Nat) (s3 s4 : Option S), szsN ts < n → szsN ts ≤ 900000 → nmpN ts = true →
    ∃ s3' s4', sWhile (tOf (eBin dNe (eVar 2) (eLst aNil))) (eDB c) n ⟨[x, some (.d (.int (f : Int))), some (.l (ts.map prN)), s3, s4, none], m⟩ = .ok .nx ⟨[x, some (.d (.int ((max f (mxsN ts) : Nat) : Int))), some (.l []), s3', s4', none], m⟩
  | 0, ts, f, _, _, h, _, _ => by omega
  | n + 1, ts, f, s3, s4, h, hs, hn => by
    unfold sWhile
    rw [condD_eqN _ _ _ _ _ _ (by rw [lays_prsN]; exact hn)]
    rcases split_lastPN ts with rfl | ⟨r, ⟨t, d⟩, rfl⟩
    · exact ⟨s3, s4, by simp [mxsN]⟩
    · rw [szs_appendN] at h hs
      have e0 : ((r ++ [(t, d)]).map prN).isEmpty = false := by simp
      have e1 : (r ++ [(t, d)]).map prN = r.map prN ++ [prN (t, d)] := by simp
      have e2 : szsN [(t, d)] = 1 + sizes (kids t) := by simp only [szsN, size_kids]; omega
      have hr := szs_lenN r
      have hk := sizes_len (kids t)
      rw [nmp_appendN, Bool.and_eq_true] at hn
      have hn2 : nms t = true := by have := hn.2; simpa [nmpN] using this
      rw [e0, e1]
      simp only [Bool.not_false, Rs.bind_ok, if_true]
      rw [deep_step hc x s3 s4 f (r.map prN) t d m (by rw [List.length_map]; show _ ≤ 1000000; omega), ← List.map_append]
      simp only [Rs.bind_ok]
      have ef : (if (d : Int) > (f : Int) then (d : Int) else (f : Int)) = ((max f d : Nat) : Int) := by split <;> omega
      rw [ef]
      obtain ⟨s3', s4', ih⟩ := deep_loop hc x m n (r ++ (kids t).map fun k => (k, d + 1)) (max f d) (some (.d (enc t))) (some (.d (.int d))) (by rw [szs_appendN, szs_kidsN]; omega) (by rw [szs_appendN, szs_kidsN]; omega) (by rw [nmp_appendN, hn.1, nmp_kidsN, nms_kids hn2]; rfl)
      refine ⟨s3', s4', ?_⟩
      rw [ih]
      have em : max (max f d) (mxsN (r ++ (kids t).map fun k => (k, d + 1))) = max f (mxsN (r ++ [(t, d)])) := by
        rw [mxs_appendN, mxs_appendN]
        by_cases hz : kids t = []
        · rw [hz]
          simp only [List.map_nil, mxsN, hz, depths]
          omega
        · rw [mxs_kidsN d _ hz]
          simp only [mxsN]
          omega
      rw [em]
theorem deep_eq (n : Nat) (t : Th) (m : Int) (h : size t ≤ 900000) (hn : nms t = true) : mir (n + 2) .deep_of [.d (enc t)] m = .ok (.d (.int (depth t))) m := by
  have hc := within_eq n
  have e : szsN [(t, 1)] = size t := by simp [szsN]
  obtain ⟨s3, s4, L⟩ := deep_loop (c := mir (n + 1)) (fun t m => hc t m) (some (.d (enc t))) m whileN [(t, 1)] 0 none none (by rw [e]; show _ < 1000000000; omega) (by rw [e]; exact h) (by simpa [nmpN] using hn)
  have ed : max 0 (mxsN [(t, 1)]) = depth t := by simp only [mxsN, depth_kids]; omega
  rw [ed] at L
  show fnM 6 (m_deep_of (mir (n + 1))) [.d (enc t)] m = _
  unfold m_deep_of
  unfold eDB at L
  walk_at "ev"
  simp only [List.map_cons, List.map_nil, prN] at L
  have c0 : ((0 : Nat) : Int) = 0 := rfl
  have c1 : ((1 : Nat) : Int) = 1 := rfl
  rw [c0, c1] at L
  rw [L]
  walk_at "ev"
end L
namespace L
open PySem L2 G
local macro_rules | `(tactic| walk_at "ex") => `(tactic| try simp only [sSeq, sSet, sExpr, sRet, sIf, sAsg, una, escf, escS, opd, eVar, eC, eBin, eUn, eFn, eCall, eTup, eLst, aCons, aNil, fin, rd, rds, R.toS, dsOf, Rs.bind_ok, Rs.bind_bad, Rs.bind_ex, Rs.opt_some, Option.bind_some, Option.map_some, ownAt, eExt, eApp, ePop, List.getElem?_cons_zero, List.getElem?_cons_succ, List.set_cons_zero, List.set_cons_succ, okArg, List.all_cons, List.all_nil, Bool.and_self, if_true, kName, kTup, ksCons, ksNil, fMax, tOf, List.length_cons, List.length_nil, Bool.not_false, Bool.not_true, if_false, Bool.false_eq_true, lm0, lm1, lm2, lm3, lm4, lm5, lm6, lm7, lm8, lm9, lm10, lm11, lm12, fnM, List.map_cons, List.map_nil, List.replicate, List.cons_append, List.nil_append, Nat.reduceAdd, Nat.reduceSub, sNil, tAndM, tOrM, tNotM, tTru, dTru, eIf, dSub_i, dAdd_i, dLt_i, dLe_i, dGt_i, dGe_i, dEq_i, decide_true, decide_false, eChain, eAndM, eSl, oInt, dNeg, dIx, atI0, atI1, atI2, aDef, fTuple, wv_var, wc_var, wj_var, wb_var, wv_call, wc_call, wj_call, wb_call, wv_rel, wc_rel, wj_rel, wb_rel, wv_same, wc_same, wj_same, wb_same, wv_no, wc_no, wj_no, wb_no, wv_and, wc_and, wj_and, wb_and, wv_or, wc_or, wj_or, wb_or, wv_if, wc_if, wj_if, wb_if, wv_all, wc_all, wj_all, wb_all, wv_some, wc_some, wj_some, wb_some])
local macro_rules | `(tactic| walk_at "ey") => `(tactic| try simp only [sSeq, sSet, sExpr, sRet, sIf, sAsg, una, escf, escS, opd, eVar, eC, eBin, eUn, eFn, eCall, eTup, eLst, aCons, aNil, fin, rd, rds, R.toS, dsOf, Rs.bind_ok, Rs.bind_bad, Rs.bind_ex, Rs.opt_some, Option.bind_some, Option.map_some, ownAt, eExt, eApp, ePop, List.getElem?_cons_zero, List.getElem?_cons_succ, List.set_cons_zero, List.set_cons_succ, okArg, List.all_cons, List.all_nil, Bool.and_self, if_true, kName, kTup, ksCons, ksNil, fMax, tOf, List.length_cons, List.length_nil, Bool.not_false, Bool.not_true, if_false, Bool.false_eq_true, lm0, lm1, lm2, lm3, lm4, lm5, lm6, lm7, lm8, lm9, lm10, lm11, lm12, fnM, List.map_cons, List.map_nil, List.replicate, List.cons_append, List.nil_append, Nat.reduceAdd, Nat.reduceSub, sNil, tAndM, tOrM, tNotM, tTru, dTru, eIf, dSub_i, dAdd_i, dLt_i, dLe_i, dGt_i, dGe_i, dEq_i, decide_true, decide_false, eChain, eAndM, eSl, oInt, dNeg, fInt, aDef, fTuple])
def row (t : Th) : D := .tup [.int ((size t : Nat) : Int), .int ((depth t : Nat) : Int)]
def tr (p : Th × Int × Nat) : D := .tup [enc p.1, .int p.2.1, .int ((p.2.2 : Nat) : Int)]
/-- behind the look at the size -/
def NB2 (c : Fn → List S → Int → Rs S Int) : Sm M2 Out := (sSeq (sSet 3 (eBin dAdd (eVar 3) (eBin dIx (eVar 8) (eC (.int 0)))))
    (sSeq (sIf (tOrM (tOf (eBin dGt (eVar 3) (eC c_MOST_FOUND))) (tOf (eBin dGt (eBin dAdd (eBin dSub (eVar 7) (eC (.int 1))) (eBin dIx (eVar 8) (eC (.int 1)))) (eC c_MOST_FOUND_DEEP)))) (sRaise "TooMany") sNil)
    (sSeq (sSet 9 (eFn fInt (aCons (opd (eBin dIn (eBin dIx (eVar 5) (eC (.int 0))) (eC c_BOUND))) aNil)))
    (sExpr (eExt 4 (eLc (iAnyM (eCall (c .within) (aCons (escf (eVar 5)) aNil))) (kName 11) (fun z => .ok true z) (eTup (aCons (escf (eVar 11)) (aCons (escf (eBin dAdd (eVar 6) (eVar 9))) (aCons (escf (eBin dAdd (eVar 7) (eC (.int 1)))) aNil)))) [11]))))))
def NB (c : Fn → List S → Int → Rs S Int) : Sm M2 Out := (sSeq (sAsg (ePop 4) (kTup 3 (ksCons (kName 5) (ksCons (kName 6) (ksCons (kName 7) ksNil)))))
    (sSeq (sSet 8 (eC .non))
    (sSeq (sIf (tOf (eBin dEq (eBin dIx (eVar 5) (eC (.int 0))) (eC (.str "var")))) (sSet 8 (eCall (c .term_for) (aCons (escf (eVar 2)) (aCons (escf (eBin dSub (eBin dIx (eVar 5) (eC (.int 1))) (eVar 6))) aNil)))) sNil)
    (sSeq (sIf (tOf (eBin dIs (eVar 8) (eC .non))) (sSet 8 (eTup (aCons (escf (eC (.int 1))) (aCons (escf (eC (.int 1))) aNil)))) sNil)
    (NB2 c)))))
theorem nb_lc {c : Fn → List S → Int → Rs S Int} (hc : ∀ t m, c .within [.d (enc t)] m = .ok (.l (encs (kids t))) m) (s0 s1 s2 s3 s4 s8 s10 : Option S) (t : Th) (b k : Int) (d : Nat) (m : Int) (hl : (kids t).length ≤ lim) :
    (eLc (iAnyM (eCall (c .within) (aCons (escf (eVar 5)) aNil))) (kName 11) (fun z => .ok true z) (eTup (aCons (escf (eVar 11)) (aCons (escf (eBin dAdd (eVar 6) (eVar 9))) (aCons (escf (eBin dAdd (eVar 7) (eC (.int 1)))) aNil)))) [11] : Sm M2 S) ⟨[s0, s1, s2, s3, s4, some (.d (enc t)), some (.d (.int b)), some (.d (.int (d : Nat))), s8, some (.d (.int k)), s10, none], m⟩ = .ok (.l (((kids t).map fun u => (u, b + k, d + 1)).map tr)) ⟨[s0, s1, s2, s3, s4, some (.d (enc t)), some (.d (.int b)), some (.d (.int (d : Nat))), s8, some (.d (.int k)), s10, none], m⟩ := by
  have i1 : (iAnyM (eCall (c .within) (aCons (escf (eVar 5)) aNil)) : Sm M2 (List D)) ⟨[s0, s1, s2, s3, s4, some (.d (enc t)), some (.d (.int b)), some (.d (.int (d : Nat))), s8, some (.d (.int k)), s10, none], m⟩ = .ok ((kids t).map enc) ⟨[s0, s1, s2, s3, s4, some (.d (enc t)), some (.d (.int b)), some (.d (.int (d : Nat))), s8, some (.d (.int k)), s10, none], m⟩ := by
    simp only [iAnyM]
    walk_at "ey"
    rw [hc, ← encs_map]
    rfl
  rw [List.map_map]
  exact elc_map (M := M2) enc (g := tr ∘ fun u => (u, b + k, d + 1)) i1 rfl hl (fun u _ => rfl)
theorem nb2_step {c : Fn → List S → Int → Rs S Int} (hc : ∀ t m, c .within [.d (enc t)] m = .ok (.l (encs (kids t))) m) (s0 s1 s2 s9 s10 : Option S) (ys : List D) (t : Th) (b : Int) (d p q mn : Nat) (m : Int) (hl : ys.length + (kids t).length ≤ lim) (h1 : mn + p ≤ 4000) (h2 : d + q ≤ 121) :
    NB2 c ⟨[s0, s1, s2, some (.d (.int (mn : Nat))), some (.l ys), some (.d (enc t)), some (.d (.int b)), some (.d (.int (d : Nat))), some (.d (.tup [.int (p : Nat), .int (q : Nat)])), s9, s10, none], m⟩ = .ok .nx ⟨[s0, s1, s2, some (.d (.int ((mn + p : Nat) : Int))), some (.l (ys ++ ((kids t).map fun u => (u, b + (bnd t : Nat), d + 1)).map tr)), some (.d (enc t)), some (.d (.int b)), some (.d (.int (d : Nat))), some (.d (.tup [.int (p : Nat), .int (q : Nat)])), some (.d (.int (bnd t : Nat))), s10, none], m⟩ := by
  have i0 : dIx (.tup [.int (p : Nat), .int (q : Nat)]) (.int 0) = some (.d (.int (p : Nat))) := rfl
  have i1 : dIx (.tup [.int (p : Nat), .int (q : Nat)]) (.int 1) = some (.d (.int (q : Nat))) := rfl
  have m1 : c_MOST_FOUND = .int 4000 := rfl
  have m2 : c_MOST_FOUND_DEEP = .int 120 := rfl
  have g1 : ¬ (4000 : Int) < (mn : Int) + (p : Int) := by omega
  have g2 : ¬ (120 : Int) < (d : Int) - 1 + (q : Int) := by omega
  unfold NB2
  rw [m1, m2]
  walk_at "ey"
  rw [i0]
  walk_at "ey"
  simp only [g1]
  walk_at "ey"
  rw [i1]
  walk_at "ey"
  simp only [g2]
  walk_at "ey"
  rw [hd0]
  walk_at "ey"
  rw [wdB]
  walk_at "ey"
  rw [bnd_int, nb_lc hc _ _ _ _ _ _ _ t b _ d m (by omega)]
  walk_at "ey"
  rw [if_pos (by rw [List.length_map, List.length_map]; exact hl)]
  have e : ((mn + p : Nat) : Int) = (mn : Int) + (p : Int) := by omega
  rw [e]
  rfl
theorem is_nn : dIs .non .non = some (.d (.bl true)) := rfl
theorem is_row (u : Th) : dIs (row u) .non = some (.d (.bl false)) := rfl
theorem hd1 (v : Int) : dIx (enc (.var v)) (.int 1) = some (.d (.int v)) := by rw [enc]; rfl

theorem nb2_no {c : Fn → List S → Int → Rs S Int} (s0 s1 s2 s4 s9 s10 : Option S) (t : Th) (b : Int) (d p q mn : Nat) (m : Int) (h : ¬ (mn + p ≤ 4000 ∧ d + q ≤ 121)) :
    ∃ rho', NB2 c ⟨[s0, s1, s2, some (.d (.int (mn : Nat))), s4, some (.d (enc t)), some (.d (.int b)), some (.d (.int (d : Nat))), some (.d (.tup [.int (p : Nat), .int (q : Nat)])), s9, s10, none], m⟩ = .ex ⟨"TooMany", none⟩ ⟨rho', m⟩ := by
  have i0 : dIx (.tup [.int (p : Nat), .int (q : Nat)]) (.int 0) = some (.d (.int (p : Nat))) := rfl
  have i1 : dIx (.tup [.int (p : Nat), .int (q : Nat)]) (.int 1) = some (.d (.int (q : Nat))) := rfl
  have m1 : c_MOST_FOUND = .int 4000 := rfl
  have m2 : c_MOST_FOUND_DEEP = .int 120 := rfl
  unfold NB2
  rw [m1, m2]
  walk_at "ey"
  rw [i0]
  walk_at "ey"
  by_cases g1 : (4000 : Int) < (mn : Int) + (p : Int)
  · simp only [g1]
    walk_at "ey"
    exact ⟨_, rfl⟩
  · have g2 : (120 : Int) < (d : Int) - 1 + (q : Int) := by omega
    simp only [g1]
    walk_at "ey"
    rw [i1]
    walk_at "ey"
    simp only [g2]
    walk_at "ey"
    exact ⟨_, rfl⟩
/-- what a node counts: a variable that is met counts as its term -/
def vc (us : List Th) (t : Th) (b : Int) : Nat × Nat := match t with
  | .var v => (match us.reverse[(v - b).toNat]? with
    | some u => if 0 ≤ v - b then (size u, depth u) else (1, 1)
    | none => (1, 1))
  | _ => (1, 1)
theorem vc_non {us : List Th} {t : Th} {b : Int} (h : isVar t = false) : vc us t b = (1, 1) := by
  cases t with
  | var v => cases h
  | _ => rfl
theorem nb_pre {c : Fn → List S → Int → Rs S Int} {us : List Th} (m : Int) (ht1 : ∀ (i : Nat) (d : D), (us.map row).reverse[i]? = some d → c .term_for [.d (.lst (us.map row)), .d (.int (i : Int))] m = .ok (.d d) m) (ht2 : ∀ i : Int, (i < 0 ∨ ((us.length : Nat) : Int) ≤ i) → c .term_for [.d (.lst (us.map row)), .d (.int i)] m = .ok (.d .non) m)
    (s0 s1 s2 s5 s6 s7 s8 s9 s10 : Option S) (h2 : s2 = some (.l (us.map row)) ∨ s2 = some (.d (.lst (us.map row)))) (ys : List D) (t : Th) (b : Int) (d mn : Nat) :
    ∃ (s2' : Option S), (s2' = some (.l (us.map row)) ∨ s2' = some (.d (.lst (us.map row)))) ∧ NB c ⟨[s0, s1, s2, some (.d (.int (mn : Nat))), some (.l (ys ++ [tr (t, b, d)])), s5, s6, s7, s8, s9, s10, none], m⟩ = NB2 c ⟨[s0, s1, s2', some (.d (.int (mn : Nat))), some (.l ys), some (.d (enc t)), some (.d (.int b)), some (.d (.int (d : Nat))), some (.d (.tup [.int ((vc us t b).1 : Nat), .int ((vc us t b).2 : Nat)])), s9, s10, none], m⟩ := by
  have e1 : (ys ++ [tr (t, b, d)])[(ys ++ [tr (t, b, d)]).length - 1]? = some (tr (t, b, d)) := by simp
  have e2 : (ys ++ [tr (t, b, d)]).dropLast = ys := by simp
  unfold NB
  walk_at "ey"
  rw [e1, e2]
  simp only [tr]
  walk_at "ey"
  rw [hd0]
  walk_at "ey"
  rw [wdV]
  walk_at "ey"
  cases hv : isVar t with
  | false =>
    walk_at "ey"
    rw [is_nn, vc_non hv]
    walk_at "ey"
    exact ⟨s2, h2, rfl⟩
  | true =>
    cases t with
    | var v =>
      walk_at "ey"
      have tf : ∃ r : D, c .term_for [.d (.lst (us.map row)), .d (.int (v - b))] m = .ok (.d r) m ∧ ((r = .non ∧ vc us (.var v) b = (1, 1)) ∨ ∃ u, r = row u ∧ vc us (.var v) b = (size u, depth u)) := by
        by_cases q : 0 ≤ v - b ∧ v - b < (us.length : Nat)
        · have e : v - b = (((v - b).toNat : Nat) : Int) := by omega
          have hi : (v - b).toNat < us.reverse.length := by rw [List.length_reverse]; omega
          obtain ⟨u, eu⟩ : ∃ u, us.reverse[(v - b).toNat]? = some u := ⟨_, List.getElem?_eq_getElem hi⟩
          have f := ht1 (v - b).toNat (row u) (by rw [← List.map_reverse, List.getElem?_map, eu]; rfl)
          rw [← e] at f
          exact ⟨_, f, .inr ⟨u, rfl, by unfold vc; simp only [eu]; rw [if_pos q.1]⟩⟩
        · refine ⟨_, ht2 (v - b) (by omega), .inl ⟨rfl, ?_⟩⟩
          unfold vc
          simp only []
          split
          · rename_i u eu
            have hi := (List.getElem?_eq_some_iff.mp eu).1
            rw [List.length_reverse] at hi
            rw [if_neg (by omega)]
          · rfl
      obtain ⟨r, f, hr⟩ := tf
      rcases h2 with rfl | rfl
      · walk_at "ey"
        rw [hd1]
        walk_at "ey"
        rw [f]
        walk_at "ey"
        rcases hr with ⟨rfl, hr⟩ | ⟨u, rfl, hr⟩
        · rw [is_nn, hr]
          walk_at "ey"
          exact ⟨_, .inr rfl, rfl⟩
        · rw [is_row, hr]
          walk_at "ey"
          exact ⟨_, .inr rfl, rfl⟩
      · walk_at "ey"
        rw [hd1]
        walk_at "ey"
        rw [f]
        walk_at "ey"
        rcases hr with ⟨rfl, hr⟩ | ⟨u, rfl, hr⟩
        · rw [is_nn, hr]
          walk_at "ey"
          exact ⟨_, .inr rfl, rfl⟩
        · rw [is_row, hr]
          walk_at "ey"
          exact ⟨_, .inr rfl, rfl⟩
    | _ => cases hv
/-! sizes of what comes -/
mutual
theorem lift_size (k : Int) : ∀ (t : Th) (a : Int), size (lift k t a) = size t ∧ depth (lift k t a) = depth t ∧ nms (lift k t a) = nms t
  | .var v, a => by rw [lift]; split <;> simp [size, depth, nms]
  | .call f as, a => by obtain ⟨h1, h2, h3⟩ := lifts_size k as a; simp [lift, size, depth, nms, h1, h2, h3]
  | .rel f as, a => by obtain ⟨h1, h2, h3⟩ := lifts_size k as a; simp [lift, size, depth, nms, h1, h2, h3]
  | .same x y, a => by obtain ⟨h1, h2, h3⟩ := lift_size k x a; obtain ⟨g1, g2, g3⟩ := lift_size k y a; simp [lift, size, depth, nms, h1, h2, h3, g1, g2, g3]
  | .no, a => by simp [lift]
  | .and x y, a => by obtain ⟨h1, h2, h3⟩ := lift_size k x a; obtain ⟨g1, g2, g3⟩ := lift_size k y a; simp [lift, size, depth, nms, h1, h2, h3, g1, g2, g3]
  | .or x y, a => by obtain ⟨h1, h2, h3⟩ := lift_size k x a; obtain ⟨g1, g2, g3⟩ := lift_size k y a; simp [lift, size, depth, nms, h1, h2, h3, g1, g2, g3]
  | .imp x y, a => by obtain ⟨h1, h2, h3⟩ := lift_size k x a; obtain ⟨g1, g2, g3⟩ := lift_size k y a; simp [lift, size, depth, nms, h1, h2, h3, g1, g2, g3]
  | .all s x, a => by obtain ⟨h1, h2, h3⟩ := lift_size k x (a + 1); simp [lift, size, depth, nms, h1, h2, h3]
  | .some s x, a => by obtain ⟨h1, h2, h3⟩ := lift_size k x (a + 1); simp [lift, size, depth, nms, h1, h2, h3]
theorem lifts_size (k : Int) : ∀ (ts : List Th) (a : Int), sizes (lifts k ts a) = sizes ts ∧ depths (lifts k ts a) = depths ts ∧ nmss (lifts k ts a) = nmss ts
  | [], a => by simp [lifts]
  | t :: r, a => by obtain ⟨h1, h2, h3⟩ := lift_size k t a; obtain ⟨g1, g2, g3⟩ := lifts_size k r a; simp [lifts, sizes, depths, nmss, h1, h2, h3, g1, g2, g3]
end
theorem sub_node (us : List Th) (t : Th) (b : Int) : size (sub us t b) = (vc us t b).1 + sizes (subs us (kids t) (b + (bnd t : Nat))) ∧ (isVar t = true → depth (sub us t b) = (vc us t b).2) ∧ (isVar t = false → depth (sub us t b) = 1 + depths (subs us (kids t) (b + (bnd t : Nat)))) := by
  cases t with
  | var v =>
    have e : kids (.var v) = [] := rfl
    refine ⟨?_, fun _ => ?_, fun h => by cases h⟩
    · rw [e, subs, sizes, sub, subV, vc]
      cases us.reverse[(v - b).toNat]? with
      | none => simp only []; split <;> simp [size]
      | some u =>
        simp only []
        by_cases c : 0 ≤ v - b
        · rw [if_pos c, if_pos c, (lift_size b u 0).1]; simp
        · rw [if_neg c, if_neg c]; simp [size]
    · rw [sub, subV, vc]
      cases us.reverse[(v - b).toNat]? with
      | none => simp only []; split <;> simp [depth]
      | some u =>
        simp only []
        by_cases c : 0 ≤ v - b
        · rw [if_pos c, if_pos c, (lift_size b u 0).2.1]
        · rw [if_neg c, if_neg c]; simp [depth]
  | _ => exact ⟨by simp [sub, size, vc, kids, subs, sizes, bnd], (fun h => by cases h), fun _ => by simp [sub, depth, kids, subs, depths, bnd]⟩
/-! the loop -/
def tS (us : List Th) : List (Th × Int × Nat) → Nat
  | [] => 0
  | (t, b, _) :: r => size (sub us t b) + tS us r
theorem tS_append (us : List Th) : ∀ xs ys, tS us (xs ++ ys) = tS us xs + tS us ys
  | [], ys => by simp [tS]
  | (t, b, d) :: r, ys => by simp only [List.cons_append, tS, tS_append us r ys]; omega
theorem tS_kids (us : List Th) (b : Int) (d : Nat) : ∀ ts : List Th, tS us (ts.map fun t => (t, b, d)) = sizes (subs us ts b)
  | [] => by simp [tS, subs, sizes]
  | t :: r => by simp only [List.map_cons, tS, subs, sizes, tS_kids us b d r]
theorem subs_mem {us : List Th} {b : Int} : ∀ {ts : List Th} {n : Nat}, depths (subs us ts b) ≤ n ↔ ∀ u ∈ ts, depth (sub us u b) ≤ n
  | [], n => by simp [subs, depths]
  | t :: r, n => by
    rw [subs, depths]
    have := subs_mem (us := us) (b := b) (ts := r) (n := n)
    constructor
    · intro h u hu
      rcases List.mem_cons.mp hu with rfl | hu
      · omega
      · exact this.mp (by omega) u hu
    · intro h
      have h1 := h t List.mem_cons_self
      have h2 := this.mpr fun u hu => h u (List.mem_cons_of_mem _ hu)
      omega
def goodT (us : List Th) (mn : Nat) (ts : List (Th × Int × Nat)) : Prop := mn + tS us ts ≤ 4000 ∧ ∀ p ∈ ts, p.2.2 + depth (sub us p.1 p.2.1) ≤ 121
theorem goodT_step (us : List Th) (mn : Nat) (r : List (Th × Int × Nat)) (t : Th) (b : Int) (d : Nat) :
    goodT us mn (r ++ [(t, b, d)]) ↔ (mn + (vc us t b).1 ≤ 4000 ∧ d + (vc us t b).2 ≤ 121) ∧ goodT us (mn + (vc us t b).1) (r ++ (kids t).map fun u => (u, b + (bnd t : Nat), d + 1)) := by
  obtain ⟨n1, n2, n3⟩ := sub_node us t b
  have one : tS us [(t, b, d)] = size (sub us t b) := by simp [tS]
  unfold goodT
  rw [tS_append, tS_append, one, tS_kids, n1]
  have kd : (∀ p ∈ (kids t).map fun u => (u, b + ((bnd t : Nat) : Int), d + 1), p.2.2 + depth (sub us p.1 p.2.1) ≤ 121) ↔ ∀ u ∈ kids t, d + 1 + depth (sub us u (b + (bnd t : Nat))) ≤ 121 := by
    constructor
    · intro h u hu
      exact h (u, b + ((bnd t : Nat) : Int), d + 1) (List.mem_map.mpr ⟨u, hu, rfl⟩)
    · intro h p hp
      obtain ⟨u, hu, rfl⟩ := List.mem_map.mp hp
      exact h u hu
  have al : ∀ xs ys : List (Th × Int × Nat), (∀ p ∈ xs ++ ys, p.2.2 + depth (sub us p.1 p.2.1) ≤ 121) ↔ (∀ p ∈ xs, p.2.2 + depth (sub us p.1 p.2.1) ≤ 121) ∧ ∀ p ∈ ys, p.2.2 + depth (sub us p.1 p.2.1) ≤ 121 := fun xs ys => by
    constructor
    · intro h
      exact ⟨fun p hp => h p (List.mem_append_left _ hp), fun p hp => h p (List.mem_append_right _ hp)⟩
    · intro h p hp
      rcases List.mem_append.mp hp with hp | hp
      · exact h.1 p hp
      · exact h.2 p hp
  rw [al, al, kd]
  have self : (∀ p ∈ [(t, b, d)], p.2.2 + depth (sub us p.1 p.2.1) ≤ 121) ↔ d + depth (sub us t b) ≤ 121 := by simp
  rw [self]
  have key : d + depth (sub us t b) ≤ 121 ↔ d + (vc us t b).2 ≤ 121 ∧ ∀ u ∈ kids t, d + 1 + depth (sub us u (b + (bnd t : Nat))) ≤ 121 := by
    cases hv : isVar t with
    | true =>
      rw [n2 hv]
      have e : kids t = [] := by cases t <;> first | rfl | cases hv
      rw [e]
      simp
    | false =>
      rw [n3 hv, vc_non hv]
      have q : (∀ u ∈ kids t, d + 1 + depth (sub us u (b + (bnd t : Nat))) ≤ 121) ↔ (depths (subs us (kids t) (b + (bnd t : Nat))) ≤ 120 - d ∨ kids t = []) ∧ (d + 1 ≤ 121 ∨ kids t = []) := by
        constructor
        · intro h
          cases hk : kids t with
          | nil => exact ⟨.inr rfl, .inr rfl⟩
          | cons x r =>
            rw [hk] at h
            have := h x List.mem_cons_self
            exact ⟨.inl (subs_mem.mpr fun u hu => by have := h u hu; omega), .inl (by omega)⟩
        · rintro ⟨h1 | h1, h2 | h2⟩ u hu
          · have := subs_mem.mp h1 u hu
            omega
          · rw [h2] at hu; cases hu
          · rw [h1] at hu; cases hu
          · rw [h1] at hu; cases hu
      rw [q]
      have z : kids t = [] → depths (subs us (kids t) (b + (bnd t : Nat))) = 0 := fun h => by rw [h, subs, depths]
      constructor
      · intro h
        exact ⟨by show d + 1 ≤ 121; omega, .inl (by omega), .inl (by omega)⟩
      · rintro ⟨h0, h1 | h1, h2⟩
        · have h0' : d + 1 ≤ 121 := h0
          omega
        · have h0' : d + 1 ≤ 121 := h0
          have := z h1
          omega
  rw [key]
  constructor
  · rintro ⟨h1, h2, h3, h4⟩
    exact ⟨⟨by omega, h3⟩, by omega, h2, h4⟩
  · rintro ⟨⟨h1, h2⟩, h3, h4, h5⟩
    exact ⟨by omega, h4, h2, h5⟩

def szT : List (Th × Int × Nat) → Nat
  | [] => 0
  | (t, _, _) :: r => size t + szT r
def nmT : List (Th × Int × Nat) → Bool
  | [] => true
  | (t, _, _) :: r => nms t && nmT r
theorem szT_append : ∀ xs ys, szT (xs ++ ys) = szT xs + szT ys
  | [], ys => by simp [szT]
  | x :: r, ys => by simp only [List.cons_append, szT, szT_append r ys]; omega
theorem nmT_append : ∀ xs ys, nmT (xs ++ ys) = (nmT xs && nmT ys)
  | [], ys => by simp [nmT]
  | x :: r, ys => by simp only [List.cons_append, nmT, nmT_append r ys, Bool.and_assoc]
theorem szT_len : ∀ ts : List (Th × Int × Nat), ts.length ≤ szT ts
  | [] => by simp [szT]
  | (t, _, _) :: r => by
    have h := szT_len r
    have h2 := size_kids t
    simp only [List.length_cons, szT]
    omega
theorem szT_kids (b : Int) (d : Nat) : ∀ ts : List Th, szT (ts.map fun t => (t, b, d)) = sizes ts
  | [] => by simp [szT, sizes]
  | t :: r => by simp only [List.map_cons, szT, sizes, szT_kids b d r]
theorem nmT_kids (b : Int) (d : Nat) : ∀ ts : List Th, nmT (ts.map fun t => (t, b, d)) = nmss ts
  | [] => by simp [nmT, nmss]
  | t :: r => by simp only [List.map_cons, nmT, nmss, nmT_kids b d r]
theorem lays_trs : ∀ ts : List (Th × Int × Nat), lays (ts.map tr) = nmT ts
  | [] => by simp [lays, nmT]
  | (t, b, d) :: r => by simp [lays, nmT, tr, lay, lay_enc, lays_trs r]
theorem nb_cond (s0 s1 s2 s3 s5 s6 s7 s8 s9 s10 s11 : Option S) {xs : List D} (m : Int) (h : lays xs = true) : (tOf (eBin dNe (eVar 4) (eLst aNil)) : Sm M2 Bool) ⟨[s0, s1, s2, s3, some (.l xs), s5, s6, s7, s8, s9, s10, s11], m⟩ = .ok (!xs.isEmpty) ⟨[s0, s1, s2, s3, some (.l xs), s5, s6, s7, s8, s9, s10, s11], m⟩ := by
  walk_at "ey"
  simp only [ne_nil h]
  rfl
theorem nb_loop {c : Fn → List S → Int → Rs S Int} (hc : ∀ t m, c .within [.d (enc t)] m = .ok (.l (encs (kids t))) m) {us : List Th}
    (m : Int) (ht1 : ∀ (i : Nat) (d : D), (us.map row).reverse[i]? = some d → c .term_for [.d (.lst (us.map row)), .d (.int (i : Int))] m = .ok (.d d) m) (ht2 : ∀ i : Int, (i < 0 ∨ ((us.length : Nat) : Int) ≤ i) → c .term_for [.d (.lst (us.map row)), .d (.int i)] m = .ok (.d .non) m) (s0 s1 s10 : Option S) :
    ∀ (n : Nat) (ts : List (Th × Int × Nat)) (mn : Nat) (s2 s5 s6 s7 s8 s9 : Option S), (s2 = some (.l (us.map row)) ∨ s2 = some (.d (.lst (us.map row)))) → szT ts < n → szT ts ≤ 900000 → nmT ts = true →
    (goodT us mn ts → ∃ rho', (sWhile (tOf (eBin dNe (eVar 4) (eLst aNil))) (NB c) n : Sm M2 Out) ⟨[s0, s1, s2, some (.d (.int (mn : Nat))), some (.l (ts.map tr)), s5, s6, s7, s8, s9, s10, none], m⟩ = .ok .nx ⟨rho', m⟩) ∧
    (¬ goodT us mn ts → mn ≤ 4000 → ∃ rho', (sWhile (tOf (eBin dNe (eVar 4) (eLst aNil))) (NB c) n : Sm M2 Out) ⟨[s0, s1, s2, some (.d (.int (mn : Nat))), some (.l (ts.map tr)), s5, s6, s7, s8, s9, s10, none], m⟩ = .ex ⟨"TooMany", none⟩ ⟨rho', m⟩)
  | 0, ts, _, _, _, _, _, _, _, _, h, _, _ => by omega
  | n + 1, ts, mn, s2, s5, s6, s7, s8, s9, h2, h, hs, hn => by
    rcases split_lastP ts with rfl | ⟨r, ⟨t, b, d⟩, rfl⟩
    · refine ⟨fun _ => ?_, fun hb hm => ?_⟩
      · unfold sWhile
        rw [nb_cond _ _ _ _ _ _ _ _ _ _ _ _ (by rw [lays_trs]; exact hn)]
        exact ⟨[s0, s1, s2, some (.d (.int (mn : Nat))), some (.l []), s5, s6, s7, s8, s9, s10, none], by simp⟩
      · exact (hb ⟨by simpa [tS] using hm, fun p hp => by cases hp⟩).elim
    · rw [szT_append] at h hs
      have e0 : ((r ++ [(t, b, d)]).map tr).isEmpty = false := by simp
      have e1 : (r ++ [(t, b, d)]).map tr = r.map tr ++ [tr (t, b, d)] := by simp
      have e2 : szT [(t, b, d)] = 1 + sizes (kids t) := by simp only [szT, size_kids]; omega
      have hr := szT_len r
      have hk := sizes_len (kids t)
      have hn0 := hn
      rw [nmT_append, Bool.and_eq_true] at hn
      have hn2 : nms t = true := by have := hn.2; simpa [nmT] using this
      obtain ⟨s2', g1, g3⟩ := nb_pre m ht1 ht2 s0 s1 s2 s5 s6 s7 s8 s9 s10 h2 (r.map tr) t b d mn
      have st : ∀ {X : Rs Out (Z Int)}, NB c ⟨[s0, s1, s2, some (.d (.int (mn : Nat))), some (.l (r.map tr ++ [tr (t, b, d)])), s5, s6, s7, s8, s9, s10, none], m⟩ = X → (sWhile (tOf (eBin dNe (eVar 4) (eLst aNil))) (NB c) (n + 1) : Sm M2 Out) ⟨[s0, s1, s2, some (.d (.int (mn : Nat))), some (.l ((r ++ [(t, b, d)]).map tr)), s5, s6, s7, s8, s9, s10, none], m⟩ = X.bind fun o z2 => (match o with
          | .nx => sWhile (tOf (eBin dNe (eVar 4) (eLst aNil))) (NB c) n z2
          | .ct => sWhile (tOf (eBin dNe (eVar 4) (eLst aNil))) (NB c) n z2
          | .bk => .ok .nx z2
          | .rt s => .ok (.rt s) z2) := fun {X} hX => by
        conv => lhs; unfold sWhile
        rw [nb_cond _ _ _ _ _ _ _ _ _ _ _ _ (by rw [lays_trs]; exact hn0), e0, e1]
        simp only [Bool.not_false, Rs.bind_ok, if_true]
        rw [hX]
        all_goals rfl
      by_cases nd : mn + (vc us t b).1 ≤ 4000 ∧ d + (vc us t b).2 ≤ 121
      · have y := nb2_step hc s0 s1 s2' s9 s10 (r.map tr) t b d (vc us t b).1 (vc us t b).2 mn m (by rw [List.length_map]; show _ ≤ 1000000; omega) nd.1 nd.2
        have ih := nb_loop hc m ht1 ht2 s0 s1 s10 n (r ++ (kids t).map fun u => (u, b + (bnd t : Nat), d + 1)) (mn + (vc us t b).1) s2' (some (.d (enc t))) (some (.d (.int b))) (some (.d (.int (d : Nat)))) (some (.d (.tup [.int ((vc us t b).1 : Nat), .int ((vc us t b).2 : Nat)]))) (some (.d (.int (bnd t : Nat)))) g1 (by rw [szT_append, szT_kids]; omega) (by rw [szT_append, szT_kids]; omega) (by rw [nmT_append, hn.1, nmT_kids, nms_kids hn2]; rfl)
        have sw := st (g3.trans y)
        rw [← List.map_append] at sw
        rw [sw]
        simp only [Rs.bind_ok]
        exact ⟨fun hg => ih.1 ((goodT_step us mn r t b d).mp hg).2, fun hg _ => ih.2 (fun q => hg ((goodT_step us mn r t b d).mpr ⟨nd, q⟩)) nd.1⟩
      · obtain ⟨rho', y⟩ := nb2_no (c := c) s0 s1 s2' (some (.l (r.map tr))) s9 s10 t b d (vc us t b).1 (vc us t b).2 mn m nd
        have sw := st (g3.trans y)
        rw [sw]
        refine ⟨fun hg => (nd ((goodT_step us mn r t b d).mp hg).1).elim, fun _ _ => ⟨rho', rfl⟩⟩
theorem row_call {c : Fn → List S → Int → Rs S Int} {u : Th} {s0 s1 : Option S} (m : Int) (h1 : c .parts_of [.d (enc u)] m = .ok (.d (.int (size u : Nat))) m) (h2 : c .deep_of [.d (enc u)] m = .ok (.d (.int (depth u : Nat))) m) :
    escf (eTup (aCons (escf (eCall (c .parts_of) (aCons (escf (eVar 10)) aNil))) (aCons (escf (eCall (c .deep_of) (aCons (escf (eVar 10)) aNil))) aNil)) : Sm M2 S) ⟨[s0, s1, none, none, none, none, none, none, none, none, some (.d (enc u)), none], m⟩ = .ok (.d (row u)) ⟨[s0, s1, none, none, none, none, none, none, none, none, some (.d (enc u)), none], m⟩ := by
  walk_at "ey"
  rw [h1]
  walk_at "ey"
  rw [h2]
  walk_at "ey"
  rfl

def fnR (X : Rs Out (Z Int)) : Rs S Int := match X with
  | .ok (.rt s) z => .ok s z.m
  | .ok .nx z => .ok (.d .non) z.m
  | .ok _ _ => .bad
  | .ex x z => .ex x z.m
  | .bad => .bad
theorem nf_gen {W : Sm M2 Out} {x y : D} {m : Int} {rows : List D} {X : Rs Out (Z Int)} {E : Sm M2 S} (hE : E ⟨[some (.d x), some (.d y), none, none, none, none, none, none, none, none, none, none], m⟩ = .ok (.l rows) ⟨[some (.d x), some (.d y), none, none, none, none, none, none, none, none, none, none], m⟩)
    (hW : W ⟨[some (.d x), some (.d y), some (.l rows), some (.d (.int 0)), some (.l [.tup [x, .int 0, .int 1]]), none, none, none, none, none, none, none], m⟩ = X) :
    fnM 12 (sSeq (sSet 2 E) (sSeq (sSet 3 (eC (.int 0))) (sSeq (sSet 4 (eLst (aCons (escf (eTup (aCons (escf (eVar 0)) (aCons (escf (eC (.int 0))) (aCons (escf (eC (.int 1))) aNil))))) aNil))) W))) [.d x, .d y] m = fnR X := by
  subst hW
  walk_at "ey"
  rw [hE]
  walk_at "ey"
  generalize W _ = X
  cases X with
  | ok o z => cases o <;> rfl
  | ex _ _ => rfl
  | bad => rfl
/-- need_fit lets by just what fits -/
theorem need_fit_eq (n : Nat) (t : Th) (us : List Th) (m : Int) (hu : ∀ u ∈ us, size u ≤ 900000 ∧ nms u = true) (hul : us.length ≤ 1000) (h1 : size t ≤ 900000) (hn : nms t = true) :
    (size (sub us t 0) ≤ 4000 ∧ depth (sub us t 0) ≤ 120 → mir (n + 3) .need_fit [.d (enc t), .d (.tup (encs us))] m = .ok (.d .non) m) ∧ (¬ (size (sub us t 0) ≤ 4000 ∧ depth (sub us t 0) ≤ 120) → mir (n + 3) .need_fit [.d (enc t), .d (.tup (encs us))] m = .ex ⟨"TooMany", none⟩ m) := by
  have hE := elc_map (M := M2) (i := 10) (its := iAnyM (eVar 1)) (e := (eTup (aCons (escf (eCall (mir (n + 2) .parts_of) (aCons (escf (eVar 10)) aNil))) (aCons (escf (eCall (mir (n + 2) .deep_of) (aCons (escf (eVar 10)) aNil))) aNil)))) enc (g := row) (ts := us) (z := ⟨[some (.d (enc t)), some (.d (.tup (encs us))), none, none, none, none, none, none, none, none, none, none], m⟩) (z0 := ⟨[some (.d (enc t)), some (.d (.tup (encs us))), none, none, none, none, none, none, none, none, none, none], m⟩) (by rw [encs_map]; rfl) rfl (by show _ ≤ 1000000; omega) (fun u hu2 => row_call m (parts_eq n u m (hu u hu2).1 (hu u hu2).2) (deep_eq n u m (hu u hu2).1 (hu u hu2).2))
  have e : szT [(t, 0, 1)] = size t := by simp [szT]
  obtain ⟨y1, y2⟩ := nb_loop (c := mir (n + 2)) (fun t m => within_eq (n + 1) t m) (us := us) m (fun i d h => tf_some (sq_lst (us.map row)) (n + 1) m h) (fun i h => tf_none (sq_lst (us.map row)) (n + 1) m (by rw [List.length_map]; exact h)) (some (.d (enc t))) (some (.d (.tup (encs us)))) none whileN [(t, 0, 1)] 0 (some (.l (us.map row))) none none none none none (.inl rfl) (by rw [e]; show _ < 1000000000; omega) (by rw [e]; exact h1) (by simpa [nmT] using hn)
  have gi : goodT us 0 [(t, 0, 1)] ↔ size (sub us t 0) ≤ 4000 ∧ depth (sub us t 0) ≤ 120 := by
    unfold goodT
    simp only [tS, List.mem_singleton, forall_eq]
    omega
  constructor
  · intro h
    obtain ⟨rho', hW⟩ := y1 (gi.mpr h)
    exact nf_gen hE hW
  · intro h
    obtain ⟨rho', hW⟩ := y2 (fun q => h (gi.mp q)) (by omega)
    exact nf_gen hE hW
end L
set_option pp.maxSteps 400
set_option pp.deepTerms false
namespace L
open PySem L2 G
theorem xb_var : dIn (.str "var") (.tup [.str "all", .str "some"]) = some (.d (.bl false)) := wb_var
theorem xc_var : dIn (.str "var") (.tup [.str "call", .str "rel"]) = some (.d (.bl false)) := wc_var
theorem xb_call : dIn (.str "call") (.tup [.str "all", .str "some"]) = some (.d (.bl false)) := wb_call
theorem xc_call : dIn (.str "call") (.tup [.str "call", .str "rel"]) = some (.d (.bl true)) := wc_call
theorem xb_rel : dIn (.str "rel") (.tup [.str "all", .str "some"]) = some (.d (.bl false)) := wb_rel
theorem xc_rel : dIn (.str "rel") (.tup [.str "call", .str "rel"]) = some (.d (.bl true)) := wc_rel
theorem xb_same : dIn (.str "same") (.tup [.str "all", .str "some"]) = some (.d (.bl false)) := wb_same
theorem xc_same : dIn (.str "same") (.tup [.str "call", .str "rel"]) = some (.d (.bl false)) := wc_same
theorem xb_no : dIn (.str "no") (.tup [.str "all", .str "some"]) = some (.d (.bl false)) := wb_no
theorem xc_no : dIn (.str "no") (.tup [.str "call", .str "rel"]) = some (.d (.bl false)) := wc_no
theorem xb_and : dIn (.str "and") (.tup [.str "all", .str "some"]) = some (.d (.bl false)) := wb_and
theorem xc_and : dIn (.str "and") (.tup [.str "call", .str "rel"]) = some (.d (.bl false)) := wc_and
theorem xb_or : dIn (.str "or") (.tup [.str "all", .str "some"]) = some (.d (.bl false)) := wb_or
theorem xc_or : dIn (.str "or") (.tup [.str "call", .str "rel"]) = some (.d (.bl false)) := wc_or
theorem xb_if : dIn (.str "if") (.tup [.str "all", .str "some"]) = some (.d (.bl false)) := wb_if
theorem xc_if : dIn (.str "if") (.tup [.str "call", .str "rel"]) = some (.d (.bl false)) := wc_if
theorem xb_all : dIn (.str "all") (.tup [.str "all", .str "some"]) = some (.d (.bl true)) := wb_all
theorem xc_all : dIn (.str "all") (.tup [.str "call", .str "rel"]) = some (.d (.bl false)) := wc_all
theorem xb_some : dIn (.str "some") (.tup [.str "all", .str "some"]) = some (.d (.bl true)) := wb_some
theorem xc_some : dIn (.str "some") (.tup [.str "call", .str "rel"]) = some (.d (.bl false)) := wc_some
theorem sl2 (a b c : D) : dSl (.tup [a, b, c]) none (some 2) = some (.t [a, b]) := rfl
theorem sl1 (a b c : D) : dSl (.tup [a, b, c]) none (some 1) = some (.t [a]) := rfl
theorem slr (a b c : D) : dSl (.tup [a, b, c]) (some 1) none = some (.t [b, c]) := rfl
theorem sn1 (a : D) : dSl (.tup [a]) none (some 1) = some (.t [a]) := rfl
theorem snr (a : D) : dSl (.tup [a]) (some 1) none = some (.t []) := rfl
theorem ta21 (a b c : D) : dAdd (.tup [a, b]) (.tup [c]) = some (.t [a, b, c]) := by unfold dAdd; exact if_pos (show 2 + 1 ≤ 1000000 by omega)
theorem ta12 (a b c : D) : dAdd (.tup [a]) (.tup [b, c]) = some (.t [a, b, c]) := by unfold dAdd; exact if_pos (show 1 + 2 ≤ 1000000 by omega)
theorem ta10 (a : D) : dAdd (.tup [a]) (.tup []) = some (.t [a]) := by unfold dAdd; exact if_pos (show 1 + 0 ≤ 1000000 by omega)
local macro_rules | `(tactic| walk_at "ex") => `(tactic| try simp only [sSeq, sSet, sExpr, sRet, sIf, sAsg, una, escf, escS, opd, eVar, eC, eBin, eUn, eFn, eCall, eTup, eLst, aCons, aNil, fin, rd, rds, R.toS, dsOf, Rs.bind_ok, Rs.bind_bad, Rs.bind_ex, Rs.opt_some, Option.bind_some, Option.map_some, ownAt, eExt, eApp, ePop, List.getElem?_cons_zero, List.getElem?_cons_succ, List.set_cons_zero, List.set_cons_succ, okArg, List.all_cons, List.all_nil, Bool.and_self, if_true, kName, kTup, ksCons, ksNil, fMax, tOf, List.length_cons, List.length_nil, Bool.not_false, Bool.not_true, if_false, Bool.false_eq_true, lm0, lm1, lm2, lm3, lm4, lm5, lm6, lm7, lm8, lm9, lm10, lm11, lm12, fnM, List.map_cons, List.map_nil, List.replicate, List.cons_append, List.nil_append, Nat.reduceAdd, Nat.reduceSub, sNil, tAndM, tOrM, tNotM, tTru, dTru, eIf, dSub_i, dAdd_i, dLt_i, dLe_i, dGt_i, dGe_i, dEq_i, decide_true, decide_false, eChain, eAndM, eSl, oInt, dNeg, dIx, atI0, atI1, atI2, aDef, fTuple, wv_var, wc_var, wj_var, wb_var, wv_call, wc_call, wj_call, wb_call, wv_rel, wc_rel, wj_rel, wb_rel, wv_same, wc_same, wj_same, wb_same, wv_no, wc_no, wj_no, wb_no, wv_and, wc_and, wj_and, wb_and, wv_or, wc_or, wj_or, wb_or, wv_if, wc_if, wj_if, wb_if, wv_all, wc_all, wj_all, wb_all, wv_some, wc_some, wj_some, wb_some])
local macro_rules | `(tactic| walk_at "ey") => `(tactic| try simp only [sSeq, sSet, sExpr, sRet, sIf, sAsg, una, escf, escS, opd, eVar, eC, eBin, eUn, eFn, eCall, eTup, eLst, aCons, aNil, fin, rd, rds, R.toS, dsOf, Rs.bind_ok, Rs.bind_bad, Rs.bind_ex, Rs.opt_some, Option.bind_some, Option.map_some, ownAt, eExt, eApp, ePop, List.getElem?_cons_zero, List.getElem?_cons_succ, List.set_cons_zero, List.set_cons_succ, okArg, List.all_cons, List.all_nil, Bool.and_self, if_true, kName, kTup, ksCons, ksNil, fMax, tOf, List.length_cons, List.length_nil, Bool.not_false, Bool.not_true, if_false, Bool.false_eq_true, lm0, lm1, lm2, lm3, lm4, lm5, lm6, lm7, lm8, lm9, lm10, lm11, lm12, fnM, List.map_cons, List.map_nil, List.replicate, List.cons_append, List.nil_append, Nat.reduceAdd, Nat.reduceSub, sNil, tAndM, tOrM, tNotM, tTru, dTru, eIf, dSub_i, dAdd_i, dLt_i, dLe_i, dGt_i, dGe_i, dEq_i, decide_true, decide_false, eChain, eAndM, eSl, oInt, dNeg, fInt, aDef, fTuple])
local macro_rules | `(tactic| walk_at "ez") => `(tactic| try simp only [sSeq, sSet, sExpr, sRet, sIf, sAsg, una, escf, escS, opd, eVar, eC, eBin, eUn, eFn, eCall, eTup, eLst, aCons, aNil, fin, rd, rds, R.toS, dsOf, Rs.bind_ok, Rs.bind_bad, Rs.bind_ex, Rs.opt_some, Option.bind_some, Option.map_some, ownAt, eExt, eApp, ePop, List.getElem?_cons_zero, List.getElem?_cons_succ, List.set_cons_zero, List.set_cons_succ, okArg, List.all_cons, List.all_nil, Bool.and_self, if_true, kName, kTup, ksCons, ksNil, fMax, tOf, List.length_cons, List.length_nil, Bool.not_false, Bool.not_true, if_false, Bool.false_eq_true, lm0, lm1, lm2, lm3, lm4, lm5, lm6, lm7, lm8, lm9, lm10, lm11, lm12, fnM, List.map_cons, List.map_nil, List.replicate, List.cons_append, List.nil_append, Nat.reduceAdd, Nat.reduceSub, sNil, tAndM, tOrM, tNotM, tTru, dTru, eIf, dSub_i, dAdd_i, dLt_i, dLe_i, dGt_i, dGe_i, dEq_i, decide_true, decide_false, eChain, eAndM, eSl, oInt, dNeg, dIx, atI0, atI1, atI2, aDef, fTuple, wv_var, wc_var, wj_var, wb_var, wv_call, wc_call, wj_call, wb_call, wv_rel, wc_rel, wj_rel, wb_rel, wv_same, wc_same, wj_same, wb_same, wv_no, wc_no, wj_no, wb_no, wv_and, wc_and, wj_and, wb_and, wv_or, wc_or, wj_or, wb_or, wv_if, wc_if, wj_if, wb_if, wv_all, wc_all, wj_all, wb_all, wv_some, wc_some, wj_some, wb_some , sl2, sl1, slr, sn1, snr, ta21, ta12, ta10, xb_var, xc_var, xb_call, xc_call, xb_rel, xc_rel, xb_same, xc_same, xb_no, xc_no, xb_and, xc_and, xb_or, xc_or, xb_if, xc_if, xb_all, xc_all, xb_some, xc_some])
theorem eq_raise : dEq (.str "raise") (.str "raise") = some (.d (.bl true)) := by kernel_rfl
theorem lput_call {c : List S → Int → Rs S Int} {k : Int} {th x y : D} {b : Int} (m : Int) (h : c [.d (.tup [.str "raise", .int k]), .d x, .d (.int b)] m = .ok (.d y) m) : escf (eCall c (aCons (escf (eVar 0)) (aCons (escf (eVar 4)) (aCons (escf (eVar 2)) aNil))) : Sm M2 S) ⟨[some (.d (.tup [.str "raise", .int k])), some (.d th), some (.d (.int b)), none, some (.d x)], m⟩ = .ok (.d y) ⟨[some (.d (.tup [.str "raise", .int k])), some (.d th), some (.d (.int b)), none, some (.d x)], m⟩ := by
  walk_at "ez"
  rw [h]
  walk_at "ez"
theorem lput_lc {c : List S → Int → Rs S Int} {k : Int} {th : D} {b : Int} {as : List Th} {its : Sm M2 (List D)} (m : Int) (hi : its ⟨[some (.d (.tup [.str "raise", .int k])), some (.d th), some (.d (.int b)), none, none], m⟩ = .ok (as.map enc) ⟨[some (.d (.tup [.str "raise", .int k])), some (.d th), some (.d (.int b)), none, none], m⟩) (hl : as.length ≤ lim) (h : ∀ u ∈ as, c [.d (.tup [.str "raise", .int k]), .d (enc u), .d (.int b)] m = .ok (.d (enc (lift k u b))) m) :
    (eLc its (kName 4) (fun z => .ok true z) (eCall c (aCons (escf (eVar 0)) (aCons (escf (eVar 4)) (aCons (escf (eVar 2)) aNil)))) [4] : Sm M2 S) ⟨[some (.d (.tup [.str "raise", .int k])), some (.d th), some (.d (.int b)), none, none], m⟩ = .ok (.l (encs (lifts k as b))) ⟨[some (.d (.tup [.str "raise", .int k])), some (.d th), some (.d (.int b)), none, none], m⟩ := by
  have e : encs (lifts k as b) = as.map fun u => enc (lift k u b) := by rw [lifts_map, encs_map, List.map_map]; rfl
  rw [e]
  exact elc_map (M := M2) enc (g := fun u => enc (lift k u b)) (ts := as) hi rfl hl (fun u hu => lput_call m (h u hu))
theorem lput_eq {k : Int} : ∀ (n : Nat) (t : Th) (b : Int) (m : Int), depth t ≤ n → size t ≤ 900000 → mir (n + 1) ._law_put [.d (.tup [.str "raise", .int k]), .d (enc t), .d (.int b)] m = .ok (.d (enc (lift k t b))) m
  | 0, t, _, _, h, _ => by rw [depth_kids] at h; omega
  | n + 1, t, b, m, h, hs => by
    rw [depth_kids] at h
    rw [size_kids] at hs
    have hl := sizes_len (kids t)
    have ih : ∀ u ∈ kids t, ∀ b : Int, mir (n + 1) ._law_put [.d (.tup [.str "raise", .int k]), .d (enc u), .d (.int b)] m = .ok (.d (enc (lift k u b))) m := fun u hu b => lput_eq n u b m (depths_le (by omega) u hu) (by have := mem_sizes hu; omega)
    show fnM 5 (m__law_put (mir (n + 1))) [.d (.tup [.str "raise", .int k]), .d (enc t), .d (.int b)] m = _
    unfold m__law_put
    cases t with
    | var v =>
      rw [enc, lift]
      walk_at "ez"
      rw [eq_raise]
      walk_at "ez"
      by_cases c : b ≤ v
      · simp only [c]
        walk_at "ez"
        rw [enc]
      · simp only [c]
        walk_at "ez"
        rw [enc]
    | no =>
      rw [enc, lift]
      walk_at "ez"
      have lc := lput_lc (k := k) (c := mir (n + 1) ._law_put) (as := []) (th := .tup [.str "no"]) (its := iAnyM (eSl dSl (eVar 1) (oInt (eC (.int 1))) (fun z => .ok none z))) (b := b) m rfl (show (0 : Nat) ≤ 1000000 by omega) (fun u hu => by cases hu)
      rw [lc]
      simp only [lifts, encs]
      walk_at "ez"
      rw [enc]
    | call f as =>
      rw [enc, lift]
      walk_at "ez"
      have lc := lput_lc (as := as) (th := .tup [.str "call", .str f, .tup (encs as)]) (its := iAnyM (eBin dIx (eVar 1) (eC (.int 2)))) (b := b) m (by rw [← encs_map]; rfl) (show as.length ≤ 1000000 by simp only [kids] at hs hl; omega) (fun u hu => ih u hu b)
      rw [lc]
      walk_at "ez"
      rw [enc]
    | rel f as =>
      rw [enc, lift]
      walk_at "ez"
      have lc := lput_lc (as := as) (th := .tup [.str "rel", .str f, .tup (encs as)]) (its := iAnyM (eBin dIx (eVar 1) (eC (.int 2)))) (b := b) m (by rw [← encs_map]; rfl) (show as.length ≤ 1000000 by simp only [kids] at hs hl; omega) (fun u hu => ih u hu b)
      rw [lc]
      walk_at "ez"
      rw [enc]
    | same x y =>
      rw [enc, lift]
      walk_at "ez"
      have lc := lput_lc (as := [x, y]) (th := .tup [.str "same", enc x, enc y]) (its := iAnyM (eSl dSl (eVar 1) (oInt (eC (.int 1))) (fun z => .ok none z))) (b := b) m rfl (show (2 : Nat) ≤ 1000000 by omega) (fun u hu => ih u (by simpa [kids] using hu) b)
      rw [lc]
      simp only [lifts, encs]
      walk_at "ez"
      rw [enc]
    | and x y =>
      rw [enc, lift]
      walk_at "ez"
      have lc := lput_lc (as := [x, y]) (th := .tup [.str "and", enc x, enc y]) (its := iAnyM (eSl dSl (eVar 1) (oInt (eC (.int 1))) (fun z => .ok none z))) (b := b) m rfl (show (2 : Nat) ≤ 1000000 by omega) (fun u hu => ih u (by simpa [kids] using hu) b)
      rw [lc]
      simp only [lifts, encs]
      walk_at "ez"
      rw [enc]
    | or x y =>
      rw [enc, lift]
      walk_at "ez"
      have lc := lput_lc (as := [x, y]) (th := .tup [.str "or", enc x, enc y]) (its := iAnyM (eSl dSl (eVar 1) (oInt (eC (.int 1))) (fun z => .ok none z))) (b := b) m rfl (show (2 : Nat) ≤ 1000000 by omega) (fun u hu => ih u (by simpa [kids] using hu) b)
      rw [lc]
      simp only [lifts, encs]
      walk_at "ez"
      rw [enc]
    | imp x y =>
      rw [enc, lift]
      walk_at "ez"
      have lc := lput_lc (as := [x, y]) (th := .tup [.str "if", enc x, enc y]) (its := iAnyM (eSl dSl (eVar 1) (oInt (eC (.int 1))) (fun z => .ok none z))) (b := b) m rfl (show (2 : Nat) ≤ 1000000 by omega) (fun u hu => ih u (by simpa [kids] using hu) b)
      rw [lc]
      simp only [lifts, encs]
      walk_at "ez"
      rw [enc]
    | all s x =>
      rw [enc, lift]
      walk_at "ez"
      rw [ih x (by simp [kids]) (b + 1)]
      walk_at "ez"
      rw [enc]
    | some s x =>
      rw [enc, lift]
      walk_at "ez"
      rw [ih x (by simp [kids]) (b + 1)]
      walk_at "ez"
      rw [enc]
theorem fil_call {c : List S → Int → Rs S Int} {us : List Th} {th x y : D} {b : Int} (m : Int) (h : c [.d x, .d (.int (us.length : Nat)), .d (.tup (encs us)), .d (.int b)] m = .ok (.d y) m) : escf (eCall c (aCons (escf (eVar 4)) (aCons (escf (eVar 1)) (aCons (escf (eVar 2)) (aCons (escf (eVar 3)) aNil)))) : Sm M2 S) ⟨[some (.d th), some (.d (.int (us.length : Nat))), some (.d (.tup (encs us))), some (.d (.int b)), some (.d x)], m⟩ = .ok (.d y) ⟨[some (.d th), some (.d (.int (us.length : Nat))), some (.d (.tup (encs us))), some (.d (.int b)), some (.d x)], m⟩ := by
  walk_at "ez"
  rw [h]
  walk_at "ez"
theorem fil_lc {c : List S → Int → Rs S Int} {us : List Th} {th : D} {b : Int} {as : List Th} {its : Sm M2 (List D)} (m : Int) (hi : its ⟨[some (.d th), some (.d (.int (us.length : Nat))), some (.d (.tup (encs us))), some (.d (.int b)), none], m⟩ = .ok (as.map enc) ⟨[some (.d th), some (.d (.int (us.length : Nat))), some (.d (.tup (encs us))), some (.d (.int b)), none], m⟩) (hl : as.length ≤ lim) (h : ∀ u ∈ as, c [.d (enc u), .d (.int (us.length : Nat)), .d (.tup (encs us)), .d (.int b)] m = .ok (.d (enc (sub us.reverse u b))) m) :
    (eLc its (kName 4) (fun z => .ok true z) (eCall c (aCons (escf (eVar 4)) (aCons (escf (eVar 1)) (aCons (escf (eVar 2)) (aCons (escf (eVar 3)) aNil))))) [4] : Sm M2 S) ⟨[some (.d th), some (.d (.int (us.length : Nat))), some (.d (.tup (encs us))), some (.d (.int b)), none], m⟩ = .ok (.l (encs (subs us.reverse as b))) ⟨[some (.d th), some (.d (.int (us.length : Nat))), some (.d (.tup (encs us))), some (.d (.int b)), none], m⟩ := by
  have e : encs (subs us.reverse as b) = as.map fun u => enc (sub us.reverse u b) := by rw [subs_map, encs_map, List.map_map]; rfl
  rw [e]
  exact elc_map (M := M2) enc (g := fun u => enc (sub us.reverse u b)) (ts := as) hi rfl hl (fun u hu => fil_call m (h u hu))
theorem fil_eq {us : List Th} (hus : ∀ u ∈ us, depth u ≤ 130 ∧ size u ≤ 900000) : ∀ (n : Nat) (t : Th) (b : Int) (m : Int), depth t ≤ n → size t ≤ 900000 → mir (n + 132) ._law_filled [.d (enc t), .d (.int (us.length : Nat)), .d (.tup (encs us)), .d (.int b)] m = .ok (.d (enc (sub us.reverse t b))) m
  | 0, t, _, _, h, _ => by rw [depth_kids] at h; omega
  | n + 1, t, b, m, h, hs => by
    rw [depth_kids] at h
    rw [size_kids] at hs
    have hl := sizes_len (kids t)
    have ih : ∀ u ∈ kids t, ∀ b : Int, mir (n + 132) ._law_filled [.d (enc u), .d (.int (us.length : Nat)), .d (.tup (encs us)), .d (.int b)] m = .ok (.d (enc (sub us.reverse u b))) m   := fun u hu b => fil_eq hus n u b m (depths_le (by omega) u hu) (by have := mem_sizes hu; omega)
    show fnM 5 (m__law_filled (mir (n + 132))) [.d (enc t), .d (.int (us.length : Nat)), .d (.tup (encs us)), .d (.int b)] m = _
    unfold m__law_filled
    cases t with
    | var v =>
      rw [enc, sub, subV, List.reverse_reverse]
      walk_at "ez"
      by_cases c : b ≤ v
      · by_cases c2 : v < b + ((us.length : Nat) : Int)
        · obtain ⟨u, hu⟩ : ∃ u, us[(v - b).toNat]? = some u := ⟨_, List.getElem?_eq_getElem (by omega)⟩
          have hum : u ∈ us := List.mem_of_getElem? hu
          have ev : v - b = (((v - b).toNat : Nat) : Int) := by omega
          have ix : atI (encs us) (v - b) = some (enc u) := by
            rw [ev, atI_nat (v := enc u) (by rw [encs_map, List.getElem?_map, hu]; rfl)]
          have lp := lput_eq (k := b) (n + 131) u 0 m (by have := (hus u hum).1; omega) (hus u hum).2
          simp only [c, c2]
          walk_at "ez"
          try simp only [c2]
          walk_at "ez"
          rw [ix]
          walk_at "ez"
          rw [lp]
          walk_at "ez"
          rw [hu]
          simp only []
          rw [if_pos (by omega)]
        · have no : us[(v - b).toNat]? = none := List.getElem?_eq_none (by omega)
          simp only [c, c2]
          walk_at "ez"
          try simp only [c2]
          walk_at "ez"
          try simp only [c]
          walk_at "ez"
          rw [no]
          simp only []
          rw [if_neg (by omega), List.length_reverse, enc]
      · simp only [c]
        walk_at "ez"
        try simp only [c]
        walk_at "ez"
        cases us[(v - b).toNat]? with
        | none => simp only []; rw [if_pos (by omega), enc]
        | some u => simp only []; rw [if_neg (by omega), enc]
    | no =>
      rw [enc, sub]
      walk_at "ez"
      have lc := fil_lc (us := us) (c := mir (n + 132) ._law_filled) (as := []) (th := .tup [.str "no"]) (its := iAnyM (eSl dSl (eVar 0) (oInt (eC (.int 1))) (fun z => .ok none z))) (b := b) m rfl (show (0 : Nat) ≤ 1000000 by omega) (fun u hu => by cases hu)
      rw [lc]
      simp only [subs, encs]
      walk_at "ez"
      rw [enc]
    | call f as =>
      rw [enc, sub]
      walk_at "ez"
      have lc := fil_lc (as := as) (th := .tup [.str "call", .str f, .tup (encs as)]) (its := iAnyM (eBin dIx (eVar 0) (eC (.int 2)))) (b := b) m (by rw [← encs_map]; rfl) (show as.length ≤ 1000000 by simp only [kids] at hs hl; omega) (fun u hu => ih u hu b)
      rw [lc]
      walk_at "ez"
      rw [enc]
    | rel f as =>
      rw [enc, sub]
      walk_at "ez"
      have lc := fil_lc (as := as) (th := .tup [.str "rel", .str f, .tup (encs as)]) (its := iAnyM (eBin dIx (eVar 0) (eC (.int 2)))) (b := b) m (by rw [← encs_map]; rfl) (show as.length ≤ 1000000 by simp only [kids] at hs hl; omega) (fun u hu => ih u hu b)
      rw [lc]
      walk_at "ez"
      rw [enc]
    | same x y =>
      rw [enc, sub]
      walk_at "ez"
      have lc := fil_lc (as := [x, y]) (th := .tup [.str "same", enc x, enc y]) (its := iAnyM (eSl dSl (eVar 0) (oInt (eC (.int 1))) (fun z => .ok none z))) (b := b) m rfl (show (2 : Nat) ≤ 1000000 by omega) (fun u hu => ih u (by simpa [kids] using hu) b)
      rw [lc]
      simp only [subs, encs]
      walk_at "ez"
      rw [enc]
    | and x y =>
      rw [enc, sub]
      walk_at "ez"
      have lc := fil_lc (as := [x, y]) (th := .tup [.str "and", enc x, enc y]) (its := iAnyM (eSl dSl (eVar 0) (oInt (eC (.int 1))) (fun z => .ok none z))) (b := b) m rfl (show (2 : Nat) ≤ 1000000 by omega) (fun u hu => ih u (by simpa [kids] using hu) b)
      rw [lc]
      simp only [subs, encs]
      walk_at "ez"
      rw [enc]
    | or x y =>
      rw [enc, sub]
      walk_at "ez"
      have lc := fil_lc (as := [x, y]) (th := .tup [.str "or", enc x, enc y]) (its := iAnyM (eSl dSl (eVar 0) (oInt (eC (.int 1))) (fun z => .ok none z))) (b := b) m rfl (show (2 : Nat) ≤ 1000000 by omega) (fun u hu => ih u (by simpa [kids] using hu) b)
      rw [lc]
      simp only [subs, encs]
      walk_at "ez"
      rw [enc]
    | imp x y =>
      rw [enc, sub]
      walk_at "ez"
      have lc := fil_lc (as := [x, y]) (th := .tup [.str "if", enc x, enc y]) (its := iAnyM (eSl dSl (eVar 0) (oInt (eC (.int 1))) (fun z => .ok none z))) (b := b) m rfl (show (2 : Nat) ≤ 1000000 by omega) (fun u hu => ih u (by simpa [kids] using hu) b)
      rw [lc]
      simp only [subs, encs]
      walk_at "ez"
      rw [enc]
    | all s x =>
      rw [enc, sub]
      walk_at "ez"
      rw [ih x (by simp [kids]) (b + 1)]
      walk_at "ez"
      rw [enc]
    | some s x =>
      rw [enc, sub]
      walk_at "ez"
      rw [ih x (by simp [kids]) (b + 1)]
      walk_at "ez"
      rw [enc]
end L
set_option pp.maxSteps 400
set_option pp.deepTerms false
namespace L
open PySem L2 G
local macro_rules | `(tactic| walk_at "ex") => `(tactic| try simp only [sSeq, sSet, sExpr, sRet, sIf, sAsg, una, escf, escS, opd, eVar, eC, eBin, eUn, eFn, eCall, eTup, eLst, aCons, aNil, fin, rd, rds, R.toS, dsOf, Rs.bind_ok, Rs.bind_bad, Rs.bind_ex, Rs.opt_some, Option.bind_some, Option.map_some, ownAt, eExt, eApp, ePop, List.getElem?_cons_zero, List.getElem?_cons_succ, List.set_cons_zero, List.set_cons_succ, okArg, List.all_cons, List.all_nil, Bool.and_self, if_true, kName, kTup, ksCons, ksNil, fMax, tOf, List.length_cons, List.length_nil, Bool.not_false, Bool.not_true, if_false, Bool.false_eq_true, lm0, lm1, lm2, lm3, lm4, lm5, lm6, lm7, lm8, lm9, lm10, lm11, lm12, fnM, List.map_cons, List.map_nil, List.replicate, List.cons_append, List.nil_append, Nat.reduceAdd, Nat.reduceSub, sNil, tAndM, tOrM, tNotM, tTru, dTru, eIf, dSub_i, dAdd_i, dLt_i, dLe_i, dGt_i, dGe_i, dEq_i, decide_true, decide_false, eChain, eAndM, eSl, oInt, dNeg, dIx, atI0, atI1, atI2, aDef, fTuple, wv_var, wc_var, wj_var, wb_var, wv_call, wc_call, wj_call, wb_call, wv_rel, wc_rel, wj_rel, wb_rel, wv_same, wc_same, wj_same, wb_same, wv_no, wc_no, wj_no, wb_no, wv_and, wc_and, wj_and, wb_and, wv_or, wc_or, wj_or, wb_or, wv_if, wc_if, wj_if, wb_if, wv_all, wc_all, wj_all, wb_all, wv_some, wc_some, wj_some, wb_some])
local macro_rules | `(tactic| walk_at "ey") => `(tactic| try simp only [sSeq, sSet, sExpr, sRet, sIf, sAsg, una, escf, escS, opd, eVar, eC, eBin, eUn, eFn, eCall, eTup, eLst, aCons, aNil, fin, rd, rds, R.toS, dsOf, Rs.bind_ok, Rs.bind_bad, Rs.bind_ex, Rs.opt_some, Option.bind_some, Option.map_some, ownAt, eExt, eApp, ePop, List.getElem?_cons_zero, List.getElem?_cons_succ, List.set_cons_zero, List.set_cons_succ, okArg, List.all_cons, List.all_nil, Bool.and_self, if_true, kName, kTup, ksCons, ksNil, fMax, tOf, List.length_cons, List.length_nil, Bool.not_false, Bool.not_true, if_false, Bool.false_eq_true, lm0, lm1, lm2, lm3, lm4, lm5, lm6, lm7, lm8, lm9, lm10, lm11, lm12, fnM, List.map_cons, List.map_nil, List.replicate, List.cons_append, List.nil_append, Nat.reduceAdd, Nat.reduceSub, sNil, tAndM, tOrM, tNotM, tTru, dTru, eIf, dSub_i, dAdd_i, dLt_i, dLe_i, dGt_i, dGe_i, dEq_i, decide_true, decide_false, eChain, eAndM, eSl, oInt, dNeg, fInt, aDef, fTuple])
local macro_rules | `(tactic| walk_at "ez") => `(tactic| try simp only [sSeq, sSet, sExpr, sRet, sIf, sAsg, una, escf, escS, opd, eVar, eC, eBin, eUn, eFn, eCall, eTup, eLst, aCons, aNil, fin, rd, rds, R.toS, dsOf, Rs.bind_ok, Rs.bind_bad, Rs.bind_ex, Rs.opt_some, Option.bind_some, Option.map_some, ownAt, eExt, eApp, ePop, List.getElem?_cons_zero, List.getElem?_cons_succ, List.set_cons_zero, List.set_cons_succ, okArg, List.all_cons, List.all_nil, Bool.and_self, if_true, kName, kTup, ksCons, ksNil, fMax, tOf, List.length_cons, List.length_nil, Bool.not_false, Bool.not_true, if_false, Bool.false_eq_true, lm0, lm1, lm2, lm3, lm4, lm5, lm6, lm7, lm8, lm9, lm10, lm11, lm12, fnM, List.map_cons, List.map_nil, List.replicate, List.cons_append, List.nil_append, Nat.reduceAdd, Nat.reduceSub, sNil, tAndM, tOrM, tNotM, tTru, dTru, eIf, dSub_i, dAdd_i, dLt_i, dLe_i, dGt_i, dGe_i, dEq_i, decide_true, decide_false, eChain, eAndM, eSl, oInt, dNeg, dIx, atI0, atI1, atI2, aDef, fTuple, wv_var, wc_var, wj_var, wb_var, wv_call, wc_call, wj_call, wb_call, wv_rel, wc_rel, wj_rel, wb_rel, wv_same, wc_same, wj_same, wb_same, wv_no, wc_no, wj_no, wb_no, wv_and, wc_and, wj_and, wb_and, wv_or, wc_or, wj_or, wb_or, wv_if, wc_if, wj_if, wb_if, wv_all, wc_all, wj_all, wb_all, wv_some, wc_some, wj_some, wb_some , sl2, sl1, slr, sn1, snr, ta21, ta12, ta10, xb_var, xc_var, xb_call, xc_call, xb_rel, xc_rel, xb_same, xc_same, xb_no, xc_no, xb_and, xc_and, xb_or, xc_or, xb_if, xc_if, xb_all, xc_all, xb_some, xc_some])
/-! put_in, put_all, what is told -/
theorem put_in_yes (n : Nat) (t : Th) (us : List Th) (m : Int) (hu : ∀ u ∈ us, depth u ≤ 130 ∧ size u ≤ 900000 ∧ nms u = true) (hul : us.length ≤ 1000) (h1 : size t ≤ 900000) (hn : nms t = true) (hd : depth t ≤ n) (g : size (sub us t 0) ≤ 4000 ∧ depth (sub us t 0) ≤ 120) :
    mir (n + 133) .put_in [.d (enc t), .d (.tup (encs us))] m = .ok (.d (enc (sub us t 0))) m := by
  have a := (need_fit_eq (n + 129) t us m (fun u h => (hu u h).2) hul h1 hn).1 g
  have b := put_eq us (fun u h => ⟨(hu u h).1, (hu u h).2.1⟩) n t 0 m hd h1
  show fnM 2 (m_put_in (mir (n + 132))) [.d (enc t), .d (.tup (encs us))] m = _
  unfold m_put_in
  walk_at "ey"
  rw [a]
  walk_at "ey"
  rw [b]
  walk_at "ey"
theorem put_in_no (n : Nat) (t : Th) (us : List Th) (m : Int) (hu : ∀ u ∈ us, size u ≤ 900000 ∧ nms u = true) (hul : us.length ≤ 1000) (h1 : size t ≤ 900000) (hn : nms t = true) (g : ¬ (size (sub us t 0) ≤ 4000 ∧ depth (sub us t 0) ≤ 120)) :
    mir (n + 133) .put_in [.d (enc t), .d (.tup (encs us))] m = .ex ⟨"TooMany", none⟩ m := by
  have a := (need_fit_eq (n + 129) t us m hu hul h1 hn).2 g
  show fnM 2 (m_put_in (mir (n + 132))) [.d (enc t), .d (.tup (encs us))] m = _
  unfold m_put_in
  walk_at "ey"
  rw [a]
  walk_at "ey"
/-- a term, or none -/
def od : Option Th → D
  | some u => enc u
  | none => .non
def o0 : Option Th → Th
  | some u => u
  | none => .var 0
theorem is_od (o : Option Th) : dIs (od o) .non = some (.d (.bl o.isNone)) := by
  cases o with
  | none => rfl
  | some u => cases u <;> (show dIs (enc _) .non = _; rw [enc]; rfl)
theorem all_it (x : D) (os : List (Option Th)) (m : Int) : (iAnyM (eUn dRev (eVar 1)) : Sm M2 (List D)) ⟨[some (.d x), some (.d (.tup (os.map od))), none], m⟩ = .ok (os.reverse.map od) ⟨[some (.d x), some (.d (.tup (os.map od))), none], m⟩ := by
  simp only [iAnyM]
  walk_at "ey"
  simp only [dRev]
  walk_at "ey"
  simp only [itemsD]
  rw [List.map_reverse]
  rfl
theorem all_lc (x : D) (os : List (Option Th)) (m : Int) (hl : os.length ≤ 1000) : (eLc (iAnyM (eUn dRev (eVar 1))) (kName 2) (fun z => .ok true z) (eIf (tOf (eBin dIs (eVar 2) (eC .non))) (eTup (aCons (escf (eC (.str "var"))) (aCons (escf (eC (.int 0))) aNil))) (eVar 2)) [2] : Sm M2 S) ⟨[some (.d x), some (.d (.tup (os.map od))), none], m⟩ = .ok (.l (encs (os.reverse.map o0))) ⟨[some (.d x), some (.d (.tup (os.map od))), none], m⟩ := by
  have e : encs (os.reverse.map o0) = os.reverse.map fun o => enc (o0 o) := by rw [encs_map, List.map_map]; rfl
  rw [e]
  refine elc_map (M := M2) od (g := fun o => enc (o0 o)) (ts := os.reverse) (all_it x os m) rfl (by rw [List.length_reverse]; show _ ≤ 1000000; omega) (fun o _ => ?_)
  walk_at "ey"
  rw [is_od]
  cases o with
  | none =>
    walk_at "ey"
    simp only [Option.isNone]
    walk_at "ey"
    rw [o0, enc]
  | some u =>
    walk_at "ey"
    simp only [Option.isNone]
    walk_at "ey"
    rw [o0, od]
theorem put_all_ok {c : Fn → List S → Int → Rs S Int} {x r : D} {os : List (Option Th)} {m : Int} (hl : os.length ≤ 1000) (h : c .put_in [.d x, .d (.tup (encs (os.reverse.map o0)))] m = .ok (.d r) m) : fnM 3 (m_put_all c) [.d x, .d (.tup (os.map od))] m = .ok (.d r) m := by
  unfold m_put_all
  walk_at "ey"
  rw [all_lc x os m hl]
  walk_at "ey"
  rw [h]
  walk_at "ey"
theorem put_all_ex {c : Fn → List S → Int → Rs S Int} {x : D} {os : List (Option Th)} {m : Int} {X : Xc} (hl : os.length ≤ 1000) (h : c .put_in [.d x, .d (.tup (encs (os.reverse.map o0)))] m = .ex X m) : fnM 3 (m_put_all c) [.d x, .d (.tup (os.map od))] m = .ex X m := by
  unfold m_put_all
  walk_at "ey"
  rw [all_lc x os m hl]
  walk_at "ey"
  rw [h]
  walk_at "ey"
theorem told_ok {c : Fn → List S → Int → Rs S Int} {x y r : D} {m : Int} (h : c .put_all [.d x, .d y] m = .ok (.d r) m) : fnM 7 (m__law_told_by c) [.d x, .d y] m = .ok (.d r) m := by
  unfold m__law_told_by
  walk_at "ey"
  simp only [sCatch]
  walk_at "ey"
  rw [h]
  walk_at "ey"
  rw [is_nn]
  walk_at "ey"
theorem told_ex {c : Fn → List S → Int → Rs S Int} {x y : D} {m : Int} (h : c .put_all [.d x, .d y] m = .ex ⟨"TooMany", none⟩ m) : fnM 7 (m__law_told_by c) [.d x, .d y] m = .ok (.d (.str "many")) m := by
  have t1 : tb1 "TooMany" true "TooMany" = some true := by kernel_rfl
  have i1 : dIs (.exc "TooMany" []) .non = some (.d (.bl false)) := rfl
  have i2 : dIsX (tb1 "TooMany" false) (.exc "TooMany" []) = some (.d (.bl false)) := by kernel_rfl
  have i3 : dIsX (tb1 "TooMany" true) (.exc "TooMany" []) = some (.d (.bl true)) := by kernel_rfl
  unfold m__law_told_by
  walk_at "ey"
  simp only [sCatch]
  walk_at "ey"
  rw [h]
  walk_at "ey"
  simp only [t1]
  walk_at "ey"
  rw [if_pos (by decide)]
  walk_at "ey"
  rw [i1]
  walk_at "ey"
  rw [i2]
  walk_at "ey"
  rw [i3]
  walk_at "ey"
  rw [i3]
  walk_at "ey"
  simp only [eNotM]
  walk_at "ey"
/-- what is told of a pattern and terms -/
theorem told_yes (n : Nat) (t : Th) (os : List (Option Th)) (m : Int) (hu : ∀ o ∈ os, depth (o0 o) ≤ 130 ∧ size (o0 o) ≤ 900000 ∧ nms (o0 o) = true) (hul : os.length ≤ 1000) (h1 : size t ≤ 900000) (hn : nms t = true) (hd : depth t ≤ n) (g : size (sub (os.reverse.map o0) t 0) ≤ 4000 ∧ depth (sub (os.reverse.map o0) t 0) ≤ 120) :
    mir (n + 135) ._law_told_by [.d (enc t), .d (.tup (os.map od))] m = .ok (.d (enc (sub (os.reverse.map o0) t 0))) m :=
  told_ok (c := mir (n + 134)) (put_all_ok (c := mir (n + 133)) hul (put_in_yes n t (os.reverse.map o0) m (fun u h => by
    obtain ⟨o, ho, rfl⟩ := List.mem_map.mp h
    exact hu o (List.mem_reverse.mp ho)) (by rw [List.length_map, List.length_reverse]; exact hul) h1 hn hd g))
theorem told_no (n : Nat) (t : Th) (os : List (Option Th)) (m : Int) (hu : ∀ o ∈ os, size (o0 o) ≤ 900000 ∧ nms (o0 o) = true) (hul : os.length ≤ 1000) (h1 : size t ≤ 900000) (hn : nms t = true) (g : ¬ (size (sub (os.reverse.map o0) t 0) ≤ 4000 ∧ depth (sub (os.reverse.map o0) t 0) ≤ 120)) :
    mir (n + 135) ._law_told_by [.d (enc t), .d (.tup (os.map od))] m = .ok (.d (.str "many")) m :=
  told_ex (c := mir (n + 134)) (put_all_ex (c := mir (n + 133)) hul (put_in_no n t (os.reverse.map o0) m (fun u h => by
    obtain ⟨o, ho, rfl⟩ := List.mem_map.mp h
    exact hu o (List.mem_reverse.mp ho)) (by rw [List.length_map, List.length_reverse]; exact hul) h1 hn g))
end L
set_option pp.maxSteps 400
set_option pp.deepTerms false
namespace L
open PySem L2 G
local macro_rules | `(tactic| walk_at "ex") => `(tactic| try simp only [sSeq, sSet, sExpr, sRet, sIf, sAsg, una, escf, escS, opd, eVar, eC, eBin, eUn, eFn, eCall, eTup, eLst, aCons, aNil, fin, rd, rds, R.toS, dsOf, Rs.bind_ok, Rs.bind_bad, Rs.bind_ex, Rs.opt_some, Option.bind_some, Option.map_some, ownAt, eExt, eApp, ePop, List.getElem?_cons_zero, List.getElem?_cons_succ, List.set_cons_zero, List.set_cons_succ, okArg, List.all_cons, List.all_nil, Bool.and_self, if_true, kName, kTup, ksCons, ksNil, fMax, tOf, List.length_cons, List.length_nil, Bool.not_false, Bool.not_true, if_false, Bool.false_eq_true, lm0, lm1, lm2, lm3, lm4, lm5, lm6, lm7, lm8, lm9, lm10, lm11, lm12, fnM, List.map_cons, List.map_nil, List.replicate, List.cons_append, List.nil_append, Nat.reduceAdd, Nat.reduceSub, sNil, tAndM, tOrM, tNotM, tTru, dTru, eIf, dSub_i, dAdd_i, dLt_i, dLe_i, dGt_i, dGe_i, dEq_i, decide_true, decide_false, eChain, eAndM, eSl, oInt, dNeg, dIx, atI0, atI1, atI2, aDef, fTuple, wv_var, wc_var, wj_var, wb_var, wv_call, wc_call, wj_call, wb_call, wv_rel, wc_rel, wj_rel, wb_rel, wv_same, wc_same, wj_same, wb_same, wv_no, wc_no, wj_no, wb_no, wv_and, wc_and, wj_and, wb_and, wv_or, wc_or, wj_or, wb_or, wv_if, wc_if, wj_if, wb_if, wv_all, wc_all, wj_all, wb_all, wv_some, wc_some, wj_some, wb_some])
local macro_rules | `(tactic| walk_at "ey") => `(tactic| try simp only [sSeq, sSet, sExpr, sRet, sIf, sAsg, una, escf, escS, opd, eVar, eC, eBin, eUn, eFn, eCall, eTup, eLst, aCons, aNil, fin, rd, rds, R.toS, dsOf, Rs.bind_ok, Rs.bind_bad, Rs.bind_ex, Rs.opt_some, Option.bind_some, Option.map_some, ownAt, eExt, eApp, ePop, List.getElem?_cons_zero, List.getElem?_cons_succ, List.set_cons_zero, List.set_cons_succ, okArg, List.all_cons, List.all_nil, Bool.and_self, if_true, kName, kTup, ksCons, ksNil, fMax, tOf, List.length_cons, List.length_nil, Bool.not_false, Bool.not_true, if_false, Bool.false_eq_true, lm0, lm1, lm2, lm3, lm4, lm5, lm6, lm7, lm8, lm9, lm10, lm11, lm12, fnM, List.map_cons, List.map_nil, List.replicate, List.cons_append, List.nil_append, Nat.reduceAdd, Nat.reduceSub, sNil, tAndM, tOrM, tNotM, tTru, dTru, eIf, dSub_i, dAdd_i, dLt_i, dLe_i, dGt_i, dGe_i, dEq_i, decide_true, decide_false, eChain, eAndM, eSl, oInt, dNeg, fInt, aDef, fTuple])
local macro_rules | `(tactic| walk_at "ez") => `(tactic| try simp only [sSeq, sSet, sExpr, sRet, sIf, sAsg, una, escf, escS, opd, eVar, eC, eBin, eUn, eFn, eCall, eTup, eLst, aCons, aNil, fin, rd, rds, R.toS, dsOf, Rs.bind_ok, Rs.bind_bad, Rs.bind_ex, Rs.opt_some, Option.bind_some, Option.map_some, ownAt, eExt, eApp, ePop, List.getElem?_cons_zero, List.getElem?_cons_succ, List.set_cons_zero, List.set_cons_succ, okArg, List.all_cons, List.all_nil, Bool.and_self, if_true, kName, kTup, ksCons, ksNil, fMax, tOf, List.length_cons, List.length_nil, Bool.not_false, Bool.not_true, if_false, Bool.false_eq_true, lm0, lm1, lm2, lm3, lm4, lm5, lm6, lm7, lm8, lm9, lm10, lm11, lm12, fnM, List.map_cons, List.map_nil, List.replicate, List.cons_append, List.nil_append, Nat.reduceAdd, Nat.reduceSub, sNil, tAndM, tOrM, tNotM, tTru, dTru, eIf, dSub_i, dAdd_i, dLt_i, dLe_i, dGt_i, dGe_i, dEq_i, decide_true, decide_false, eChain, eAndM, eSl, oInt, dNeg, dIx, atI0, atI1, atI2, aDef, fTuple, wv_var, wc_var, wj_var, wb_var, wv_call, wc_call, wj_call, wb_call, wv_rel, wc_rel, wj_rel, wb_rel, wv_same, wc_same, wj_same, wb_same, wv_no, wc_no, wj_no, wb_no, wv_and, wc_and, wj_and, wb_and, wv_or, wc_or, wj_or, wb_or, wv_if, wc_if, wj_if, wb_if, wv_all, wc_all, wj_all, wb_all, wv_some, wc_some, wj_some, wb_some , sl2, sl1, slr, sn1, snr, ta21, ta12, ta10, xb_var, xc_var, xb_call, xc_call, xb_rel, xc_rel, xb_same, xc_same, xb_no, xc_no, xb_and, xc_and, xb_or, xc_or, xb_if, xc_if, xb_all, xc_all, xb_some, xc_some])
/-! the law's own parts and spots -/
theorem enc_tup (t : Th) : ∃ xs, enc t = .tup xs := by
  cases t <;> (rw [enc]; exact ⟨_, rfl⟩)
theorem kids_eq (n : Nat) (t : Th) (m : Int) : mir (n + 1) ._law_kids [.d (enc t)] m = .ok (.l (encs (kids t))) m := by
  cases t with
  | var v => rw [enc]; kernel_rfl
  | call f as => rw [enc]; kernel_rfl
  | rel f as => rw [enc]; kernel_rfl
  | no => rw [enc]; kernel_rfl
  | all s x => rw [enc, kids, encs, encs]; kernel_rfl
  | some s x => rw [enc, kids, encs, encs]; kernel_rfl
  | same x y => obtain ⟨xs, ex⟩ := enc_tup x; obtain ⟨ys, ey⟩ := enc_tup y; rw [enc, kids, encs, encs, encs, ex, ey]; kernel_rfl
  | and x y => obtain ⟨xs, ex⟩ := enc_tup x; obtain ⟨ys, ey⟩ := enc_tup y; rw [enc, kids, encs, encs, encs, ex, ey]; kernel_rfl
  | or x y => obtain ⟨xs, ex⟩ := enc_tup x; obtain ⟨ys, ey⟩ := enc_tup y; rw [enc, kids, encs, encs, encs, ex, ey]; kernel_rfl
  | imp x y => obtain ⟨xs, ex⟩ := enc_tup x; obtain ⟨ys, ey⟩ := enc_tup y; rw [enc, kids, encs, encs, encs, ex, ey]; kernel_rfl
/-- a place, the way to it, the binders about it -/
abbrev Sp3 := Int × List Int × Int
def en3 (p : Sp3) : D := .tup [.int p.1, .tup (p.2.1.map D.int), .int p.2.2]
mutual
def spo (many : Int) : Th → Int → List Int → List Sp3
  | .var x, v, w => if v ≤ x ∧ x < v + many then [(x - v, w, v)] else []
  | .call _ as, v, w => spos many as v w 0
  | .rel _ as, v, w => spos many as v w 0
  | .same x y, v, w => spo many x v (w ++ [0]) ++ spo many y v (w ++ [1])
  | .no, _, _ => []
  | .and x y, v, w => spo many x v (w ++ [0]) ++ spo many y v (w ++ [1])
  | .or x y, v, w => spo many x v (w ++ [0]) ++ spo many y v (w ++ [1])
  | .imp x y, v, w => spo many x v (w ++ [0]) ++ spo many y v (w ++ [1])
  | .all _ x, v, w => spo many x (v + 1) (w ++ [0])
  | .some _ x, v, w => spo many x (v + 1) (w ++ [0])
def spos (many : Int) : List Th → Int → List Int → Nat → List Sp3
  | [], _, _, _ => []
  | t :: r, v, w, i => spo many t v (w ++ [(i : Int)]) ++ spos many r v w (i + 1)
end
theorem spo_kids (many : Int) (t : Th) (v : Int) (w : List Int) (h : isVar t = false) : spo many t v w = spos many (kids t) (v + (bnd t : Nat)) w 0 := by
  cases t <;> simp_all [spo, spos, kids, bnd, isVar]
mutual
theorem spo_len (many : Int) : ∀ (t : Th) (v : Int) (w : List Int), (spo many t v w).length ≤ size t
  | .var x, v, w => by rw [spo, size]; split <;> simp
  | .call _ as, v, w => by have := spos_len many as v w 0; rw [spo, size]; omega
  | .rel _ as, v, w => by have := spos_len many as v w 0; rw [spo, size]; omega
  | .same x y, v, w => by have := spo_len many x v (w ++ [0]); have := spo_len many y v (w ++ [1]); rw [spo, size, List.length_append]; omega
  | .no, v, w => by rw [spo, size]; simp
  | .and x y, v, w => by have := spo_len many x v (w ++ [0]); have := spo_len many y v (w ++ [1]); rw [spo, size, List.length_append]; omega
  | .or x y, v, w => by have := spo_len many x v (w ++ [0]); have := spo_len many y v (w ++ [1]); rw [spo, size, List.length_append]; omega
  | .imp x y, v, w => by have := spo_len many x v (w ++ [0]); have := spo_len many y v (w ++ [1]); rw [spo, size, List.length_append]; omega
  | .all _ x, v, w => by have := spo_len many x (v + 1) (w ++ [0]); rw [spo, size]; omega
  | .some _ x, v, w => by have := spo_len many x (v + 1) (w ++ [0]); rw [spo, size]; omega
theorem spos_len (many : Int) : ∀ (ts : List Th) (v : Int) (w : List Int) (i : Nat), (spos many ts v w i).length ≤ sizes ts
  | [], v, w, i => by rw [spos, sizes]; simp
  | t :: r, v, w, i => by have := spo_len many t v (w ++ [(i : Int)]); have := spos_len many r v w (i + 1); rw [spos, sizes, List.length_append]; omega
end
/-- enumerate, from a number on -/
def enl : Nat → List D → List D
  | _, [] => []
  | k, d :: r => .tup [.int (k : Int), d] :: enl (k + 1) r
theorem enl_get : ∀ (ds : List D) (k i : Nat), (enl k ds)[i]? = (ds[i]?).map fun d => D.tup [.int ((k + i : Nat) : Int), d]
  | [], k, i => by simp [enl]
  | d :: r, k, 0 => by simp [enl]
  | d :: r, k, i + 1 => by
    rw [enl, List.getElem?_cons_succ, List.getElem?_cons_succ, enl_get r (k + 1) i]
    have e : k + 1 + i = k + (i + 1) := by omega
    rw [e]
theorem enumD_enl (ds : List D) : enumD ds = enl 0 ds := by
  refine List.ext_getElem? fun i => ?_
  rw [enl_get]
  cases h : ds[i]? with
  | none =>
    have hl := List.getElem?_eq_none_iff.mp h
    rw [Option.map_none]
    exact List.getElem?_eq_none (by rw [enumD_len]; exact hl)
  | some d => rw [enumD_at h, Option.map_some, Nat.zero_add]
def PB (c : Fn → List S → Int → Rs S Int) : Sm M2 Out := (sSet 4 (eBin dAdd (eVar 4) (eCall (c ._law_spots) (aCons (escf (eVar 6)) (aCons (escf (eVar 1)) (aCons (escf (eBin dAdd (eVar 2) (eFn fInt (aCons (opd (eBin dIn (eBin dIx (eVar 0) (eC (.int 0))) (eTup (aCons (escf (eC (.str "all"))) (aCons (escf (eC (.str "some"))) aNil))))) aNil)))) (aCons (escf (eBin dAdd (eVar 3) (eTup (aCons (escf (eVar 5)) aNil)))) aNil)))))))
theorem wdX (t : Th) : dIn (.str (wd t)) (.tup [.str "all", .str "some"]) = some (.d (.bl (bnd t == 1))) := wdB t
theorem pb_loop {c : Fn → List S → Int → Rs S Int} (t : Th) (many v : Int) (w : List Int) (m : Int) (hw : w.length ≤ 1000) : ∀ (ts : List Th) (k : Nat) (acc : List Sp3) (s5 s6 : Option S), acc.length + sizes ts ≤ 900000 → (∀ u ∈ ts, ∀ i : Nat, c ._law_spots [.d (enc u), .d (.int many), .d (.int (v + (bnd t : Nat))), .d (.tup ((w ++ [(i : Int)]).map D.int))] m = .ok (.l ((spo many u (v + (bnd t : Nat)) (w ++ [(i : Int)])).map en3)) m) →
    ∃ s5' s6', forL (M := M2) (kTup 2 (ksCons (kName 5) (ksCons (kName 6) ksNil))) (PB c) (enl k (encs ts)) ⟨[some (.d (enc t)), some (.d (.int many)), some (.d (.int v)), some (.d (.tup (w.map D.int))), some (.l (acc.map en3)), s5, s6], m⟩ = .ok .nx ⟨[some (.d (enc t)), some (.d (.int many)), some (.d (.int v)), some (.d (.tup (w.map D.int))), some (.l ((acc ++ spos many ts (v + (bnd t : Nat)) w k).map en3)), s5', s6'], m⟩
  | [], k, acc, s5, s6, _, _ => ⟨s5, s6, by rw [encs, enl, spos, List.append_nil]; rfl⟩
  | u :: r, k, acc, s5, s6, hl, h => by
    have lu := spo_len many u (v + (bnd t : Nat)) (w ++ [(k : Int)])
    rw [sizes] at hl
    obtain ⟨s5', s6', e⟩ := pb_loop t many v w m hw r (k + 1) (acc ++ spo many u (v + (bnd t : Nat)) (w ++ [(k : Int)])) (some (.d (.int (k : Int)))) (some (.d (enc u))) (by rw [List.length_append]; omega) (fun x hx => h x (List.mem_cons_of_mem _ hx))
    refine ⟨s5', s6', ?_⟩
    rw [spos, ← List.append_assoc, ← e, encs, enl]
    conv => lhs; unfold forL
    unfold PB
    have ta : dAdd (.tup (w.map D.int)) (.tup [.int (k : Int)]) = some (.t ((w ++ [(k : Int)]).map D.int)) := by
      unfold dAdd
      refine (if_pos (by rw [List.length_map]; show _ + 1 ≤ 1000000; omega)).trans ?_
      rw [List.map_append]
      rfl
    have da : dAdd (.lst (acc.map en3)) (.lst ((spo many u (v + (bnd t : Nat)) (w ++ [(k : Int)])).map en3)) = some (.l ((acc ++ spo many u (v + (bnd t : Nat)) (w ++ [(k : Int)])).map en3)) := by
      unfold dAdd
      refine (if_pos (by rw [List.length_map, List.length_map]; show _ ≤ 1000000; omega)).trans ?_
      rw [List.map_append]
    walk_at "ey"
    rw [hd0]
    walk_at "ey"
    rw [wdX]
    walk_at "ey"
    rw [bnd_int, ta]
    walk_at "ey"
    rw [h u List.mem_cons_self k]
    walk_at "ey"
    rw [da]
    walk_at "ey"
theorem sp_gen {F : Sm M2 Out} {t : Th} {many v : Int} {w : List Int} {m : Int} {xs : List D} {s5 s6 : Option S} (hv : isVar t = false) (hF : F ⟨[some (.d (enc t)), some (.d (.int many)), some (.d (.int v)), some (.d (.tup (w.map D.int))), some (.l []), none, none], m⟩ = .ok .nx ⟨[some (.d (enc t)), some (.d (.int many)), some (.d (.int v)), some (.d (.tup (w.map D.int))), some (.l xs), s5, s6], m⟩) (X : Sm M2 Out) :
    fnM 7 (sSeq (sIf (tOf (eBin dEq (eBin dIx (eVar 0) (eC (.int 0))) (eC (.str "var")))) X sNil) (sSeq (sSet 4 (eLst aNil)) (sSeq F (sRet (eVar 4))))) [.d (enc t), .d (.int many), .d (.int v), .d (.tup (w.map D.int))] m = .ok (.l xs) m := by
  walk_at "ey"
  rw [hd0]
  walk_at "ey"
  rw [wdV, hv]
  walk_at "ey"
  rw [hF]
  walk_at "ey"
theorem spots_eq : ∀ (n : Nat) (t : Th) (many v : Int) (w : List Int) (m : Int), depth t ≤ n → size t ≤ 900000 → w.length + depth t ≤ 1000 → mir (n + 1) ._law_spots [.d (enc t), .d (.int many), .d (.int v), .d (.tup (w.map D.int))] m = .ok (.l ((spo many t v w).map en3)) m
  | 0, t, _, _, _, _, h, _, _ => by rw [depth_kids] at h; omega
  | n + 1, t, many, v, w, m, h, hs, hw => by
    rw [depth_kids] at h hw
    rw [size_kids] at hs
    cases hv : isVar t with
    | false =>
      have ih : ∀ u ∈ kids t, ∀ i : Nat, mir (n + 1) ._law_spots [.d (enc u), .d (.int many), .d (.int (v + (bnd t : Nat))), .d (.tup ((w ++ [(i : Int)]).map D.int))] m = .ok (.l ((spo many u (v + (bnd t : Nat)) (w ++ [(i : Int)])).map en3)) m := fun u hu i => spots_eq n u many (v + (bnd t : Nat)) (w ++ [(i : Int)]) m (depths_le (by omega) u hu) (by have := mem_sizes hu; omega) (by have := depths_le (Nat.le_refl _) u hu; rw [List.length_append, List.length_singleton]; omega)
      obtain ⟨s5', s6', L⟩ := pb_loop (c := mir (n + 1)) t many v w m (by omega) (kids t) 0 [] none none (by rw [List.length_nil]; omega) ih
      have it : (iEnM (eCall (mir (n + 1) ._law_kids) (aCons (escf (eVar 0)) aNil)) : Sm M2 (List D)) ⟨[some (.d (enc t)), some (.d (.int many)), some (.d (.int v)), some (.d (.tup (w.map D.int))), some (.l []), none, none], m⟩ = .ok (enl 0 (encs (kids t))) ⟨[some (.d (enc t)), some (.d (.int many)), some (.d (.int v)), some (.d (.tup (w.map D.int))), some (.l []), none, none], m⟩ := by
        simp only [iEnM]
        walk_at "ey"
        rw [kids_eq]
        walk_at "ey"
        rw [enumD_enl]
      have F : (sFor (iEnM (eCall (mir (n + 1) ._law_kids) (aCons (escf (eVar 0)) aNil))) (kTup 2 (ksCons (kName 5) (ksCons (kName 6) ksNil))) (PB (mir (n + 1))) : Sm M2 Out) ⟨[some (.d (enc t)), some (.d (.int many)), some (.d (.int v)), some (.d (.tup (w.map D.int))), some (.l []), none, none], m⟩ = .ok .nx ⟨[some (.d (enc t)), some (.d (.int many)), some (.d (.int v)), some (.d (.tup (w.map D.int))), some (.l (([] ++ spos many (kids t) (v + (bnd t : Nat)) w 0).map en3)), s5', s6'], m⟩ := by
        unfold sFor
        rw [it, Rs.bind_ok]
        exact L
      rw [List.nil_append] at F
      rw [spo_kids many t v w hv]
      exact sp_gen hv F _
    | true =>
      cases t with
      | var x =>
        show fnM 7 (m__law_spots (mir (n + 1))) [.d (enc (.var x)), .d (.int many), .d (.int v), .d (.tup (w.map D.int))] m = _
        unfold m__law_spots
        rw [enc, spo]
        walk_at "ez"
        by_cases c : v ≤ x
        · by_cases c2 : x < v + many
          · rw [if_pos ⟨c, c2⟩]
            simp only [c, c2]
            walk_at "ez"
            try simp only [c2]
            walk_at "ez"
            rfl
          · rw [if_neg (fun q => c2 q.2)]
            simp only [c, c2]
            walk_at "ez"
            try simp only [c2]
            walk_at "ez"
        · rw [if_neg (fun q => c q.1)]
          simp only [c]
          walk_at "ez"
      | _ => cases hv
end L
set_option pp.maxSteps 400
set_option pp.deepTerms false
namespace L
open PySem L2 G
local macro_rules | `(tactic| walk_at "ex") => `(tactic| try simp only [sSeq, sSet, sExpr, sRet, sIf, sAsg, una, escf, escS, opd, eVar, eC, eBin, eUn, eFn, eCall, eTup, eLst, aCons, aNil, fin, rd, rds, R.toS, dsOf, Rs.bind_ok, Rs.bind_bad, Rs.bind_ex, Rs.opt_some, Option.bind_some, Option.map_some, ownAt, eExt, eApp, ePop, List.getElem?_cons_zero, List.getElem?_cons_succ, List.set_cons_zero, List.set_cons_succ, okArg, List.all_cons, List.all_nil, Bool.and_self, if_true, kName, kTup, ksCons, ksNil, fMax, tOf, List.length_cons, List.length_nil, Bool.not_false, Bool.not_true, if_false, Bool.false_eq_true, lm0, lm1, lm2, lm3, lm4, lm5, lm6, lm7, lm8, lm9, lm10, lm11, lm12, fnM, List.map_cons, List.map_nil, List.replicate, List.cons_append, List.nil_append, Nat.reduceAdd, Nat.reduceSub, sNil, tAndM, tOrM, tNotM, tTru, dTru, eIf, dSub_i, dAdd_i, dLt_i, dLe_i, dGt_i, dGe_i, dEq_i, decide_true, decide_false, eChain, eAndM, eSl, oInt, dNeg, dIx, atI0, atI1, atI2, aDef, fTuple, wv_var, wc_var, wj_var, wb_var, wv_call, wc_call, wj_call, wb_call, wv_rel, wc_rel, wj_rel, wb_rel, wv_same, wc_same, wj_same, wb_same, wv_no, wc_no, wj_no, wb_no, wv_and, wc_and, wj_and, wb_and, wv_or, wc_or, wj_or, wb_or, wv_if, wc_if, wj_if, wb_if, wv_all, wc_all, wj_all, wb_all, wv_some, wc_some, wj_some, wb_some])
local macro_rules | `(tactic| walk_at "ey") => `(tactic| try simp only [sSeq, sSet, sExpr, sRet, sIf, sAsg, una, escf, escS, opd, eVar, eC, eBin, eUn, eFn, eCall, eTup, eLst, aCons, aNil, fin, rd, rds, R.toS, dsOf, Rs.bind_ok, Rs.bind_bad, Rs.bind_ex, Rs.opt_some, Option.bind_some, Option.map_some, ownAt, eExt, eApp, ePop, List.getElem?_cons_zero, List.getElem?_cons_succ, List.set_cons_zero, List.set_cons_succ, okArg, List.all_cons, List.all_nil, Bool.and_self, if_true, kName, kTup, ksCons, ksNil, fMax, tOf, List.length_cons, List.length_nil, Bool.not_false, Bool.not_true, if_false, Bool.false_eq_true, lm0, lm1, lm2, lm3, lm4, lm5, lm6, lm7, lm8, lm9, lm10, lm11, lm12, fnM, List.map_cons, List.map_nil, List.replicate, List.cons_append, List.nil_append, Nat.reduceAdd, Nat.reduceSub, sNil, tAndM, tOrM, tNotM, tTru, dTru, eIf, dSub_i, dAdd_i, dLt_i, dLe_i, dGt_i, dGe_i, dEq_i, decide_true, decide_false, eChain, eAndM, eSl, oInt, dNeg, fInt, aDef, fTuple])
local macro_rules | `(tactic| walk_at "ez") => `(tactic| try simp only [sSeq, sSet, sExpr, sRet, sIf, sAsg, una, escf, escS, opd, eVar, eC, eBin, eUn, eFn, eCall, eTup, eLst, aCons, aNil, fin, rd, rds, R.toS, dsOf, Rs.bind_ok, Rs.bind_bad, Rs.bind_ex, Rs.opt_some, Option.bind_some, Option.map_some, ownAt, eExt, eApp, ePop, List.getElem?_cons_zero, List.getElem?_cons_succ, List.set_cons_zero, List.set_cons_succ, okArg, List.all_cons, List.all_nil, Bool.and_self, if_true, kName, kTup, ksCons, ksNil, fMax, tOf, List.length_cons, List.length_nil, Bool.not_false, Bool.not_true, if_false, Bool.false_eq_true, lm0, lm1, lm2, lm3, lm4, lm5, lm6, lm7, lm8, lm9, lm10, lm11, lm12, fnM, List.map_cons, List.map_nil, List.replicate, List.cons_append, List.nil_append, Nat.reduceAdd, Nat.reduceSub, sNil, tAndM, tOrM, tNotM, tTru, dTru, eIf, dSub_i, dAdd_i, dLt_i, dLe_i, dGt_i, dGe_i, dEq_i, decide_true, decide_false, eChain, eAndM, eSl, oInt, dNeg, dIx, atI0, atI1, atI2, aDef, fTuple, wv_var, wc_var, wj_var, wb_var, wv_call, wc_call, wj_call, wb_call, wv_rel, wc_rel, wj_rel, wb_rel, wv_same, wc_same, wj_same, wb_same, wv_no, wc_no, wj_no, wb_no, wv_and, wc_and, wj_and, wb_and, wv_or, wc_or, wj_or, wb_or, wv_if, wc_if, wj_if, wb_if, wv_all, wc_all, wj_all, wb_all, wv_some, wc_some, wj_some, wb_some , sl2, sl1, slr, sn1, snr, ta21, ta12, ta10, xb_var, xc_var, xb_call, xc_call, xb_rel, xc_rel, xb_same, xc_same, xb_no, xc_no, xb_and, xc_and, xb_or, xc_or, xb_if, xc_if, xb_all, xc_all, xb_some, xc_some])
/-! terms that stand nowhere don't matter -/
mutual
def plc (many : Int) : Th → Int → List Int
  | .var x, v => if v ≤ x ∧ x < v + many then [x - v] else []
  | .call _ as, v => plcs many as v
  | .rel _ as, v => plcs many as v
  | .same x y, v => plc many x v ++ plc many y v
  | .no, _ => []
  | .and x y, v => plc many x v ++ plc many y v
  | .or x y, v => plc many x v ++ plc many y v
  | .imp x y, v => plc many x v ++ plc many y v
  | .all _ x, v => plc many x (v + 1)
  | .some _ x, v => plc many x (v + 1)
def plcs (many : Int) : List Th → Int → List Int
  | [], _ => []
  | t :: r, v => plc many t v ++ plcs many r v
end
mutual
theorem spo_plc (many : Int) : ∀ (t : Th) (v : Int) (w : List Int), (spo many t v w).map (·.1) = plc many t v
  | .var x, v, w => by rw [spo, plc]; split <;> simp
  | .call _ as, v, w => by rw [spo, plc, spos_plc many as v w 0]
  | .rel _ as, v, w => by rw [spo, plc, spos_plc many as v w 0]
  | .same x y, v, w => by rw [spo, plc, List.map_append, spo_plc many x, spo_plc many y]
  | .no, v, w => by rw [spo, plc]; rfl
  | .and x y, v, w => by rw [spo, plc, List.map_append, spo_plc many x, spo_plc many y]
  | .or x y, v, w => by rw [spo, plc, List.map_append, spo_plc many x, spo_plc many y]
  | .imp x y, v, w => by rw [spo, plc, List.map_append, spo_plc many x, spo_plc many y]
  | .all _ x, v, w => by rw [spo, plc, spo_plc many x]
  | .some _ x, v, w => by rw [spo, plc, spo_plc many x]
theorem spos_plc (many : Int) : ∀ (ts : List Th) (v : Int) (w : List Int) (i : Nat), (spos many ts v w i).map (·.1) = plcs many ts v
  | [], v, w, i => by rw [spos, plcs]; rfl
  | t :: r, v, w, i => by rw [spos, plcs, List.map_append, spo_plc many t, spos_plc many r]
end
mutual
theorem sub_agree (us vs : List Th) (hl : us.length = vs.length) : ∀ (t : Th) (b : Int), (∀ i : Nat, (i : Int) ∈ plc (us.length : Nat) t b → us.reverse[i]? = vs.reverse[i]?) → sub us t b = sub vs t b
  | .var x, b, h => by
    rw [sub, sub]
    by_cases c : b ≤ x ∧ x < b + ((us.length : Nat) : Int)
    · have e := h (x - b).toNat (by rw [plc, if_pos c]; simp; omega)
      unfold subV
      rw [e, hl]
    · by_cases c2 : x < b
      · have n0 : ¬ 0 ≤ x - b := by omega
        have q : ∀ ws : List Th, subV ws x b = .var x := fun ws => by
          unfold subV
          cases ws.reverse[(x - b).toNat]? with
          | none => simp only []; rw [if_pos c2]
          | some u => simp only []; rw [if_neg n0]
        rw [q us, q vs]
      · have n1 : us.reverse[(x - b).toNat]? = none := List.getElem?_eq_none (by rw [List.length_reverse]; omega)
        have n2 : vs.reverse[(x - b).toNat]? = none := List.getElem?_eq_none (by rw [List.length_reverse]; omega)
        unfold subV
        rw [n1, n2, hl]
  | .call f as, b, h => by rw [plc] at h; rw [sub, sub, subs_agree us vs hl as b h]
  | .rel f as, b, h => by rw [plc] at h; rw [sub, sub, subs_agree us vs hl as b h]
  | .same x y, b, h => by rw [plc] at h; rw [sub, sub, sub_agree us vs hl x b (fun i hi => h i (List.mem_append_left _ hi)), sub_agree us vs hl y b (fun i hi => h i (List.mem_append_right _ hi))]
  | .no, b, h => by rw [sub, sub]
  | .and x y, b, h => by rw [plc] at h; rw [sub, sub, sub_agree us vs hl x b (fun i hi => h i (List.mem_append_left _ hi)), sub_agree us vs hl y b (fun i hi => h i (List.mem_append_right _ hi))]
  | .or x y, b, h => by rw [plc] at h; rw [sub, sub, sub_agree us vs hl x b (fun i hi => h i (List.mem_append_left _ hi)), sub_agree us vs hl y b (fun i hi => h i (List.mem_append_right _ hi))]
  | .imp x y, b, h => by rw [plc] at h; rw [sub, sub, sub_agree us vs hl x b (fun i hi => h i (List.mem_append_left _ hi)), sub_agree us vs hl y b (fun i hi => h i (List.mem_append_right _ hi))]
  | .all s x, b, h => by rw [plc] at h; rw [sub, sub, sub_agree us vs hl x (b + 1) h]
  | .some s x, b, h => by rw [plc] at h; rw [sub, sub, sub_agree us vs hl x (b + 1) h]
theorem subs_agree (us vs : List Th) (hl : us.length = vs.length) : ∀ (ts : List Th) (b : Int), (∀ i : Nat, (i : Int) ∈ plcs (us.length : Nat) ts b → us.reverse[i]? = vs.reverse[i]?) → subs us ts b = subs vs ts b
  | [], b, h => by rw [subs, subs]
  | t :: r, b, h => by rw [plcs] at h; rw [subs, subs, sub_agree us vs hl t b (fun i hi => h i (List.mem_append_left _ hi)), subs_agree us vs hl r b (fun i hi => h i (List.mem_append_right _ hi))]
end
/-! sizes of what comes, by bounds -/
mutual
theorem sub_bound {us : List Th} {P B : Nat} (hP : 1 ≤ P) (hB : 1 ≤ B) (hu : ∀ u ∈ us, size u ≤ P ∧ depth u ≤ B ∧ nms u = true) : ∀ (t : Th) (b : Int), size (sub us t b) ≤ P * size t ∧ depth (sub us t b) + 1 ≤ depth t + B ∧ (nms t = true → nms (sub us t b) = true)
  | .var x, b => by
    rw [sub, subV, size, depth]
    cases h : us.reverse[(x - b).toNat]? with
    | none => simp only []; split <;> simp [size, depth, nms] <;> omega
    | some u =>
      obtain ⟨h1, h2, h3⟩ := hu u (List.mem_reverse.mp (List.mem_of_getElem? h))
      obtain ⟨l1, l2, l3⟩ := lift_size b u 0
      simp only []
      split
      · rw [l1, l2, l3]; exact ⟨by omega, by omega, fun _ => h3⟩
      · simp [size, depth, nms]; omega
  | .call f as, b => by
    obtain ⟨a1, a2, a3⟩ := subs_bound hP hB hu as b
    rw [sub, size, size, depth, depth, nms, nms, Nat.mul_add]
    exact ⟨by omega, by omega, fun h => by rw [Bool.and_eq_true] at h; rw [h.1, a3 h.2]; rfl⟩
  | .rel f as, b => by
    obtain ⟨a1, a2, a3⟩ := subs_bound hP hB hu as b
    rw [sub, size, size, depth, depth, nms, nms, Nat.mul_add]
    exact ⟨by omega, by omega, fun h => by rw [Bool.and_eq_true] at h; rw [h.1, a3 h.2]; rfl⟩
  | .same x y, b => by
    obtain ⟨a1, a2, a3⟩ := sub_bound hP hB hu x b
    obtain ⟨c1, c2, c3⟩ := sub_bound hP hB hu y b
    rw [sub, size, size, depth, depth, nms, nms, Nat.mul_add, Nat.mul_add]
    exact ⟨by omega, by omega, fun h => by rw [Bool.and_eq_true] at h; rw [a3 h.1, c3 h.2]; rfl⟩
  | .no, b => by rw [sub, size, depth, nms]; exact ⟨by omega, by omega, fun _ => rfl⟩
  | .and x y, b => by
    obtain ⟨a1, a2, a3⟩ := sub_bound hP hB hu x b
    obtain ⟨c1, c2, c3⟩ := sub_bound hP hB hu y b
    rw [sub, size, size, depth, depth, nms, nms, Nat.mul_add, Nat.mul_add]
    exact ⟨by omega, by omega, fun h => by rw [Bool.and_eq_true] at h; rw [a3 h.1, c3 h.2]; rfl⟩
  | .or x y, b => by
    obtain ⟨a1, a2, a3⟩ := sub_bound hP hB hu x b
    obtain ⟨c1, c2, c3⟩ := sub_bound hP hB hu y b
    rw [sub, size, size, depth, depth, nms, nms, Nat.mul_add, Nat.mul_add]
    exact ⟨by omega, by omega, fun h => by rw [Bool.and_eq_true] at h; rw [a3 h.1, c3 h.2]; rfl⟩
  | .imp x y, b => by
    obtain ⟨a1, a2, a3⟩ := sub_bound hP hB hu x b
    obtain ⟨c1, c2, c3⟩ := sub_bound hP hB hu y b
    rw [sub, size, size, depth, depth, nms, nms, Nat.mul_add, Nat.mul_add]
    exact ⟨by omega, by omega, fun h => by rw [Bool.and_eq_true] at h; rw [a3 h.1, c3 h.2]; rfl⟩
  | .all s x, b => by
    obtain ⟨a1, a2, a3⟩ := sub_bound hP hB hu x (b + 1)
    rw [sub, size, size, depth, depth, nms, nms, Nat.mul_add]
    exact ⟨by omega, by omega, fun h => by rw [Bool.and_eq_true] at h; rw [h.1, a3 h.2]; rfl⟩
  | .some s x, b => by
    obtain ⟨a1, a2, a3⟩ := sub_bound hP hB hu x (b + 1)
    rw [sub, size, size, depth, depth, nms, nms, Nat.mul_add]
    exact ⟨by omega, by omega, fun h => by rw [Bool.and_eq_true] at h; rw [h.1, a3 h.2]; rfl⟩
theorem subs_bound {us : List Th} {P B : Nat} (hP : 1 ≤ P) (hB : 1 ≤ B) (hu : ∀ u ∈ us, size u ≤ P ∧ depth u ≤ B ∧ nms u = true) : ∀ (ts : List Th) (b : Int), sizes (subs us ts b) ≤ P * sizes ts ∧ depths (subs us ts b) + 1 ≤ depths ts + B ∧ (nmss ts = true → nmss (subs us ts b) = true)
  | [], b => by rw [subs, sizes, depths, nmss]; exact ⟨by omega, by omega, fun _ => rfl⟩
  | t :: r, b => by
    obtain ⟨a1, a2, a3⟩ := sub_bound hP hB hu t b
    obtain ⟨c1, c2, c3⟩ := subs_bound hP hB hu r b
    rw [subs, sizes, sizes, depths, depths, nmss, nmss, Nat.mul_add]
    exact ⟨by omega, by omega, fun h => by rw [Bool.and_eq_true] at h; rw [a3 h.1, c3 h.2]; rfl⟩
end
/-! comparing -/
mutual
theorem dep_enc : ∀ t : Th, dep (enc t) ≤ 2 * depth t
  | .var v => by simp [enc, dep, deps, depth]
  | .call f as => by have := deps_encs as; simp only [enc, dep, deps, depth]; omega
  | .rel f as => by have := deps_encs as; simp only [enc, dep, deps, depth]; omega
  | .same a b => by have := dep_enc a; have := dep_enc b; simp only [enc, dep, deps, depth]; omega
  | .no => by simp [enc, dep, deps, depth]
  | .and a b => by have := dep_enc a; have := dep_enc b; simp only [enc, dep, deps, depth]; omega
  | .or a b => by have := dep_enc a; have := dep_enc b; simp only [enc, dep, deps, depth]; omega
  | .imp a b => by have := dep_enc a; have := dep_enc b; simp only [enc, dep, deps, depth]; omega
  | .all s a => by have := dep_enc a; simp only [enc, dep, deps, depth]; omega
  | .some s a => by have := dep_enc a; simp only [enc, dep, deps, depth]; omega
theorem deps_encs : ∀ ts : List Th, deps (encs ts) ≤ 2 * depths ts
  | [] => by simp [encs, deps, depths]
  | t :: r => by have := dep_enc t; have := deps_encs r; simp only [encs, deps, depths]; omega
end
mutual
theorem eqD_refl : ∀ d : D, eqD d d = true
  | .non => by simp [eqD, toPy, PyData.eqv]
  | .bl b => by simp [eqD, toPy, PyData.eqv]
  | .int i => by simp [eqD, toPy, PyData.eqv]
  | .str x => by simp [eqD, toPy, PyData.eqv]
  | .tup xs => by rw [eqD_tup]; exact eqDs_refl xs
  | .lst xs => by rw [eqD_lst]; exact eqDs_refl xs
  | .scr ns => by unfold eqD; exact SeqAt.eqv_refl _ (by rw [canLay_toPy, lay]; all_goals (intros; simp_all))
  | .emp => by simp [eqD, toPy, PyData.eqv]
  | .exc _ _ => by simp [eqD, toPy, PyData.eqv]
theorem eqDs_refl : ∀ ds : List D, eqDs ds ds = true
  | [] => by rw [eqDs]
  | d :: r => by rw [eqDs, eqD_refl d, eqDs_refl r]; rfl
end
theorem ne_same (t : Th) (h : nms t = true) (hd : depth t ≤ 150) : dNe (enc t) (enc t) = some (.d (.bl false)) := by
  have l : lay (enc t) = true := by rw [lay_enc]; exact h
  have d := dep_enc t
  have ok : eqOk (enc t) (enc t) = true := by
    unfold eqOk
    rw [l, decide_eq_true (by omega)]
    rfl
  unfold dNe
  rw [if_pos ok, eqD_refl]
  rfl
theorem ne_many : dNe (.str "many") (.str "many") = some (.d (.bl false)) := by kernel_rfl
end L
set_option pp.maxSteps 400
set_option pp.deepTerms false
namespace L
open PySem L2 G
local macro_rules | `(tactic| walk_at "ex") => `(tactic| try simp only [sSpot, eSpot, sSeq, sSet, sExpr, sRet, sIf, sAsg, una, escf, escS, opd, eVar, eC, eBin, eUn, eFn, eCall, eTup, eLst, aCons, aNil, fin, rd, rds, R.toS, dsOf, Rs.bind_ok, Rs.bind_bad, Rs.bind_ex, Rs.opt_some, Option.bind_some, Option.map_some, ownAt, eExt, eApp, ePop, List.getElem?_cons_zero, List.getElem?_cons_succ, List.set_cons_zero, List.set_cons_succ, okArg, List.all_cons, List.all_nil, Bool.and_self, if_true, kName, kTup, ksCons, ksNil, fMax, tOf, List.length_cons, List.length_nil, Bool.not_false, Bool.not_true, if_false, Bool.false_eq_true, lm0, lm1, lm2, lm3, lm4, lm5, lm6, lm7, lm8, lm9, lm10, lm11, lm12, fnM, List.map_cons, List.map_nil, List.replicate, List.cons_append, List.nil_append, Nat.reduceAdd, Nat.reduceSub, sNil, tAndM, tOrM, tNotM, tTru, dTru, eIf, dSub_i, dAdd_i, dLt_i, dLe_i, dGt_i, dGe_i, dEq_i, decide_true, decide_false, eChain, eAndM, eSl, oInt, dNeg, dIx, atI0, atI1, atI2, aDef, fTuple, wv_var, wc_var, wj_var, wb_var, wv_call, wc_call, wj_call, wb_call, wv_rel, wc_rel, wj_rel, wb_rel, wv_same, wc_same, wj_same, wb_same, wv_no, wc_no, wj_no, wb_no, wv_and, wc_and, wj_and, wb_and, wv_or, wc_or, wj_or, wb_or, wv_if, wc_if, wj_if, wb_if, wv_all, wc_all, wj_all, wb_all, wv_some, wc_some, wj_some, wb_some])
local macro_rules | `(tactic| walk_at "ey") => `(tactic| try simp only [sSpot, eSpot, sSeq, sSet, sExpr, sRet, sIf, sAsg, una, escf, escS, opd, eVar, eC, eBin, eUn, eFn, eCall, eTup, eLst, aCons, aNil, fin, rd, rds, R.toS, dsOf, Rs.bind_ok, Rs.bind_bad, Rs.bind_ex, Rs.opt_some, Option.bind_some, Option.map_some, ownAt, eExt, eApp, ePop, List.getElem?_cons_zero, List.getElem?_cons_succ, List.set_cons_zero, List.set_cons_succ, okArg, List.all_cons, List.all_nil, Bool.and_self, if_true, kName, kTup, ksCons, ksNil, fMax, tOf, List.length_cons, List.length_nil, Bool.not_false, Bool.not_true, if_false, Bool.false_eq_true, lm0, lm1, lm2, lm3, lm4, lm5, lm6, lm7, lm8, lm9, lm10, lm11, lm12, fnM, List.map_cons, List.map_nil, List.replicate, List.cons_append, List.nil_append, Nat.reduceAdd, Nat.reduceSub, sNil, tAndM, tOrM, tNotM, tTru, dTru, eIf, dSub_i, dAdd_i, dLt_i, dLe_i, dGt_i, dGe_i, dEq_i, decide_true, decide_false, eChain, eAndM, eSl, oInt, dNeg, fInt, aDef, fTuple])
/-! a draw -/
theorem mulA (i j : Int) (h : -(18446744073709551616 : Int) < i ∧ i < 18446744073709551616) : dMul (.int i) (.int j) = some (.d (.int (i * j))) := by
  unfold dMul dI
  exact if_pos (decide_eq_true (.inl h))
theorem mulB (i j : Int) (h : -(18446744073709551616 : Int) < j ∧ j < 18446744073709551616) : dMul (.int i) (.int j) = some (.d (.int (i * j))) := by
  unfold dMul dI
  exact if_pos (decide_eq_true (.inr h))
theorem divA (i j : Int) (h : 0 < j ∧ j < 1073741824) : dFdiv (.int i) (.int j) = some (.d (.int (i / j))) := by
  unfold dFdiv dI
  exact if_pos (decide_eq_true h)
theorem modA (i j : Int) (h : 0 < j) : dMod (.int i) (.int j) = some (.d (.int (i % j))) := by
  unfold dMod dI
  exact if_pos (decide_eq_true h)
theorem ixA (ns : List Int) (i : Int) (h : 0 ≤ i) (h2 : i < (ns.length : Nat)) : ∃ a : Int, dIx (.lst (ns.map D.int)) (.int i) = some (.d (.int a)) := by
  obtain ⟨k, rfl⟩ : ∃ k : Nat, i = (k : Int) := ⟨i.toNat, by omega⟩
  have hk : k < ns.length := by omega
  refine ⟨ns[k], ?_⟩
  show (atI (ns.map D.int) (k : Int)).map R.d = _
  rw [atI_nat (v := D.int ns[k]) (by rw [List.getElem?_map, List.getElem?_eq_getElem hk]; rfl)]
  rfl
theorem lenA (ns : List Int) : fLen [.lst (ns.map D.int)] = some (.d (.int (ns.length : Nat))) := by
  show some (R.d (D.int (((ns.map D.int).length : Nat) : Int))) = _
  rw [List.length_map]
def CT : Sm M2 Out := (sSeq (sIf (tOf (eBin dGt (eFn fLen (aCons (opd (eVar 0)) aNil)) (eC (.int 0)))) (sSet 3 (eBin dAdd (eVar 3) (eBin dMul (eBin dIx (eVar 0) (eBin dMod (eVar 2) (eFn fLen (aCons (opd (eVar 0)) aNil)))) (eBin dAdd (eC (.int 1)) (eBin dFdiv (eVar 2) (eFn fLen (aCons (opd (eVar 0)) aNil))))))) sNil)
    (sRet (eBin dFdiv (eBin dMod (eBin dMul (eVar 3) (eC (.int 48271))) (eC (.int 2147483647))) (eC (.int 7)))))
theorem ct_end {s0 s1 s2 s4 s5 : Option S} {base p q r m : Int} (h1 : dMul (.int base) (.int 48271) = some (.d (.int p))) (h2 : dMod (.int p) (.int 2147483647) = some (.d (.int q))) (h3 : dFdiv (.int q) (.int 7) = some (.d (.int r))) : (sRet (eBin dFdiv (eBin dMod (eBin dMul (eVar 3) (eC (.int 48271))) (eC (.int 2147483647))) (eC (.int 7))) : Sm M2 Out) ⟨[s0, s1, s2, some (.d (.int base)), s4, s5], m⟩ = .ok (.rt (.d (.int r))) ⟨[s0, s1, s2, some (.d (.int base)), s4, s5], m⟩ := by
  walk_at "ey"
  rw [h1]
  walk_at "ey"
  rw [h2]
  walk_at "ey"
  rw [h3]
  walk_at "ey"
theorem ct_endI (s0 s1 s2 s4 s5 : Option S) (base m : Int) : ∃ r : Int, (sRet (eBin dFdiv (eBin dMod (eBin dMul (eVar 3) (eC (.int 48271))) (eC (.int 2147483647))) (eC (.int 7))) : Sm M2 Out) ⟨[s0, s1, s2, some (.d (.int base)), s4, s5], m⟩ = .ok (.rt (.d (.int r))) ⟨[s0, s1, s2, some (.d (.int base)), s4, s5], m⟩ ∧ 0 ≤ r :=
  ⟨_, ct_end (mulB _ _ (by omega)) (modA _ _ (by omega)) (divA _ _ (by omega)), Int.ediv_nonneg (Int.emod_nonneg _ (by omega)) (by omega)⟩
def CU : Sm M2 Out := (sIf (tOf (eBin dGt (eFn fLen (aCons (opd (eVar 0)) aNil)) (eC (.int 0)))) (sSet 3 (eBin dAdd (eVar 3) (eBin dMul (eBin dIx (eVar 0) (eBin dMod (eVar 2) (eFn fLen (aCons (opd (eVar 0)) aNil)))) (eBin dAdd (eC (.int 1)) (eBin dFdiv (eVar 2) (eFn fLen (aCons (opd (eVar 0)) aNil))))))) sNil)
theorem cu_yes {cells : D} {k base L r q a p : Int} {s4 s5 : Option S} {m : Int} (c : 0 < L) (hl : fLen [cells] = some (.d (.int L))) (h1 : dMod (.int k) (.int L) = some (.d (.int r))) (h2 : dIx cells (.int r) = some (.d (.int a))) (h3 : dFdiv (.int k) (.int L) = some (.d (.int q))) (h4 : dMul (.int a) (.int (1 + q)) = some (.d (.int p))) :
    CU ⟨[some (.d cells), some (.m 0), some (.d (.int k)), some (.d (.int base)), s4, s5], m⟩ = .ok .nx ⟨[some (.d cells), some (.m 0), some (.d (.int k)), some (.d (.int (base + p))), s4, s5], m⟩ := by
  unfold CU
  walk_at "ey"
  rw [hl]
  walk_at "ey"
  simp only [c]
  walk_at "ey"
  rw [hl]
  walk_at "ey"
  rw [h1]
  walk_at "ey"
  rw [h2]
  walk_at "ey"
  rw [hl]
  walk_at "ey"
  rw [h3]
  walk_at "ey"
  rw [h4]
  walk_at "ey"
theorem cu_no {cells : D} {k base L : Int} {s4 s5 : Option S} {m : Int} (c : ¬ 0 < L) (hl : fLen [cells] = some (.d (.int L))) :
    CU ⟨[some (.d cells), some (.m 0), some (.d (.int k)), some (.d (.int base)), s4, s5], m⟩ = .ok .nx ⟨[some (.d cells), some (.m 0), some (.d (.int k)), some (.d (.int base)), s4, s5], m⟩ := by
  unfold CU
  walk_at "ey"
  rw [hl]
  walk_at "ey"
  simp only [c]
  walk_at "ey"
theorem ct_ok (ns : List Int) (k base : Int) (s4 s5 : Option S) (m : Int) (hl : ns.length ≤ 1000) (h0 : 0 ≤ k) (h1 : k < 1000000000000000) : ∃ (r : Int) (rho' : List (Option S)), CT ⟨[some (.d (.lst (ns.map D.int))), some (.m 0), some (.d (.int k)), some (.d (.int base)), s4, s5], m⟩ = .ok (.rt (.d (.int r))) ⟨rho', m⟩ ∧ 0 ≤ r := by
  by_cases c : 0 < ((ns.length : Nat) : Int)
  · obtain ⟨a, ea⟩ := ixA ns (k % (ns.length : Nat)) (Int.emod_nonneg _ (by omega)) (Int.emod_lt_of_pos _ c)
    have hq : k / (ns.length : Nat) ≤ k := Int.ediv_le_self _ h0
    have hq0 : 0 ≤ k / (ns.length : Nat) := Int.ediv_nonneg h0 (by omega)
    obtain ⟨r, e, hr⟩ := ct_endI (some (.d (.lst (ns.map D.int)))) (some (.m 0)) (some (.d (.int k))) s4 s5 (base + a * (1 + k / (ns.length : Nat))) m
    exact ⟨r, _, (seq_nx (cu_yes c (lenA ns) (modA _ _ c) ea (divA _ _ (by omega)) (mulB _ _ (by omega)))).trans e, hr⟩
  · obtain ⟨r, e, hr⟩ := ct_endI (some (.d (.lst (ns.map D.int)))) (some (.m 0)) (some (.d (.int k))) s4 s5 base m
    exact ⟨r, _, (seq_nx (cu_no c (lenA ns))).trans e, hr⟩
theorem ow_loop (s0 s1 s2 s3 : Option S) (m : Int) : ∀ (ds : List D) (o : Int) (s5 : Option S), ∃ (o' : Int) (s5' : Option S), forL (M := M2) (kName 5) (sSet 4 (eBin dFdiv (eVar 4) (eC (.int 306783379)))) ds ⟨[s0, s1, s2, s3, some (.d (.int o)), s5], m⟩ = .ok .nx ⟨[s0, s1, s2, s3, some (.d (.int o')), s5'], m⟩
  | [], o, s5 => ⟨o, s5, rfl⟩
  | d :: r, o, s5 => by
    obtain ⟨o', s5', e⟩ := ow_loop s0 s1 s2 s3 m r (o / 306783379) (some (.d d))
    refine ⟨o', s5', ?_⟩
    rw [← e]
    conv => lhs; unfold forL
    walk_at "ey"
    rw [divA _ _ (by omega)]
    walk_at "ey"
def CI : Sm M2 Out := (sSeq (sSet 4 (eBin dFdiv (eBin dIx (eVar 0) (eBin dMod (eVar 2) (eFn fLen (aCons (opd (eVar 0)) aNil)))) (eC (.int 2))))
    (sSeq (sFor (iRg1M (aCons (opd (eBin dFdiv (eVar 2) (eFn fLen (aCons (opd (eVar 0)) aNil)))) aNil)) (kName 5) (sSet 4 (eBin dFdiv (eVar 4) (eC (.int 306783379)))))
    (sIf (tOf (eBin dGt (eVar 4) (eC (.int 0)))) (sRet (eBin dMod (eVar 4) (eC (.int 306783379)))) sNil)))
theorem ci_gen {F : Sm M2 Out} {cells : D} {k a o L : Int} {s3 : Option S} {s5' : Option S} {m : Int} (hL : 0 < L) (hl : fLen [cells] = some (.d (.int L))) (ix : dIx cells (.int (k % L)) = some (.d (.int a))) (hF : F ⟨[some (.d cells), some (.m 0), some (.d (.int k)), s3, some (.d (.int (a / 2))), none], m⟩ = .ok .nx ⟨[some (.d cells), some (.m 0), some (.d (.int k)), s3, some (.d (.int o)), s5'], m⟩) :
    (sSeq (sSet 4 (eBin dFdiv (eBin dIx (eVar 0) (eBin dMod (eVar 2) (eFn fLen (aCons (opd (eVar 0)) aNil)))) (eC (.int 2)))) (sSeq F (sIf (tOf (eBin dGt (eVar 4) (eC (.int 0)))) (sRet (eBin dMod (eVar 4) (eC (.int 306783379)))) sNil)) : Sm M2 Out) ⟨[some (.d cells), some (.m 0), some (.d (.int k)), s3, none, none], m⟩ = (if 0 < o then .ok (.rt (.d (.int (o % 306783379)))) ⟨[some (.d cells), some (.m 0), some (.d (.int k)), s3, some (.d (.int o)), s5'], m⟩ else .ok .nx ⟨[some (.d cells), some (.m 0), some (.d (.int k)), s3, some (.d (.int o)), s5'], m⟩) := by
  walk_at "ey"
  rw [hl]
  walk_at "ey"
  rw [modA _ _ hL]
  walk_at "ey"
  rw [ix]
  walk_at "ey"
  rw [divA _ _ (by omega)]
  walk_at "ey"
  rw [hF]
  walk_at "ey"
  by_cases c : 0 < o
  · rw [if_pos c]
    simp only [c]
    walk_at "ey"
    rw [modA _ _ (by omega)]
    walk_at "ey"
  · rw [if_neg c]
    simp only [c]
    walk_at "ey"
theorem ci_it {cells : D} {k L q : Int} (hl : fLen [cells] = some (.d (.int L))) (hd : dFdiv (.int k) (.int L) = some (.d (.int q))) (h0 : 0 ≤ q) (h1 : q ≤ 1000000) (s3 s4 : Option S) (m : Int) : (iRg1M (aCons (opd (eBin dFdiv (eVar 2) (eFn fLen (aCons (opd (eVar 0)) aNil)))) aNil) : Sm M2 (List D)) ⟨[some (.d cells), some (.m 0), some (.d (.int k)), s3, s4, none], m⟩ = .ok (rangeD 0 q.toNat) ⟨[some (.d cells), some (.m 0), some (.d (.int k)), s3, s4, none], m⟩ := by
  simp only [iRg1M]
  walk_at "ey"
  rw [hl]
  walk_at "ey"
  rw [hd]
  walk_at "ey"
  rw [if_pos (rg_lim h0 h1)]
theorem ci_for {F : Sm M2 (List D)} {B : Sm M2 Out} {z z1 : Z Int} {ds : List D} {r : Rs Out (Z Int)} {K : D → Z Int → Option (Z Int)} (h : F z = .ok ds z1) (h2 : forL (M := M2) K B ds z1 = r) : (sFor F K B : Sm M2 Out) z = r := by
  unfold sFor
  rw [h, Rs.bind_ok]
  exact h2
theorem ci_ok (ns : List Int) (k : Int) (s3 : Option S) (m : Int) (hl : ns.length ≤ 1000) (h0 : 0 ≤ k) (h2 : k / (ns.length : Nat) < 60) (c : 0 < ((ns.length : Nat) : Int)) :
    (∃ s4 s5, CI ⟨[some (.d (.lst (ns.map D.int))), some (.m 0), some (.d (.int k)), s3, none, none], m⟩ = .ok .nx ⟨[some (.d (.lst (ns.map D.int))), some (.m 0), some (.d (.int k)), s3, s4, s5], m⟩) ∨ ∃ (r : Int) (rho' : List (Option S)), CI ⟨[some (.d (.lst (ns.map D.int))), some (.m 0), some (.d (.int k)), s3, none, none], m⟩ = .ok (.rt (.d (.int r))) ⟨rho', m⟩ ∧ 0 ≤ r := by
  obtain ⟨a, ea⟩ := ixA ns (k % (ns.length : Nat)) (Int.emod_nonneg _ (by omega)) (Int.emod_lt_of_pos _ c)
  obtain ⟨o', s5', e⟩ := ow_loop (some (.d (.lst (ns.map D.int)))) (some (.m 0)) (some (.d (.int k))) s3 m (rangeD 0 (k / (ns.length : Nat)).toNat) (a / 2) none
  have F : (sFor (iRg1M (aCons (opd (eBin dFdiv (eVar 2) (eFn fLen (aCons (opd (eVar 0)) aNil)))) aNil)) (kName 5) (sSet 4 (eBin dFdiv (eVar 4) (eC (.int 306783379)))) : Sm M2 Out) ⟨[some (.d (.lst (ns.map D.int))), some (.m 0), some (.d (.int k)), s3, some (.d (.int (a / 2))), none], m⟩ = .ok .nx ⟨[some (.d (.lst (ns.map D.int))), some (.m 0), some (.d (.int k)), s3, some (.d (.int o')), s5'], m⟩ := by
    have hq0 : 0 ≤ k / (ns.length : Nat) := Int.ediv_nonneg h0 (by omega)
    exact ci_for (ci_it (lenA ns) (divA _ _ (by omega)) hq0 (by omega) s3 _ m) e
  have g := ci_gen c (lenA ns) ea F
  by_cases q : 0 < o'
  · rw [if_pos q] at g
    exact .inr ⟨_, _, g, Int.emod_nonneg _ (by omega)⟩
  · rw [if_neg q] at g
    exact .inl ⟨_, _, g⟩
theorem ce_gen {C : Sm M2 Bool} {I T : Sm M2 Out} {cells : D} {m p1 p2 p3 : Int} {b : Bool} (h1 : dMul (.int 31) (.int (m + 1)) = some (.d (.int p1))) (h2 : dMul (.int p1) (.int (m + 1)) = some (.d (.int p2))) (h3 : dMul (.int 7919) (.int (m + 1)) = some (.d (.int p3)))
    (hC : C ⟨[some (.d cells), some (.m 0), some (.d (.int (m + 1))), some (.d (.int (p2 + p3))), none, none], m + 1⟩ = .ok b ⟨[some (.d cells), some (.m 0), some (.d (.int (m + 1))), some (.d (.int (p2 + p3))), none, none], m + 1⟩)
    (hI : b = true → (∃ s4 s5, I ⟨[some (.d cells), some (.m 0), some (.d (.int (m + 1))), some (.d (.int (p2 + p3))), none, none], m + 1⟩ = .ok .nx ⟨[some (.d cells), some (.m 0), some (.d (.int (m + 1))), some (.d (.int (p2 + p3))), s4, s5], m + 1⟩) ∨ ∃ (r : Int) (rho' : List (Option S)), I ⟨[some (.d cells), some (.m 0), some (.d (.int (m + 1))), some (.d (.int (p2 + p3))), none, none], m + 1⟩ = .ok (.rt (.d (.int r))) ⟨rho', m + 1⟩ ∧ 0 ≤ r)
    (hT : ∀ s4 s5, ∃ (r : Int) (rho' : List (Option S)), T ⟨[some (.d cells), some (.m 0), some (.d (.int (m + 1))), some (.d (.int (p2 + p3))), s4, s5], m + 1⟩ = .ok (.rt (.d (.int r))) ⟨rho', m + 1⟩ ∧ 0 ≤ r) :
    ∃ r : Int, fnM 6 (sSeq (sSpot 1 (eBin dAdd (eSpot 1) (eC (.int 1))))
    (sSeq (sSet 2 (eSpot 1))
    (sSeq (sSet 3 (eBin dAdd (eBin dMul (eBin dMul (eC (.int 31)) (eVar 2)) (eVar 2)) (eBin dMul (eC (.int 7919)) (eVar 2))))
    (sSeq (sIf C I sNil) T)))) [.d cells, .m 0] m = .ok (.d (.int r)) (m + 1) ∧ 0 ≤ r := by
  walk_at "ey"
  rw [h1]
  walk_at "ey"
  rw [h2]
  walk_at "ey"
  rw [h3]
  walk_at "ey"
  rw [hC]
  walk_at "ey"
  cases b with
  | true =>
    walk_at "ey"
    rcases hI rfl with ⟨s4, s5, e⟩ | ⟨r, rho', e, hr⟩
    · rw [e]
      walk_at "ey"
      obtain ⟨r, rho', e2, hr⟩ := hT s4 s5
      rw [e2]
      exact ⟨r, rfl, hr⟩
    · rw [e]
      exact ⟨r, rfl, hr⟩
  | false =>
    walk_at "ey"
    obtain ⟨r, rho', e2, hr⟩ := hT none none
    rw [e2]
    exact ⟨r, rfl, hr⟩
def CC : Sm M2 Bool := (tAndM (tOf (eBin dGt (eFn fLen (aCons (opd (eVar 0)) aNil)) (eC (.int 0)))) (tAndM (tOf (eBin dEq (eBin dMod (eBin dIx (eVar 0) (eC (.int 0))) (eC (.int 2))) (eC (.int 1)))) (tOf (eBin dLt (eBin dFdiv (eVar 2) (eFn fLen (aCons (opd (eVar 0)) aNil))) (eC (.int 60))))))
theorem cc_yes {cells : D} {k L a r q : Int} {s1 s3 s4 s5 : Option S} {m : Int} (c : 0 < L) (hl : fLen [cells] = some (.d (.int L))) (h2 : dIx cells (.int 0) = some (.d (.int a))) (h1 : dMod (.int a) (.int 2) = some (.d (.int r))) (h3 : dFdiv (.int k) (.int L) = some (.d (.int q))) :
    CC ⟨[some (.d cells), s1, some (.d (.int k)), s3, s4, s5], m⟩ = .ok (decide (r = 1 ∧ q < 60)) ⟨[some (.d cells), s1, some (.d (.int k)), s3, s4, s5], m⟩ := by
  unfold CC
  walk_at "ey"
  rw [hl]
  walk_at "ey"
  simp only [c]
  walk_at "ey"
  rw [h2]
  walk_at "ey"
  rw [h1]
  walk_at "ey"
  by_cases c2 : r = 1
  · simp only [c2]
    walk_at "ey"
    rw [hl]
    walk_at "ey"
    rw [h3]
    walk_at "ey"
    by_cases c3 : q < 60
    · simp [c3]
    · simp [c3]
  · simp only [c2]
    walk_at "ey"
    simp
theorem cc_no {cells : D} {L : Int} {s1 s2 s3 s4 s5 : Option S} {m : Int} (c : ¬ 0 < L) (hl : fLen [cells] = some (.d (.int L))) :
    CC ⟨[some (.d cells), s1, s2, s3, s4, s5], m⟩ = .ok false ⟨[some (.d cells), s1, s2, s3, s4, s5], m⟩ := by
  unfold CC
  walk_at "ey"
  rw [hl]
  walk_at "ey"
  simp only [c]
  walk_at "ey"
theorem cell_ok (n : Nat) (ns : List Int) (m : Int) (hl : ns.length ≤ 1000) (h0 : 0 ≤ m) (h1 : m < 100000000000000) : ∃ r : Int, mir (n + 1) ._law_cell [.d (.lst (ns.map D.int)), .m 0] m = .ok (.d (.int r)) (m + 1) ∧ 0 ≤ r := by
  have hT := fun s4 s5 => ct_ok ns (m + 1) (31 * (m + 1) * (m + 1) + 7919 * (m + 1)) s4 s5 (m + 1) hl (by omega) (by omega)
  by_cases c : 0 < ((ns.length : Nat) : Int)
  · obtain ⟨a, ea⟩ := ixA ns 0 (by omega) c
    exact ce_gen (C := CC) (I := CI) (T := CT) (mulA _ _ (by omega)) (mulB _ _ (by omega)) (mulA _ _ (by omega)) (cc_yes c (lenA ns) ea (modA _ _ (by omega)) (divA _ _ (by omega))) (fun hb => ci_ok ns (m + 1) _ (m + 1) hl (by omega) (of_decide_eq_true hb).2 c) hT
  · exact ce_gen (C := CC) (I := CI) (T := CT) (mulA _ _ (by omega)) (mulB _ _ (by omega)) (mulA _ _ (by omega)) (cc_no c (lenA ns)) (fun hb => by cases hb) hT
end L
set_option pp.maxSteps 400
set_option pp.deepTerms false
namespace L
open PySem L2 G
local macro_rules | `(tactic| walk_at "ex") => `(tactic| try simp only [sSeq, sSet, sExpr, sRet, sIf, sAsg, una, escf, escS, opd, eVar, eC, eBin, eUn, eFn, eCall, eTup, eLst, aCons, aNil, fin, rd, rds, R.toS, dsOf, Rs.bind_ok, Rs.bind_bad, Rs.bind_ex, Rs.opt_some, Option.bind_some, Option.map_some, ownAt, eExt, eApp, ePop, List.getElem?_cons_zero, List.getElem?_cons_succ, List.set_cons_zero, List.set_cons_succ, okArg, List.all_cons, List.all_nil, Bool.and_self, if_true, kName, kTup, ksCons, ksNil, fMax, tOf, List.length_cons, List.length_nil, Bool.not_false, Bool.not_true, if_false, Bool.false_eq_true, lm0, lm1, lm2, lm3, lm4, lm5, lm6, lm7, lm8, lm9, lm10, lm11, lm12, fnM, List.map_cons, List.map_nil, List.replicate, List.cons_append, List.nil_append, Nat.reduceAdd, Nat.reduceSub, sNil, tAndM, tOrM, tNotM, tTru, dTru, eIf, dSub_i, dAdd_i, dLt_i, dLe_i, dGt_i, dGe_i, dEq_i, decide_true, decide_false, eChain, eAndM, eSl, oInt, dNeg, dIx, atI0, atI1, atI2, aDef, fTuple, wv_var, wc_var, wj_var, wb_var, wv_call, wc_call, wj_call, wb_call, wv_rel, wc_rel, wj_rel, wb_rel, wv_same, wc_same, wj_same, wb_same, wv_no, wc_no, wj_no, wb_no, wv_and, wc_and, wj_and, wb_and, wv_or, wc_or, wj_or, wb_or, wv_if, wc_if, wj_if, wb_if, wv_all, wc_all, wj_all, wb_all, wv_some, wc_some, wj_some, wb_some])
local macro_rules | `(tactic| walk_at "ey") => `(tactic| try simp only [sSeq, sSet, sExpr, sRet, sIf, sAsg, una, escf, escS, opd, eVar, eC, eBin, eUn, eFn, eCall, eTup, eLst, aCons, aNil, fin, rd, rds, R.toS, dsOf, Rs.bind_ok, Rs.bind_bad, Rs.bind_ex, Rs.opt_some, Option.bind_some, Option.map_some, ownAt, eExt, eApp, ePop, List.getElem?_cons_zero, List.getElem?_cons_succ, List.set_cons_zero, List.set_cons_succ, okArg, List.all_cons, List.all_nil, Bool.and_self, if_true, kName, kTup, ksCons, ksNil, fMax, tOf, List.length_cons, List.length_nil, Bool.not_false, Bool.not_true, if_false, Bool.false_eq_true, lm0, lm1, lm2, lm3, lm4, lm5, lm6, lm7, lm8, lm9, lm10, lm11, lm12, fnM, List.map_cons, List.map_nil, List.replicate, List.cons_append, List.nil_append, Nat.reduceAdd, Nat.reduceSub, sNil, tAndM, tOrM, tNotM, tTru, dTru, eIf, dSub_i, dAdd_i, dLt_i, dLe_i, dGt_i, dGe_i, dEq_i, decide_true, decide_false, eChain, eAndM, eSl, oInt, dNeg, fInt, aDef, fTuple])
/-! the room -/
def sc (l : String) (e : Str) : D := .str (Str.ofString l ++ e)
def room (e : Str) (ks : List Str) : D := .tup [.tup [.str "sort", sc "s" e, .tup []], .tup [.str "sort", sc "m" e, .tup (ks.map D.str)], .tup [.str "func", sc "c" e, .tup [], sc "s" e], .tup [.str "func", sc "f" e, .tup [sc "s" e], sc "s" e],
  .tup [.str "func", sc "g" e, .tup [sc "s" e, sc "m" e], sc "s" e], .tup [.str "rel", sc "p" e, .tup [sc "s" e]], .tup [.str "rel", sc "q" e, .tup [sc "s" e, sc "m" e]], .tup [.str "rel", sc "z" e, .tup []],
  .tup [.str "mean", sc "top" e, .tup [sc "s" e], .tup [.str "same", .tup [.str "var", .int 0], .tup [.str "var", .int 0]]], .tup [.str "mean", sc "eq" e, .tup [sc "s" e, sc "s" e], .tup [.str "same", .tup [.str "var", .int 1], .tup [.str "var", .int 0]]],
  .tup [.str "taken", sc "hp" e, .tup [.str "all", sc "s" e, .tup [.str "rel", sc "p" e, .tup [.tup [.str "var", .int 0]]]]], .tup [.str "taken", sc "hz" e, .tup [.str "rel", sc "z" e, .tup []]],
  .tup [.str "taken", sc "hq" e, .tup [.str "some", sc "m" e, .tup [.str "rel", sc "q" e, .tup [.tup [.str "call", sc "c" e, .tup []], .tup [.str "var", .int 0]]]]]]
def EA : Sm M2 Out := (sSet 1 (eBin dIx (eLst (aCons (escf (eC (.str ""))) (aCons (escf (eC (.str "a"))) (aCons (escf (eC (.str "x1"))) (aCons (escf (eC (.str "7"))) (aCons (escf (eC (.str "bb"))) aNil)))))) (eBin dMod (eVar 0) (eC (.int 5)))))
def EB : Sm M2 Out := (sAsg (eTup (aCons (escf (eBin dAdd (eC (.str "s")) (eVar 1))) (aCons (escf (eBin dAdd (eC (.str "m")) (eVar 1))) (aCons (escf (eTup (aCons (escf (eC (.str "call"))) (aCons (escf (eBin dAdd (eC (.str "c")) (eVar 1))) (aCons (escf (eTup aNil)) aNil))))) (aCons (escf (eTup (aCons (escf (eC (.str "var"))) (aCons (escf (eC (.int 0))) aNil)))) (aCons (escf (eTup (aCons (escf (eC (.str "var"))) (aCons (escf (eC (.int 1))) aNil)))) aNil)))))) (kTup 5 (ksCons (kName 2) (ksCons (kName 3) (ksCons (kName 4) (ksCons (kName 5) (ksCons (kName 6) ksNil)))))))
def EI : Sm M2 (List D) := (iAnyM (eSl dSl (eC (.str "abcd")) (fun z => .ok none z) (oInt (eBin dAdd (eC (.int 2)) (eBin dMod (eBin dFdiv (eVar 0) (eC (.int 5))) (eC (.int 3)))))))
def EC (I : Sm M2 (List D)) : Sm M2 Out := (sSet 7 (eFn fTuple (aCons (opd (eLc I (kName 9) (fun z => .ok true z) (eBin dAdd (eBin dAdd (eC (.str "k")) (eVar 9)) (eVar 1)) [9])) aNil)))
def ER : Sm M2 Out := (sSeq (sSet 8 (eLst (aCons (escf (eTup (aCons (escf (eC (.str "sort"))) (aCons (escf (eVar 2)) (aCons (escf (eTup aNil)) aNil))))) (aCons (escf (eTup (aCons (escf (eC (.str "sort"))) (aCons (escf (eVar 3)) (aCons (escf (eVar 7)) aNil))))) (aCons (escf (eTup (aCons (escf (eC (.str "func"))) (aCons (escf (eBin dAdd (eC (.str "c")) (eVar 1))) (aCons (escf (eTup aNil)) (aCons (escf (eVar 2)) aNil)))))) (aCons (escf (eTup (aCons (escf (eC (.str "func"))) (aCons (escf (eBin dAdd (eC (.str "f")) (eVar 1))) (aCons (escf (eTup (aCons (escf (eVar 2)) aNil))) (aCons (escf (eVar 2)) aNil)))))) aNil))))))
    (sSeq (sSet 8 (eBin dAdd (eVar 8) (eLst (aCons (escf (eTup (aCons (escf (eC (.str "func"))) (aCons (escf (eBin dAdd (eC (.str "g")) (eVar 1))) (aCons (escf (eTup (aCons (escf (eVar 2)) (aCons (escf (eVar 3)) aNil)))) (aCons (escf (eVar 2)) aNil)))))) (aCons (escf (eTup (aCons (escf (eC (.str "rel"))) (aCons (escf (eBin dAdd (eC (.str "p")) (eVar 1))) (aCons (escf (eTup (aCons (escf (eVar 2)) aNil))) aNil))))) (aCons (escf (eTup (aCons (escf (eC (.str "rel"))) (aCons (escf (eBin dAdd (eC (.str "q")) (eVar 1))) (aCons (escf (eTup (aCons (escf (eVar 2)) (aCons (escf (eVar 3)) aNil)))) aNil))))) (aCons (escf (eTup (aCons (escf (eC (.str "rel"))) (aCons (escf (eBin dAdd (eC (.str "z")) (eVar 1))) (aCons (escf (eTup aNil)) aNil))))) aNil)))))))
    (sSeq (sSet 8 (eBin dAdd (eVar 8) (eLst (aCons (escf (eTup (aCons (escf (eC (.str "mean"))) (aCons (escf (eBin dAdd (eC (.str "top")) (eVar 1))) (aCons (escf (eTup (aCons (escf (eVar 2)) aNil))) (aCons (escf (eTup (aCons (escf (eC (.str "same"))) (aCons (escf (eVar 5)) (aCons (escf (eVar 5)) aNil))))) aNil)))))) (aCons (escf (eTup (aCons (escf (eC (.str "mean"))) (aCons (escf (eBin dAdd (eC (.str "eq")) (eVar 1))) (aCons (escf (eTup (aCons (escf (eVar 2)) (aCons (escf (eVar 2)) aNil)))) (aCons (escf (eTup (aCons (escf (eC (.str "same"))) (aCons (escf (eVar 6)) (aCons (escf (eVar 5)) aNil))))) aNil)))))) aNil)))))
    (sSeq (sSet 8 (eBin dAdd (eVar 8) (eLst (aCons (escf (eTup (aCons (escf (eC (.str "taken"))) (aCons (escf (eBin dAdd (eC (.str "hp")) (eVar 1))) (aCons (escf (eTup (aCons (escf (eC (.str "all"))) (aCons (escf (eVar 2)) (aCons (escf (eTup (aCons (escf (eC (.str "rel"))) (aCons (escf (eBin dAdd (eC (.str "p")) (eVar 1))) (aCons (escf (eTup (aCons (escf (eVar 5)) aNil))) aNil))))) aNil))))) aNil))))) (aCons (escf (eTup (aCons (escf (eC (.str "taken"))) (aCons (escf (eBin dAdd (eC (.str "hz")) (eVar 1))) (aCons (escf (eTup (aCons (escf (eC (.str "rel"))) (aCons (escf (eBin dAdd (eC (.str "z")) (eVar 1))) (aCons (escf (eTup aNil)) aNil))))) aNil))))) aNil)))))
    (sSeq (sExpr (eApp 8 (eTup (aCons (escf (eC (.str "taken"))) (aCons (escf (eBin dAdd (eC (.str "hq")) (eVar 1))) (aCons (escf (eTup (aCons (escf (eC (.str "some"))) (aCons (escf (eVar 3)) (aCons (escf (eTup (aCons (escf (eC (.str "rel"))) (aCons (escf (eBin dAdd (eC (.str "q")) (eVar 1))) (aCons (escf (eTup (aCons (escf (eVar 4)) (aCons (escf (eVar 5)) aNil)))) aNil))))) aNil))))) aNil))))))
    (sRet (eFn fTuple (aCons (opd (eVar 8)) aNil))))))))
theorem ec_eq {I : Sm M2 (List D)} {z z1 : Z Int} {ds : List D} (h : I z = .ok ds z1) (h2 : z1 = z) : EC I z = EC (fun z => .ok ds z) z := by
  subst h2
  unfold EC
  simp only [sSet, una, eFn, aCons, opd, eLc, h]
theorem ei_eq (r : Int) (w : Str) (ds : List D) (rho : List (Option S)) (m q : Int) (h1 : dFdiv (.int r) (.int 5) = some (.d (.int q))) (j : Int) (h2 : dMod (.int q) (.int 3) = some (.d (.int j))) (h3 : dSl (.str "abcd") none (some (2 + j)) = some (.d (.str w))) (h4 : itemsD (.str w) = some ds) : EI ⟨some (.d (.int r)) :: rho, m⟩ = .ok ds ⟨some (.d (.int r)) :: rho, m⟩ := by
  unfold EI
  simp only [iAnyM]
  walk_at "ey"
  rw [h1]
  walk_at "ey"
  rw [h2]
  walk_at "ey"
  rw [h3]
  walk_at "ey"
  rw [h4]
  rfl
theorem ea_eq (r i : Int) (e : Str) (m : Int) (h1 : dMod (.int r) (.int 5) = some (.d (.int i))) (h2 : dIx (.lst [.str "", .str "a", .str "x1", .str "7", .str "bb"]) (.int i) = some (.d (.str e))) : EA ⟨[some (.d (.int r)), none, none, none, none, none, none, none, none, none], m⟩ = .ok .nx ⟨[some (.d (.int r)), some (.d (.str e)), none, none, none, none, none, none, none, none], m⟩ := by
  unfold EA
  walk_at "ey"
  rw [h1]
  walk_at "ey"
  rw [h2]
  walk_at "ey"
theorem fnM_R (n : Nat) (b : Sm M2 Out) (args : List S) (m : Int) : fnM n b args m = fnR (b ⟨args.map some ++ List.replicate (n - args.length) none, m⟩) := by
  unfold fnM
  generalize b _ = Y
  cases Y with
  | ok o z => cases o <;> rfl
  | ex _ _ => rfl
  | bad => rfl
theorem ent_gen {c : Fn → List S → Int → Rs S Int} {r m i q j : Int} {e w : Str} {ds : List D} {rho : List (Option S)} {X : D} (h1 : dMod (.int r) (.int 5) = some (.d (.int i))) (h2 : dIx (.lst [.str "", .str "a", .str "x1", .str "7", .str "bb"]) (.int i) = some (.d (.str e))) (hB : EB ⟨[some (.d (.int r)), some (.d (.str e)), none, none, none, none, none, none, none, none], m⟩ = .ok .nx ⟨some (.d (.int r)) :: rho, m⟩)
    (h3 : dFdiv (.int r) (.int 5) = some (.d (.int q))) (h4 : dMod (.int q) (.int 3) = some (.d (.int j))) (h5 : dSl (.str "abcd") none (some (2 + j)) = some (.d (.str w))) (h6 : itemsD (.str w) = some ds) (hR : fnR (sSeq (EC (fun z => .ok ds z)) ER ⟨some (.d (.int r)) :: rho, m⟩) = .ok (.d X) m) : fnM 10 (m__law_entries c) [.d (.int r)] m = .ok (.d X) m := by
  have b : (sSeq EA (sSeq EB (sSeq (EC EI) ER)) : Sm M2 Out) ⟨[some (.d (.int r)), none, none, none, none, none, none, none, none, none], m⟩ = sSeq (EC (fun z => .ok ds z)) ER ⟨some (.d (.int r)) :: rho, m⟩ := by
    rw [seq_nx (ea_eq r i e m h1 h2), seq_nx hB]
    have e2 := ec_eq (ei_eq r w ds rho m q h3 j h4 h5 h6) rfl
    unfold sSeq
    rw [e2]
  rw [fnM_R]
  exact (congrArg fnR b).trans hR
structure RmOk (e : Str) (ks : List Str) : Prop where
  len : e.length ≤ 2
  ok : PyData.strOk e = true
  lo : 2 ≤ ks.length
  hi : ks.length ≤ 4
  kok : ∀ k ∈ ks, PyData.strOk k = true
theorem entries_ok (n : Nat) (r m : Int) (h : 0 ≤ r) : ∃ (e : Str) (ks : List Str), mir (n + 1) ._law_entries [.d (.int r)] m = .ok (.d (room e ks)) m ∧ RmOk e ks := by
  have c5 : r % 5 = 0 ∨ r % 5 = 1 ∨ r % 5 = 2 ∨ r % 5 = 3 ∨ r % 5 = 4 := by omega
  have c3 : r / 5 % 3 = 0 ∨ r / 5 % 3 = 1 ∨ r / 5 % 3 = 2 := by omega
  have d5 := modA r 5 (by omega)
  have q5 := divA r 5 (by omega)
  have d3 := modA (r / 5) 3 (by omega)
  rcases c5 with c5 | c5 | c5 | c5 | c5 <;> rcases c3 with c3 | c3 | c3 <;> rw [c5] at d5 <;> rw [c3] at d3
  · exact ⟨"", [Str.ofString "k" ++ (⟨#[97]⟩ : Str) ++ Str.ofString "", Str.ofString "k" ++ (⟨#[98]⟩ : Str) ++ Str.ofString ""], ent_gen (e := "") (rho := [some (.d (.str "")), some (.d (sc "s" "")), some (.d (sc "m" "")), some (.d (.tup [.str "call", sc "c" "", .tup []])), some (.d (.tup [.str "var", .int 0])), some (.d (.tup [.str "var", .int 1])), none, none, none]) (w := ⟨#[97, 98]⟩) (ds := [D.str ⟨#[97]⟩, D.str ⟨#[98]⟩]) d5 (by kernel_rfl) (by kernel_rfl) q5 d3 (by kernel_rfl) (by kernel_rfl) (by kernel_rfl), ⟨by decide, by decide +kernel, by decide, by decide, by decide +kernel⟩⟩
  · exact ⟨"", [Str.ofString "k" ++ (⟨#[97]⟩ : Str) ++ Str.ofString "", Str.ofString "k" ++ (⟨#[98]⟩ : Str) ++ Str.ofString "", Str.ofString "k" ++ (⟨#[99]⟩ : Str) ++ Str.ofString ""], ent_gen (e := "") (rho := [some (.d (.str "")), some (.d (sc "s" "")), some (.d (sc "m" "")), some (.d (.tup [.str "call", sc "c" "", .tup []])), some (.d (.tup [.str "var", .int 0])), some (.d (.tup [.str "var", .int 1])), none, none, none]) (w := ⟨#[97, 98, 99]⟩) (ds := [D.str ⟨#[97]⟩, D.str ⟨#[98]⟩, D.str ⟨#[99]⟩]) d5 (by kernel_rfl) (by kernel_rfl) q5 d3 (by kernel_rfl) (by kernel_rfl) (by kernel_rfl), ⟨by decide, by decide +kernel, by decide, by decide, by decide +kernel⟩⟩
  · exact ⟨"", [Str.ofString "k" ++ (⟨#[97]⟩ : Str) ++ Str.ofString "", Str.ofString "k" ++ (⟨#[98]⟩ : Str) ++ Str.ofString "", Str.ofString "k" ++ (⟨#[99]⟩ : Str) ++ Str.ofString "", Str.ofString "k" ++ (⟨#[100]⟩ : Str) ++ Str.ofString ""], ent_gen (e := "") (rho := [some (.d (.str "")), some (.d (sc "s" "")), some (.d (sc "m" "")), some (.d (.tup [.str "call", sc "c" "", .tup []])), some (.d (.tup [.str "var", .int 0])), some (.d (.tup [.str "var", .int 1])), none, none, none]) (w := ⟨#[97, 98, 99, 100]⟩) (ds := [D.str ⟨#[97]⟩, D.str ⟨#[98]⟩, D.str ⟨#[99]⟩, D.str ⟨#[100]⟩]) d5 (by kernel_rfl) (by kernel_rfl) q5 d3 (by kernel_rfl) (by kernel_rfl) (by kernel_rfl), ⟨by decide, by decide +kernel, by decide, by decide, by decide +kernel⟩⟩
  · exact ⟨"a", [Str.ofString "k" ++ (⟨#[97]⟩ : Str) ++ Str.ofString "a", Str.ofString "k" ++ (⟨#[98]⟩ : Str) ++ Str.ofString "a"], ent_gen (e := "a") (rho := [some (.d (.str "a")), some (.d (sc "s" "a")), some (.d (sc "m" "a")), some (.d (.tup [.str "call", sc "c" "a", .tup []])), some (.d (.tup [.str "var", .int 0])), some (.d (.tup [.str "var", .int 1])), none, none, none]) (w := ⟨#[97, 98]⟩) (ds := [D.str ⟨#[97]⟩, D.str ⟨#[98]⟩]) d5 (by kernel_rfl) (by kernel_rfl) q5 d3 (by kernel_rfl) (by kernel_rfl) (by kernel_rfl), ⟨by decide, by decide +kernel, by decide, by decide, by decide +kernel⟩⟩
  · exact ⟨"a", [Str.ofString "k" ++ (⟨#[97]⟩ : Str) ++ Str.ofString "a", Str.ofString "k" ++ (⟨#[98]⟩ : Str) ++ Str.ofString "a", Str.ofString "k" ++ (⟨#[99]⟩ : Str) ++ Str.ofString "a"], ent_gen (e := "a") (rho := [some (.d (.str "a")), some (.d (sc "s" "a")), some (.d (sc "m" "a")), some (.d (.tup [.str "call", sc "c" "a", .tup []])), some (.d (.tup [.str "var", .int 0])), some (.d (.tup [.str "var", .int 1])), none, none, none]) (w := ⟨#[97, 98, 99]⟩) (ds := [D.str ⟨#[97]⟩, D.str ⟨#[98]⟩, D.str ⟨#[99]⟩]) d5 (by kernel_rfl) (by kernel_rfl) q5 d3 (by kernel_rfl) (by kernel_rfl) (by kernel_rfl), ⟨by decide, by decide +kernel, by decide, by decide, by decide +kernel⟩⟩
  · exact ⟨"a", [Str.ofString "k" ++ (⟨#[97]⟩ : Str) ++ Str.ofString "a", Str.ofString "k" ++ (⟨#[98]⟩ : Str) ++ Str.ofString "a", Str.ofString "k" ++ (⟨#[99]⟩ : Str) ++ Str.ofString "a", Str.ofString "k" ++ (⟨#[100]⟩ : Str) ++ Str.ofString "a"], ent_gen (e := "a") (rho := [some (.d (.str "a")), some (.d (sc "s" "a")), some (.d (sc "m" "a")), some (.d (.tup [.str "call", sc "c" "a", .tup []])), some (.d (.tup [.str "var", .int 0])), some (.d (.tup [.str "var", .int 1])), none, none, none]) (w := ⟨#[97, 98, 99, 100]⟩) (ds := [D.str ⟨#[97]⟩, D.str ⟨#[98]⟩, D.str ⟨#[99]⟩, D.str ⟨#[100]⟩]) d5 (by kernel_rfl) (by kernel_rfl) q5 d3 (by kernel_rfl) (by kernel_rfl) (by kernel_rfl), ⟨by decide, by decide +kernel, by decide, by decide, by decide +kernel⟩⟩
  · exact ⟨"x1", [Str.ofString "k" ++ (⟨#[97]⟩ : Str) ++ Str.ofString "x1", Str.ofString "k" ++ (⟨#[98]⟩ : Str) ++ Str.ofString "x1"], ent_gen (e := "x1") (rho := [some (.d (.str "x1")), some (.d (sc "s" "x1")), some (.d (sc "m" "x1")), some (.d (.tup [.str "call", sc "c" "x1", .tup []])), some (.d (.tup [.str "var", .int 0])), some (.d (.tup [.str "var", .int 1])), none, none, none]) (w := ⟨#[97, 98]⟩) (ds := [D.str ⟨#[97]⟩, D.str ⟨#[98]⟩]) d5 (by kernel_rfl) (by kernel_rfl) q5 d3 (by kernel_rfl) (by kernel_rfl) (by kernel_rfl), ⟨by decide, by decide +kernel, by decide, by decide, by decide +kernel⟩⟩
  · exact ⟨"x1", [Str.ofString "k" ++ (⟨#[97]⟩ : Str) ++ Str.ofString "x1", Str.ofString "k" ++ (⟨#[98]⟩ : Str) ++ Str.ofString "x1", Str.ofString "k" ++ (⟨#[99]⟩ : Str) ++ Str.ofString "x1"], ent_gen (e := "x1") (rho := [some (.d (.str "x1")), some (.d (sc "s" "x1")), some (.d (sc "m" "x1")), some (.d (.tup [.str "call", sc "c" "x1", .tup []])), some (.d (.tup [.str "var", .int 0])), some (.d (.tup [.str "var", .int 1])), none, none, none]) (w := ⟨#[97, 98, 99]⟩) (ds := [D.str ⟨#[97]⟩, D.str ⟨#[98]⟩, D.str ⟨#[99]⟩]) d5 (by kernel_rfl) (by kernel_rfl) q5 d3 (by kernel_rfl) (by kernel_rfl) (by kernel_rfl), ⟨by decide, by decide +kernel, by decide, by decide, by decide +kernel⟩⟩
  · exact ⟨"x1", [Str.ofString "k" ++ (⟨#[97]⟩ : Str) ++ Str.ofString "x1", Str.ofString "k" ++ (⟨#[98]⟩ : Str) ++ Str.ofString "x1", Str.ofString "k" ++ (⟨#[99]⟩ : Str) ++ Str.ofString "x1", Str.ofString "k" ++ (⟨#[100]⟩ : Str) ++ Str.ofString "x1"], ent_gen (e := "x1") (rho := [some (.d (.str "x1")), some (.d (sc "s" "x1")), some (.d (sc "m" "x1")), some (.d (.tup [.str "call", sc "c" "x1", .tup []])), some (.d (.tup [.str "var", .int 0])), some (.d (.tup [.str "var", .int 1])), none, none, none]) (w := ⟨#[97, 98, 99, 100]⟩) (ds := [D.str ⟨#[97]⟩, D.str ⟨#[98]⟩, D.str ⟨#[99]⟩, D.str ⟨#[100]⟩]) d5 (by kernel_rfl) (by kernel_rfl) q5 d3 (by kernel_rfl) (by kernel_rfl) (by kernel_rfl), ⟨by decide, by decide +kernel, by decide, by decide, by decide +kernel⟩⟩
  · exact ⟨"7", [Str.ofString "k" ++ (⟨#[97]⟩ : Str) ++ Str.ofString "7", Str.ofString "k" ++ (⟨#[98]⟩ : Str) ++ Str.ofString "7"], ent_gen (e := "7") (rho := [some (.d (.str "7")), some (.d (sc "s" "7")), some (.d (sc "m" "7")), some (.d (.tup [.str "call", sc "c" "7", .tup []])), some (.d (.tup [.str "var", .int 0])), some (.d (.tup [.str "var", .int 1])), none, none, none]) (w := ⟨#[97, 98]⟩) (ds := [D.str ⟨#[97]⟩, D.str ⟨#[98]⟩]) d5 (by kernel_rfl) (by kernel_rfl) q5 d3 (by kernel_rfl) (by kernel_rfl) (by kernel_rfl), ⟨by decide, by decide +kernel, by decide, by decide, by decide +kernel⟩⟩
  · exact ⟨"7", [Str.ofString "k" ++ (⟨#[97]⟩ : Str) ++ Str.ofString "7", Str.ofString "k" ++ (⟨#[98]⟩ : Str) ++ Str.ofString "7", Str.ofString "k" ++ (⟨#[99]⟩ : Str) ++ Str.ofString "7"], ent_gen (e := "7") (rho := [some (.d (.str "7")), some (.d (sc "s" "7")), some (.d (sc "m" "7")), some (.d (.tup [.str "call", sc "c" "7", .tup []])), some (.d (.tup [.str "var", .int 0])), some (.d (.tup [.str "var", .int 1])), none, none, none]) (w := ⟨#[97, 98, 99]⟩) (ds := [D.str ⟨#[97]⟩, D.str ⟨#[98]⟩, D.str ⟨#[99]⟩]) d5 (by kernel_rfl) (by kernel_rfl) q5 d3 (by kernel_rfl) (by kernel_rfl) (by kernel_rfl), ⟨by decide, by decide +kernel, by decide, by decide, by decide +kernel⟩⟩
  · exact ⟨"7", [Str.ofString "k" ++ (⟨#[97]⟩ : Str) ++ Str.ofString "7", Str.ofString "k" ++ (⟨#[98]⟩ : Str) ++ Str.ofString "7", Str.ofString "k" ++ (⟨#[99]⟩ : Str) ++ Str.ofString "7", Str.ofString "k" ++ (⟨#[100]⟩ : Str) ++ Str.ofString "7"], ent_gen (e := "7") (rho := [some (.d (.str "7")), some (.d (sc "s" "7")), some (.d (sc "m" "7")), some (.d (.tup [.str "call", sc "c" "7", .tup []])), some (.d (.tup [.str "var", .int 0])), some (.d (.tup [.str "var", .int 1])), none, none, none]) (w := ⟨#[97, 98, 99, 100]⟩) (ds := [D.str ⟨#[97]⟩, D.str ⟨#[98]⟩, D.str ⟨#[99]⟩, D.str ⟨#[100]⟩]) d5 (by kernel_rfl) (by kernel_rfl) q5 d3 (by kernel_rfl) (by kernel_rfl) (by kernel_rfl), ⟨by decide, by decide +kernel, by decide, by decide, by decide +kernel⟩⟩
  · exact ⟨"bb", [Str.ofString "k" ++ (⟨#[97]⟩ : Str) ++ Str.ofString "bb", Str.ofString "k" ++ (⟨#[98]⟩ : Str) ++ Str.ofString "bb"], ent_gen (e := "bb") (rho := [some (.d (.str "bb")), some (.d (sc "s" "bb")), some (.d (sc "m" "bb")), some (.d (.tup [.str "call", sc "c" "bb", .tup []])), some (.d (.tup [.str "var", .int 0])), some (.d (.tup [.str "var", .int 1])), none, none, none]) (w := ⟨#[97, 98]⟩) (ds := [D.str ⟨#[97]⟩, D.str ⟨#[98]⟩]) d5 (by kernel_rfl) (by kernel_rfl) q5 d3 (by kernel_rfl) (by kernel_rfl) (by kernel_rfl), ⟨by decide, by decide +kernel, by decide, by decide, by decide +kernel⟩⟩
  · exact ⟨"bb", [Str.ofString "k" ++ (⟨#[97]⟩ : Str) ++ Str.ofString "bb", Str.ofString "k" ++ (⟨#[98]⟩ : Str) ++ Str.ofString "bb", Str.ofString "k" ++ (⟨#[99]⟩ : Str) ++ Str.ofString "bb"], ent_gen (e := "bb") (rho := [some (.d (.str "bb")), some (.d (sc "s" "bb")), some (.d (sc "m" "bb")), some (.d (.tup [.str "call", sc "c" "bb", .tup []])), some (.d (.tup [.str "var", .int 0])), some (.d (.tup [.str "var", .int 1])), none, none, none]) (w := ⟨#[97, 98, 99]⟩) (ds := [D.str ⟨#[97]⟩, D.str ⟨#[98]⟩, D.str ⟨#[99]⟩]) d5 (by kernel_rfl) (by kernel_rfl) q5 d3 (by kernel_rfl) (by kernel_rfl) (by kernel_rfl), ⟨by decide, by decide +kernel, by decide, by decide, by decide +kernel⟩⟩
  · exact ⟨"bb", [Str.ofString "k" ++ (⟨#[97]⟩ : Str) ++ Str.ofString "bb", Str.ofString "k" ++ (⟨#[98]⟩ : Str) ++ Str.ofString "bb", Str.ofString "k" ++ (⟨#[99]⟩ : Str) ++ Str.ofString "bb", Str.ofString "k" ++ (⟨#[100]⟩ : Str) ++ Str.ofString "bb"], ent_gen (e := "bb") (rho := [some (.d (.str "bb")), some (.d (sc "s" "bb")), some (.d (sc "m" "bb")), some (.d (.tup [.str "call", sc "c" "bb", .tup []])), some (.d (.tup [.str "var", .int 0])), some (.d (.tup [.str "var", .int 1])), none, none, none]) (w := ⟨#[97, 98, 99, 100]⟩) (ds := [D.str ⟨#[97]⟩, D.str ⟨#[98]⟩, D.str ⟨#[99]⟩, D.str ⟨#[100]⟩]) d5 (by kernel_rfl) (by kernel_rfl) q5 d3 (by kernel_rfl) (by kernel_rfl) (by kernel_rfl), ⟨by decide, by decide +kernel, by decide, by decide, by decide +kernel⟩⟩
end L
set_option pp.maxSteps 400
set_option pp.deepTerms false
namespace L
open PySem L2 G
local macro_rules | `(tactic| walk_at "ex") => `(tactic| try simp only [sSeq, sSet, sExpr, sRet, sIf, sAsg, una, escf, escS, opd, eVar, eC, eBin, eUn, eFn, eCall, eTup, eLst, aCons, aNil, fin, rd, rds, R.toS, dsOf, Rs.bind_ok, Rs.bind_bad, Rs.bind_ex, Rs.opt_some, Option.bind_some, Option.map_some, ownAt, eExt, eApp, ePop, List.getElem?_cons_zero, List.getElem?_cons_succ, List.set_cons_zero, List.set_cons_succ, okArg, List.all_cons, List.all_nil, Bool.and_self, if_true, kName, kTup, ksCons, ksNil, fMax, tOf, List.length_cons, List.length_nil, Bool.not_false, Bool.not_true, if_false, Bool.false_eq_true, lm0, lm1, lm2, lm3, lm4, lm5, lm6, lm7, lm8, lm9, lm10, lm11, lm12, fnM, List.map_cons, List.map_nil, List.replicate, List.cons_append, List.nil_append, Nat.reduceAdd, Nat.reduceSub, sNil, tAndM, tOrM, tNotM, tTru, dTru, eIf, dSub_i, dAdd_i, dLt_i, dLe_i, dGt_i, dGe_i, dEq_i, decide_true, decide_false, eChain, eAndM, eSl, oInt, dNeg, dIx, atI0, atI1, atI2, aDef, fTuple, wv_var, wc_var, wj_var, wb_var, wv_call, wc_call, wj_call, wb_call, wv_rel, wc_rel, wj_rel, wb_rel, wv_same, wc_same, wj_same, wb_same, wv_no, wc_no, wj_no, wb_no, wv_and, wc_and, wj_and, wb_and, wv_or, wc_or, wj_or, wb_or, wv_if, wc_if, wj_if, wb_if, wv_all, wc_all, wj_all, wb_all, wv_some, wc_some, wj_some, wb_some])
local macro_rules | `(tactic| walk_at "ey") => `(tactic| try simp only [sSeq, sSet, sExpr, sRet, sIf, sAsg, una, escf, escS, opd, eVar, eC, eBin, eUn, eFn, eCall, eTup, eLst, aCons, aNil, fin, rd, rds, R.toS, dsOf, Rs.bind_ok, Rs.bind_bad, Rs.bind_ex, Rs.opt_some, Option.bind_some, Option.map_some, ownAt, eExt, eApp, ePop, List.getElem?_cons_zero, List.getElem?_cons_succ, List.set_cons_zero, List.set_cons_succ, okArg, List.all_cons, List.all_nil, Bool.and_self, if_true, kName, kTup, ksCons, ksNil, fMax, tOf, List.length_cons, List.length_nil, Bool.not_false, Bool.not_true, if_false, Bool.false_eq_true, lm0, lm1, lm2, lm3, lm4, lm5, lm6, lm7, lm8, lm9, lm10, lm11, lm12, fnM, List.map_cons, List.map_nil, List.replicate, List.cons_append, List.nil_append, Nat.reduceAdd, Nat.reduceSub, sNil, tAndM, tOrM, tNotM, tTru, dTru, eIf, dSub_i, dAdd_i, dLt_i, dLe_i, dGt_i, dGe_i, dEq_i, decide_true, decide_false, eChain, eAndM, eSl, oInt, dNeg, fInt, aDef, fTuple])
/-! terms drawn -/
theorem okS_lit (s : String) : okS (Str.ofString s) := by
  intro c hc
  have e : (Str.ofString s).cps.toList = s.toList.map Char.toNat := by
    show (cpsOfBytes 0 0 s.toByteArray.data.toList).toArray.toList = _
    rw [List.toList_toArray, cpsOfBytes_string]
  rw [e] at hc
  obtain ⟨d, _, rfl⟩ := List.mem_map.mp hc
  have h := d.valid
  have e2 : d.toNat = d.val.toNat := rfl
  rw [e2]
  rcases h with h | ⟨_, h⟩
  · have : d.val.toNat < 0xd800 := h
    omega
  · exact h
theorem okS_to {x : Str} (h : okS x) : PyData.strOk x = true := by
  unfold PyData.strOk
  rw [Array.all_eq_true_iff_forall_mem]
  intro c hc
  have := h c (by simpa using hc)
  simpa using this
def nm (l : String) (e : Str) : Str := Str.ofString l ++ e
theorem nm_ok {e : Str} (l : String) (h : PyData.strOk e = true) : PyData.strOk (nm l e) = true := okS_to (okS_app (okS_lit l) (okS_of h))
theorem eq_ss {a b : Str} (ha : PyData.strOk a = true) (hb : PyData.strOk b = true) : dEq (.str a) (.str b) = some (.d (.bl (a == b))) := by
  have h1 : lay (.str a) = true := by rw [lay]; exact ha
  have h2 : lay (.str b) = true := by rw [lay]; exact hb
  have ok : eqOk (.str a) (.str b) = true := by
    unfold eqOk
    rw [h1, h2, Bool.true_and, Bool.true_and]
    have h3 : dep (.str a) = 0 := by simp [dep]
    exact decide_eq_true (by rw [h3]; omega)
  unfold dEq
  rw [if_pos ok, eqD_str]
theorem pick (l : List Th) (i : Int) (h : 0 ≤ i) (h2 : i < (l.length : Nat)) : ∃ t ∈ l, dIx (.lst (encs l)) (.int i) = some (.d (enc t)) := by
  obtain ⟨k, rfl⟩ : ∃ k : Nat, i = (k : Int) := ⟨i.toNat, by omega⟩
  have hk : k < l.length := by omega
  refine ⟨l[k], List.getElem_mem hk, ?_⟩
  show (atI (encs l) (k : Int)).map R.d = _
  rw [atI_nat (v := enc l[k]) (by rw [encs_map, List.getElem?_map, List.getElem?_eq_getElem hk]; rfl)]
  rfl
theorem lenE (l : List Th) : fLen [.lst (encs l)] = some (.d (.int (l.length : Nat))) := by
  show some (R.d (D.int (((encs l).length : Nat) : Int))) = _
  rw [encs_length]
/-- the variables of a sort -/
def vrs (so : Str) : List Str → Nat → List Th
  | [], _ => []
  | a :: r, k => if (a == so) = true then .var (k : Int) :: vrs so r (k + 1) else vrs so r (k + 1)
theorem vrs_len (so : Str) : ∀ (ar : List Str) (k : Nat), (vrs so ar k).length ≤ ar.length
  | [], k => by simp [vrs]
  | a :: r, k => by
    have := vrs_len so r (k + 1)
    rw [vrs]
    split <;> simp <;> omega
theorem vrs_var (so : Str) : ∀ (ar : List Str) (k : Nat), ∀ t ∈ vrs so ar k, ∃ v, t = .var v
  | [], k => by intro t ht; rw [vrs] at ht; cases ht
  | a :: r, k => by
    intro t ht
    rw [vrs] at ht
    split at ht
    · rcases List.mem_cons.mp ht with rfl | ht
      · exact ⟨_, rfl⟩
      · exact vrs_var so r (k + 1) t ht
    · exact vrs_var so r (k + 1) t ht
def TV : Sm M2 S := (eLc (iEnM (eVar 3)) (kTup 2 (ksCons (kName 9) (ksCons (kName 8) ksNil))) (tOf (eBin dEq (eVar 8) (eVar 4))) (eTup (aCons (escf (eC (.str "var"))) (aCons (escf (eVar 9)) aNil))) [9, 8])
theorem tv_loop (s0 s1 s2 s3 s5 s6 : Option S) (so : Str) (m : Int) (hs : PyData.strOk so = true) : ∀ (ar : List Str) (k : Nat) (acc : List D), (∀ a ∈ ar, PyData.strOk a = true) → acc.length + ar.length ≤ lim →
    lcL (M := M2) (kTup 2 (ksCons (kName 9) (ksCons (kName 8) ksNil))) (tOf (eBin dEq (eVar 8) (eVar 4))) (eTup (aCons (escf (eC (.str "var"))) (aCons (escf (eVar 9)) aNil))) [9, 8] (enl k (ar.map D.str)) acc ⟨[s0, s1, s2, s3, some (.d (.str so)), s5, s6, none, none, none, none], m⟩ = .ok (acc ++ encs (vrs so ar k)) ⟨[s0, s1, s2, s3, some (.d (.str so)), s5, s6, none, none, none, none], m⟩
  | [], k, acc, _, _ => by rw [List.map_nil, enl, vrs, encs, List.append_nil]; rfl
  | a :: r, k, acc, h, hl => by
    rw [List.length_cons] at hl
    have ih := tv_loop s0 s1 s2 s3 s5 s6 so m hs r (k + 1)
    rw [List.map_cons, enl, vrs]
    conv => lhs; unfold lcL
    walk_at "ey"
    rw [eq_ss (h a List.mem_cons_self) hs]
    walk_at "ey"
    simp only [nox]
    walk_at "ey"
    cases hq : (a == so) with
    | true =>
      walk_at "ey"
      try simp only [nox]
      walk_at "ey"
      rw [if_pos (by omega)]
      refine (ih (acc ++ [.tup [.str "var", .int (k : Int)]]) (fun x hx => h x (List.mem_cons_of_mem _ hx)) (by rw [List.length_append, List.length_singleton]; omega)).trans ?_
      rw [encs, enc, List.append_assoc]
      rfl
    | false =>
      walk_at "ey"
      exact ih acc (fun x hx => h x (List.mem_cons_of_mem _ hx)) (by omega)
theorem tv_eq (s0 s1 s2 s5 s6 : Option S) (ar : List Str) (so : Str) (m : Int) (hs : PyData.strOk so = true) (ha : ∀ a ∈ ar, PyData.strOk a = true) (hl : ar.length ≤ 1000) : TV ⟨[s0, s1, s2, some (.d (.tup (ar.map D.str))), some (.d (.str so)), s5, s6, none, none, none, none], m⟩ = .ok (.l (encs (vrs so ar 0))) ⟨[s0, s1, s2, some (.d (.tup (ar.map D.str))), some (.d (.str so)), s5, s6, none, none, none, none], m⟩ := by
  have it : (iEnM (eVar 3) : Sm M2 (List D)) ⟨[s0, s1, s2, some (.d (.tup (ar.map D.str))), some (.d (.str so)), s5, s6, none, none, none, none], m⟩ = .ok (enl 0 (ar.map D.str)) ⟨[s0, s1, s2, some (.d (.tup (ar.map D.str))), some (.d (.str so)), s5, s6, none, none, none, none], m⟩ := by
    simp only [iEnM]
    walk_at "ey"
    rw [enumD_enl]
  have lp := tv_loop s0 s1 s2 (some (.d (.tup (ar.map D.str)))) s5 s6 so m hs ar 0 [] ha (by rw [List.length_nil]; show _ ≤ 1000000; omega)
  unfold TV eLc
  rw [it, Rs.bind_ok, if_pos (by rfl)]
  have wz : wipeZ (M := M2) ⟨[s0, s1, s2, some (.d (.tup (ar.map D.str))), some (.d (.str so)), s5, s6, none, none, none, none], m⟩ [9, 8] = ⟨[s0, s1, s2, some (.d (.tup (ar.map D.str))), some (.d (.str so)), s5, s6, none, none, none, none], m⟩ := rfl
  rw [wz, lp, Rs.bind_ok, List.nil_append]
  rfl
def TK : Sm M2 S := (eLc (iAnyM (eBin dIx (eBin dIx (eVar 0) (eC (.int 1))) (eC (.int 2)))) (kName 10) (fun z => .ok true z) (eTup (aCons (escf (eC (.str "call"))) (aCons (escf (eVar 10)) (aCons (escf (eTup aNil)) aNil)))) [10])
theorem tk_eq {X : D} {s1 s2 s3 s4 s5 s6 s7 s8 s9 : Option S} {x1 : D} (ks : List Str) (m : Int) (r1 : dIx X (.int 1) = some (.d x1)) (r2 : dIx x1 (.int 2) = some (.d (.tup (ks.map D.str)))) (hl : ks.length ≤ 1000) : TK ⟨[some (.d X), s1, s2, s3, s4, s5, s6, s7, s8, s9, none], m⟩ = .ok (.l (encs (ks.map fun k => .call k []))) ⟨[some (.d X), s1, s2, s3, s4, s5, s6, s7, s8, s9, none], m⟩ := by
  have e : encs (ks.map fun k => Th.call k []) = ks.map fun k => D.tup [.str "call", .str k, .tup []] := by
    rw [encs_map, List.map_map]
    refine List.map_congr_left fun k _ => ?_
    show enc (.call k []) = _
    rw [enc, encs]
  rw [e]
  refine elc_map (M := M2) D.str (g := fun k => D.tup [.str "call", .str k, .tup []]) (ts := ks) ?_ rfl (by show _ ≤ 1000000; omega) (fun k _ => ?_)
  · simp only [iAnyM]
    walk_at "ey"
    rw [r1]
    walk_at "ey"
    rw [r2]
    walk_at "ey"
    rfl
  · walk_at "ey"
section
variable {c : Fn → List S → Int → Rs S Int} {X cells ar : D} {so : Str} {deep m m1 n : Int} {vs : List D} {x1 M0 : D} {b : Bool}
theorem at_m (h1 : c ._law_cell [.d cells, .m 0] m = .ok (.d (.int n)) m1) (h2 : TV ⟨[some (.d X), some (.d cells), some (.m 0), some (.d ar), some (.d (.str so)), some (.d (.int deep)), some (.d (.int n)), none, none, none, none], m1⟩ = .ok (.l vs) ⟨[some (.d X), some (.d cells), some (.m 0), some (.d ar), some (.d (.str so)), some (.d (.int deep)), some (.d (.int n)), none, none, none, none], m1⟩)
    (r1 : dIx X (.int 1) = some (.d x1)) (r2 : dIx x1 (.int 1) = some (.d M0)) (hq : dEq (.str so) M0 = some (.d (.bl true))) {ws us : List D} {L i : Int} {x : D} (h3 : TK ⟨[some (.d X), some (.d cells), some (.m 0), some (.d ar), some (.d (.str so)), some (.d (.int deep)), some (.d (.int n)), some (.l vs), none, none, none], m1⟩ = .ok (.l ws) ⟨[some (.d X), some (.d cells), some (.m 0), some (.d ar), some (.d (.str so)), some (.d (.int deep)), some (.d (.int n)), some (.l vs), none, none, none], m1⟩)
    (h4 : dAdd (.lst vs) (.lst ws) = some (.l us)) (h5 : fLen [.lst us] = some (.d (.int L))) (h6 : dMod (.int n) (.int L) = some (.d (.int i))) (h7 : dIx (.lst us) (.int i) = some (.d x)) :
    fnM 11 (m__law_any_term c) [.d X, .d cells, .m 0, .d ar, .d (.str so), .d (.int deep)] m = .ok (.d x) m1 := by
  unfold TV at h2
  unfold TK at h3
  unfold m__law_any_term
  walk_at "ey"
  rw [h1]
  walk_at "ey"
  rw [h2]
  walk_at "ey"
  rw [r1]
  walk_at "ey"
  rw [r2]
  walk_at "ey"
  rw [hq]
  walk_at "ey"
  rw [h3]
  walk_at "ey"
  rw [h4]
  walk_at "ey"
  rw [h5]
  walk_at "ey"
  rw [h6]
  walk_at "ey"
  rw [h7]
  walk_at "ey"
theorem at_f (h1 : c ._law_cell [.d cells, .m 0] m = .ok (.d (.int n)) m1) (h2 : TV ⟨[some (.d X), some (.d cells), some (.m 0), some (.d ar), some (.d (.str so)), some (.d (.int deep)), some (.d (.int n)), none, none, none, none], m1⟩ = .ok (.l vs) ⟨[some (.d X), some (.d cells), some (.m 0), some (.d ar), some (.d (.str so)), some (.d (.int deep)), some (.d (.int n)), none, none, none, none], m1⟩)
    (r1 : dIx X (.int 1) = some (.d x1)) (r2 : dIx x1 (.int 1) = some (.d M0)) (hq : dEq (.str so) M0 = some (.d (.bl false))) (hd : 0 < deep) {i : Int} (h5 : dMod (.int n) (.int 5) = some (.d (.int i))) (hi : i = 1) {x3 fn t : D} {m2 : Int} (r3 : dIx X (.int 3) = some (.d x3)) (r4 : dIx x3 (.int 1) = some (.d fn)) (h6 : c ._law_any_term [.d X, .d cells, .m 0, .d ar, .d (.str so), .d (.int (deep - 1))] m1 = .ok (.d t) m2) :
    fnM 11 (m__law_any_term c) [.d X, .d cells, .m 0, .d ar, .d (.str so), .d (.int deep)] m = .ok (.d (.tup [.str "call", fn, .tup [t]])) m2 := by
  unfold TV at h2
  unfold m__law_any_term
  walk_at "ey"
  rw [h1]
  walk_at "ey"
  rw [h2]
  walk_at "ey"
  rw [r1]
  walk_at "ey"
  rw [r2]
  walk_at "ey"
  rw [hq]
  walk_at "ey"
  simp only [hd]
  walk_at "ey"
  rw [h5]
  walk_at "ey"
  simp only [hi]
  walk_at "ey"
  rw [r3]
  walk_at "ey"
  rw [r4]
  walk_at "ey"
  rw [h6]
  walk_at "ey"
theorem at_g (h1 : c ._law_cell [.d cells, .m 0] m = .ok (.d (.int n)) m1) (h2 : TV ⟨[some (.d X), some (.d cells), some (.m 0), some (.d ar), some (.d (.str so)), some (.d (.int deep)), some (.d (.int n)), none, none, none, none], m1⟩ = .ok (.l vs) ⟨[some (.d X), some (.d cells), some (.m 0), some (.d ar), some (.d (.str so)), some (.d (.int deep)), some (.d (.int n)), none, none, none, none], m1⟩)
    (r1 : dIx X (.int 1) = some (.d x1)) (r2 : dIx x1 (.int 1) = some (.d M0)) (hq : dEq (.str so) M0 = some (.d (.bl false))) (hd : 0 < deep) {i : Int} (h5 : dMod (.int n) (.int 5) = some (.d (.int i))) (hi : i = 2) {x4 gn t u : D} {m2 m3 : Int} (h6 : c ._law_any_term [.d X, .d cells, .m 0, .d ar, .d (.str so), .d (.int (deep - 1))] m1 = .ok (.d t) m2) (r3 : dIx X (.int 4) = some (.d x4)) (r4 : dIx x4 (.int 1) = some (.d gn)) (h7 : c ._law_any_term [.d X, .d cells, .m 0, .d ar, .d M0, .d (.int 0)] m2 = .ok (.d u) m3) :
    fnM 11 (m__law_any_term c) [.d X, .d cells, .m 0, .d ar, .d (.str so), .d (.int deep)] m = .ok (.d (.tup [.str "call", gn, .tup [t, u]])) m3 := by
  unfold TV at h2
  have n1 : ¬ (2 : Int) = 1 := by decide
  unfold m__law_any_term
  walk_at "ey"
  rw [h1]
  walk_at "ey"
  rw [h2]
  walk_at "ey"
  rw [r1]
  walk_at "ey"
  rw [r2]
  walk_at "ey"
  rw [hq]
  walk_at "ey"
  simp only [hd]
  walk_at "ey"
  rw [h5]
  walk_at "ey"
  simp only [hi, n1]
  walk_at "ey"
  try simp only [hd]
  walk_at "ey"
  rw [h5]
  walk_at "ey"
  simp only [hi]
  walk_at "ey"
  rw [h6]
  walk_at "ey"
  rw [r3]
  walk_at "ey"
  rw [r4]
  walk_at "ey"
  rw [r1]
  walk_at "ey"
  rw [r2]
  walk_at "ey"
  rw [h7]
  walk_at "ey"
theorem at_c (h1 : c ._law_cell [.d cells, .m 0] m = .ok (.d (.int n)) m1) (h2 : TV ⟨[some (.d X), some (.d cells), some (.m 0), some (.d ar), some (.d (.str so)), some (.d (.int deep)), some (.d (.int n)), none, none, none, none], m1⟩ = .ok (.l vs) ⟨[some (.d X), some (.d cells), some (.m 0), some (.d ar), some (.d (.str so)), some (.d (.int deep)), some (.d (.int n)), none, none, none, none], m1⟩)
    (r1 : dIx X (.int 1) = some (.d x1)) (r2 : dIx x1 (.int 1) = some (.d M0)) (hq : dEq (.str so) M0 = some (.d (.bl false))) {i : Int} (h5 : dMod (.int n) (.int 5) = some (.d (.int i))) (hi : ¬ (0 < deep ∧ (i = 1 ∨ i = 2))) {x2 cn x : D} {L q j : Int} (r3 : dIx X (.int 2) = some (.d x2)) (r4 : dIx x2 (.int 1) = some (.d cn)) (hl : vs.length < lim) (h6 : dFdiv (.int n) (.int 5) = some (.d (.int q))) (h7 : fLen [.lst (vs ++ [.tup [.str "call", cn, .tup []]])] = some (.d (.int L))) (h8 : dMod (.int q) (.int L) = some (.d (.int j))) (h9 : dIx (.lst (vs ++ [.tup [.str "call", cn, .tup []]])) (.int j) = some (.d x)) :
    fnM 11 (m__law_any_term c) [.d X, .d cells, .m 0, .d ar, .d (.str so), .d (.int deep)] m = .ok (.d x) m1 := by
  unfold TV at h2
  unfold m__law_any_term
  walk_at "ey"
  rw [h1]
  walk_at "ey"
  rw [h2]
  walk_at "ey"
  rw [r1]
  walk_at "ey"
  rw [r2]
  walk_at "ey"
  rw [hq]
  walk_at "ey"
  by_cases hd : 0 < deep
  · have i1 : ¬ i = 1 := fun q => hi ⟨hd, .inl q⟩
    have i2 : ¬ i = 2 := fun q => hi ⟨hd, .inr q⟩
    simp only [hd]
    walk_at "ey"
    rw [h5]
    walk_at "ey"
    simp only [i1]
    walk_at "ey"
    try simp only [hd]
    walk_at "ey"
    rw [h5]
    walk_at "ey"
    simp only [i2]
    walk_at "ey"
    rw [r3]
    walk_at "ey"
    rw [r4]
    walk_at "ey"
    rw [if_pos hl]
    walk_at "ey"
    rw [h6]
    walk_at "ey"
    rw [h7]
    walk_at "ey"
    rw [h8]
    walk_at "ey"
    rw [h9]
    walk_at "ey"
  · simp only [hd]
    walk_at "ey"
    try simp only [hd]
    walk_at "ey"
    rw [r3]
    walk_at "ey"
    rw [r4]
    walk_at "ey"
    rw [if_pos hl]
    walk_at "ey"
    rw [h6]
    walk_at "ey"
    rw [h7]
    walk_at "ey"
    rw [h8]
    walk_at "ey"
    rw [h9]
    walk_at "ey"
end
def Gd (d s : Nat) (t : Th) : Prop := nms t = true ∧ depth t ≤ d ∧ size t ≤ s
theorem gd_const {s : Str} (h : PyData.strOk s = true) : Gd 1 1 (.call s []) := ⟨by rw [nms, nmss, h]; rfl, by rw [depth, depths]; omega, by rw [size, sizes]; omega⟩
theorem gd_var (v : Int) : Gd 1 1 (.var v) := ⟨by rw [nms], by rw [depth]; omega, by rw [size]; omega⟩
theorem Gd.mono {d s d' s' : Nat} {t : Th} (h : Gd d s t) (hd : d ≤ d') (hs : s ≤ s') : Gd d' s' t := ⟨h.1, by have := h.2.1; omega, by have := h.2.2; omega⟩
def cl (ns : List Int) : D := .lst (ns.map D.int)
theorem room1 (e : Str) (ks : List Str) : dIx (room e ks) (.int 1) = some (.d (.tup [.str "sort", .str (nm "m" e), .tup (ks.map D.str)])) := rfl
theorem room0 (e : Str) (ks : List Str) : dIx (room e ks) (.int 0) = some (.d (.tup [.str "sort", .str (nm "s" e), .tup []])) := rfl
theorem room2 (e : Str) (ks : List Str) : dIx (room e ks) (.int 2) = some (.d (.tup [.str "func", .str (nm "c" e), .tup [], .str (nm "s" e)])) := rfl
theorem room3 (e : Str) (ks : List Str) : dIx (room e ks) (.int 3) = some (.d (.tup [.str "func", .str (nm "f" e), .tup [.str (nm "s" e)], .str (nm "s" e)])) := rfl
theorem room4 (e : Str) (ks : List Str) : dIx (room e ks) (.int 4) = some (.d (.tup [.str "func", .str (nm "g" e), .tup [.str (nm "s" e), .str (nm "m" e)], .str (nm "s" e)])) := rfl
theorem room5 (e : Str) (ks : List Str) : dIx (room e ks) (.int 5) = some (.d (.tup [.str "rel", .str (nm "p" e), .tup [.str (nm "s" e)]])) := rfl
theorem room6 (e : Str) (ks : List Str) : dIx (room e ks) (.int 6) = some (.d (.tup [.str "rel", .str (nm "q" e), .tup [.str (nm "s" e), .str (nm "m" e)]])) := rfl
theorem room7 (e : Str) (ks : List Str) : dIx (room e ks) (.int 7) = some (.d (.tup [.str "rel", .str (nm "z" e), .tup []])) := rfl
theorem i31 (a b c : D) : dIx (.tup [a, b, c]) (.int 1) = some (.d b) := rfl
theorem i32 (a b c : D) : dIx (.tup [a, b, c]) (.int 2) = some (.d c) := rfl
theorem i41 (a b c d : D) : dIx (.tup [a, b, c, d]) (.int 1) = some (.d b) := rfl
theorem term_ok (ns : List Int) (hns : ns.length ≤ 1000) (e : Str) (ks : List Str) (K : RmOk e ks) : ∀ (d L : Nat) (ar : List Str) (so : Str) (m : Int), d + 2 ≤ L → (∀ a ∈ ar, PyData.strOk a = true) → ar.length ≤ 1000 → PyData.strOk so = true → 0 ≤ m → m + (3 * d + 1) ≤ 10000000000000 →
    ∃ (t : Th) (m' : Int), mir L ._law_any_term [.d (room e ks), .d (cl ns), .m 0, .d (.tup (ar.map D.str)), .d (.str so), .d (.int (d : Int))] m = .ok (.d (enc t)) m' ∧ Gd (d + 1) (2 * d + 1) t ∧ m ≤ m' ∧ m' ≤ m + (3 * d + 1)
  | d, 0, _, _, _, h, _, _, _, _, _ => by omega
  | d, 1, _, _, _, h, _, _, _, _, _ => by omega
  | d, L + 2, ar, so, m, h, ha, hal, hs, h0, hb => by
    obtain ⟨n, e1, n0⟩ := cell_ok L ns m hns h0 (by omega)
    have tv := tv_eq (some (.d (room e ks))) (some (.d (cl ns))) (some (.m 0)) (some (.d (.int (d : Int)))) (some (.d (.int n))) ar so (m + 1) hs ha hal
    have mk := nm_ok "m" K.ok
    have hq := eq_ss hs mk
    have vl := vrs_len so ar 0
    have vv : ∀ t ∈ vrs so ar 0, Gd 1 1 t := fun t ht => by obtain ⟨v, rfl⟩ := vrs_var so ar 0 t ht; exact gd_var v
    have h5 := modA n 5 (by omega)
    cases q : (so == nm "m" e) with
    | true =>
      rw [q] at hq
      have tk := tk_eq (s1 := some (.d (cl ns))) (s2 := some (.m 0)) (s3 := some (.d (.tup (ar.map D.str)))) (s4 := some (.d (.str so))) (s5 := some (.d (.int (d : Int)))) (s6 := some (.d (.int n))) (s7 := some (.l (encs (vrs so ar 0)))) (s8 := none) (s9 := none) ks (m + 1) (room1 e ks) (i32 _ _ _) (by have := K.hi; omega)
      have da : dAdd (.lst (encs (vrs so ar 0))) (.lst (encs (ks.map fun k => .call k []))) = some (.l (encs (vrs so ar 0 ++ ks.map fun k => .call k []))) := by
        unfold dAdd
        refine (if_pos (by rw [encs_length, encs_length, List.length_map]; have := K.hi; show _ ≤ 1000000; omega)).trans ?_
        rw [encs_append]
      have lp : 0 < (((vrs so ar 0 ++ ks.map fun k => Th.call k []).length : Nat) : Int) := by
        rw [List.length_append, List.length_map]
        have := K.lo
        omega
      obtain ⟨t, ht, et⟩ := pick (vrs so ar 0 ++ ks.map fun k => .call k []) (n % ((vrs so ar 0 ++ ks.map fun k => Th.call k []).length : Nat)) (Int.emod_nonneg _ (by omega)) (Int.emod_lt_of_pos _ lp)
      have gt : Gd 1 1 t := by
        rcases List.mem_append.mp ht with ht | ht
        · exact vv t ht
        · obtain ⟨k, hk, rfl⟩ := List.mem_map.mp ht
          exact gd_const (K.kok k hk)
      exact ⟨t, m + 1, at_m (c := mir (L + 1)) e1 tv (room1 e ks) (i31 _ _ _) hq tk da (lenE _) (modA _ _ lp) et, gt.mono (by omega) (by omega), by omega, by omega⟩
    | false =>
      rw [q] at hq
      by_cases c1 : 0 < (d : Int) ∧ (n % 5 = 1 ∨ n % 5 = 2)
      · cases d with
        | zero => exact absurd c1.1 (by simp)
        | succ d =>
          obtain ⟨t, m2, f1, ⟨g1, g2, g3⟩, b1, b2⟩ := term_ok ns hns e ks K d (L + 1) ar so (m + 1) (by omega) ha hal hs (by omega) (by omega)
          have ed : (((d + 1 : Nat) : Int) - 1) = (d : Int) := by omega
          rcases c1.2 with i1 | i2
          · have r := at_f (c := mir (L + 1)) e1 tv (room1 e ks) (i31 _ _ _) hq c1.1 h5 i1 (room3 e ks) (i41 _ _ _ _) (by rw [ed]; exact f1)
            refine ⟨.call (nm "f" e) [t], m2, ?_, ⟨?_, ?_, ?_⟩, by omega, by omega⟩
            · rw [enc, encs, encs]; exact r
            · rw [nms, nmss, nmss, nm_ok "f" K.ok, g1]; rfl
            · rw [depth, depths, depths]; omega
            · rw [size, sizes, sizes]; omega
          · obtain ⟨u, m3, f2, ⟨x1, x2, x3⟩, b3, b4⟩ := term_ok ns hns e ks K 0 (L + 1) ar (nm "m" e) m2 (by omega) ha hal mk (by omega) (by omega)
            have z0 : (((0 : Nat) : Nat) : Int) = 0 := rfl
            rw [z0] at f2
            have r := at_g (c := mir (L + 1)) e1 tv (room1 e ks) (i31 _ _ _) hq c1.1 h5 i2 (by rw [ed]; exact f1) (room4 e ks) (i41 _ _ _ _) f2
            refine ⟨.call (nm "g" e) [t, u], m3, ?_, ⟨?_, ?_, ?_⟩, by omega, by omega⟩
            · rw [enc, encs, encs, encs]; exact r
            · rw [nms, nmss, nmss, nmss, nm_ok "g" K.ok, g1, x1]; rfl
            · rw [depth, depths, depths, depths]; omega
            · rw [size, sizes, sizes, sizes]; omega
      · have en : encs (vrs so ar 0) ++ [.tup [.str "call", .str (nm "c" e), .tup []]] = encs (vrs so ar 0 ++ [.call (nm "c" e) []]) := by
          rw [encs_append, encs, encs, enc, encs]
        have lp : 0 < (((vrs so ar 0 ++ [Th.call (nm "c" e) []]).length : Nat) : Int) := by
          rw [List.length_append, List.length_singleton]
          omega
        obtain ⟨t, ht, et⟩ := pick (vrs so ar 0 ++ [.call (nm "c" e) []]) (n / 5 % ((vrs so ar 0 ++ [Th.call (nm "c" e) []]).length : Nat)) (Int.emod_nonneg _ (by omega)) (Int.emod_lt_of_pos _ lp)
        have gt : Gd 1 1 t := by
          rcases List.mem_append.mp ht with ht | ht
          · exact vv t ht
          · rcases List.mem_singleton.mp ht with rfl
            exact gd_const (nm_ok "c" K.ok)
        exact ⟨t, m + 1, at_c (c := mir (L + 1)) e1 tv (room1 e ks) (i31 _ _ _) hq h5 c1 (room2 e ks) (i41 _ _ _ _) (by rw [encs_length]; show _ < 1000000; omega) (divA _ _ (by omega)) (by rw [en]; exact lenE _) (modA _ _ lp) (by rw [en]; exact et), gt.mono (by omega) (by omega), by omega, by omega⟩

end L
set_option pp.maxSteps 400
set_option pp.deepTerms false
namespace L
open PySem L2 G
local macro_rules | `(tactic| walk_at "ex") => `(tactic| try simp only [sSeq, sSet, sExpr, sRet, sIf, sAsg, una, escf, escS, opd, eVar, eC, eBin, eUn, eFn, eCall, eTup, eLst, aCons, aNil, fin, rd, rds, R.toS, dsOf, Rs.bind_ok, Rs.bind_bad, Rs.bind_ex, Rs.opt_some, Option.bind_some, Option.map_some, ownAt, eExt, eApp, ePop, List.getElem?_cons_zero, List.getElem?_cons_succ, List.set_cons_zero, List.set_cons_succ, okArg, List.all_cons, List.all_nil, Bool.and_self, if_true, kName, kTup, ksCons, ksNil, fMax, tOf, List.length_cons, List.length_nil, Bool.not_false, Bool.not_true, if_false, Bool.false_eq_true, lm0, lm1, lm2, lm3, lm4, lm5, lm6, lm7, lm8, lm9, lm10, lm11, lm12, fnM, List.map_cons, List.map_nil, List.replicate, List.cons_append, List.nil_append, Nat.reduceAdd, Nat.reduceSub, sNil, tAndM, tOrM, tNotM, tTru, dTru, eIf, dSub_i, dAdd_i, dLt_i, dLe_i, dGt_i, dGe_i, dEq_i, decide_true, decide_false, eChain, eAndM, eSl, oInt, dNeg, dIx, atI0, atI1, atI2, aDef, fTuple, wv_var, wc_var, wj_var, wb_var, wv_call, wc_call, wj_call, wb_call, wv_rel, wc_rel, wj_rel, wb_rel, wv_same, wc_same, wj_same, wb_same, wv_no, wc_no, wj_no, wb_no, wv_and, wc_and, wj_and, wb_and, wv_or, wc_or, wj_or, wb_or, wv_if, wc_if, wj_if, wb_if, wv_all, wc_all, wj_all, wb_all, wv_some, wc_some, wj_some, wb_some])
local macro_rules | `(tactic| walk_at "ey") => `(tactic| try simp only [sSeq, sSet, sExpr, sRet, sIf, sAsg, una, escf, escS, opd, eVar, eC, eBin, eUn, eFn, eCall, eTup, eLst, aCons, aNil, fin, rd, rds, R.toS, dsOf, Rs.bind_ok, Rs.bind_bad, Rs.bind_ex, Rs.opt_some, Option.bind_some, Option.map_some, ownAt, eExt, eApp, ePop, List.getElem?_cons_zero, List.getElem?_cons_succ, List.set_cons_zero, List.set_cons_succ, okArg, List.all_cons, List.all_nil, Bool.and_self, if_true, kName, kTup, ksCons, ksNil, fMax, tOf, List.length_cons, List.length_nil, Bool.not_false, Bool.not_true, if_false, Bool.false_eq_true, lm0, lm1, lm2, lm3, lm4, lm5, lm6, lm7, lm8, lm9, lm10, lm11, lm12, fnM, List.map_cons, List.map_nil, List.replicate, List.cons_append, List.nil_append, Nat.reduceAdd, Nat.reduceSub, sNil, tAndM, tOrM, tNotM, tTru, dTru, eIf, dSub_i, dAdd_i, dLt_i, dLe_i, dGt_i, dGe_i, dEq_i, decide_true, decide_false, eChain, eAndM, eSl, oInt, dNeg, fInt, aDef, fTuple])
/-! statements drawn -/
theorem il20 (a b : D) : dIx (.lst [a, b]) (.int 0) = some (.d a) := rfl
theorem il21 (a b : D) : dIx (.lst [a, b]) (.int 1) = some (.d b) := rfl
theorem il30 (a b c : D) : dIx (.lst [a, b, c]) (.int 0) = some (.d a) := rfl
theorem il31 (a b c : D) : dIx (.lst [a, b, c]) (.int 1) = some (.d b) := rfl
theorem il32 (a b c : D) : dIx (.lst [a, b, c]) (.int 2) = some (.d c) := rfl
def TP (c : Fn → List S → Int → Rs S Int) : Sm M2 S := (eLc (iRg1M (aCons (opd (eC (.int 2))) aNil)) (kName 10) (fun z => .ok true z) (eCall (c ._law_any_term) (aCons (escf (eVar 0)) (aCons (escf (eVar 1)) (aCons (escf (eVar 2)) (aCons (escf (eVar 3)) (aCons (escf (eVar 8)) (aCons (escf (eC (.int 1))) aNil))))))) [10])
section
variable {c : Fn → List S → Int → Rs S Int} {X cells ar : D} {deep m m1 m2 n w : Int} {x0 S0 t : D}
theorem tp_eq {so t2 u : D} {m3 m4 : Int} {s4 s5 s6 s7 : Option S} (h1 : c ._law_any_term [.d X, .d cells, .m 0, .d ar, .d so, .d (.int 1)] m2 = .ok (.d t2) m3) (h2 : c ._law_any_term [.d X, .d cells, .m 0, .d ar, .d so, .d (.int 1)] m3 = .ok (.d u) m4) :
    TP c ⟨[some (.d X), some (.d cells), some (.m 0), some (.d ar), s4, s5, s6, s7, some (.d so), none, none], m2⟩ = .ok (.l [t2, u]) ⟨[some (.d X), some (.d cells), some (.m 0), some (.d ar), s4, s5, s6, s7, some (.d so), none, none], m4⟩ := by
  have it : (iRg1M (aCons (opd (eC (.int 2))) aNil) : Sm M2 (List D)) ⟨[some (.d X), some (.d cells), some (.m 0), some (.d ar), s4, s5, s6, s7, some (.d so), none, none], m2⟩ = .ok [.int 0, .int 1] ⟨[some (.d X), some (.d cells), some (.m 0), some (.d ar), s4, s5, s6, s7, some (.d so), none, none], m2⟩ := rfl
  have wz : ∀ (j : Int) (x : Option S), wipeZ (M := M2) ⟨[some (.d X), some (.d cells), some (.m 0), some (.d ar), s4, s5, s6, s7, some (.d so), none, x], j⟩ [10] = ⟨[some (.d X), some (.d cells), some (.m 0), some (.d ar), s4, s5, s6, s7, some (.d so), none, none], j⟩ := fun _ _ => rfl
  unfold TP eLc
  rw [it, Rs.bind_ok, if_pos (by rfl), wz]
  conv => lhs; arg 1; unfold lcL
  walk_at "ey"
  simp only [nox]
  walk_at "ey"
  rw [h1]
  walk_at "ey"
  try simp only [nox]
  walk_at "ey"
  rw [if_pos (by decide), wz]
  conv => lhs; arg 1; unfold lcL
  walk_at "ey"
  simp only [nox]
  walk_at "ey"
  rw [h2]
  walk_at "ey"
  try simp only [nox]
  walk_at "ey"
  rw [if_pos (by decide), wz]
  conv => lhs; arg 1; unfold lcL
  walk_at "ey"
  rfl
theorem as_zero (h1 : c ._law_cell [.d cells, .m 0] m = .ok (.d (.int n)) m1) (h2 : dMod (.int n) (.int 10) = some (.d (.int w))) (hc : deep = 0 ∨ w < 5) (r0 : dIx X (.int 0) = some (.d x0)) (r01 : dIx x0 (.int 1) = some (.d S0)) (h3 : c ._law_any_term [.d X, .d cells, .m 0, .d ar, .d S0, .d (.int 1)] m1 = .ok (.d t) m2) (hw0 : w = 0) {x7 z x : D} {q j : Int} (r7 : dIx X (.int 7) = some (.d x7)) (r71 : dIx x7 (.int 1) = some (.d z)) (h6 : dFdiv (.int n) (.int 10) = some (.d (.int q))) (h7 : dMod (.int q) (.int 2) = some (.d (.int j))) (h8 : dIx (.lst [.tup [.str "no"], .tup [.str "rel", z, .tup []]]) (.int j) = some (.d x)) :
    fnM 11 (m__law_any_statement c) [.d X, .d cells, .m 0, .d ar, .d (.int deep)] m = .ok (.d x) m2 := by
  unfold m__law_any_statement
  walk_at "ey"
  rw [h1]
  walk_at "ey"
  rw [h2]
  walk_at "ey"
  by_cases hd : deep = 0
  · have hdd : (deep = 0) = True := eq_true hd
    simp only [hdd]
    walk_at "ey"
    rw [r0]
    walk_at "ey"
    rw [r01]
    walk_at "ey"
    rw [h3]
    walk_at "ey"
    simp only [hw0]
    walk_at "ey"
    rw [r7]
    walk_at "ey"
    rw [r71]
    walk_at "ey"
    rw [h6]
    walk_at "ey"
    rw [h7]
    walk_at "ey"
    rw [h8]
    walk_at "ey"
  · have hw : w < 5 := hc.resolve_left hd
    simp only [hd]
    walk_at "ey"
    simp only [hw]
    walk_at "ey"
    rw [r0]
    walk_at "ey"
    rw [r01]
    walk_at "ey"
    rw [h3]
    walk_at "ey"
    simp only [hw0]
    walk_at "ey"
    rw [r7]
    walk_at "ey"
    rw [r71]
    walk_at "ey"
    rw [h6]
    walk_at "ey"
    rw [h7]
    walk_at "ey"
    rw [h8]
    walk_at "ey"
theorem as_p (h1 : c ._law_cell [.d cells, .m 0] m = .ok (.d (.int n)) m1) (h2 : dMod (.int n) (.int 10) = some (.d (.int w))) (hc : deep = 0 ∨ w < 5) (r0 : dIx X (.int 0) = some (.d x0)) (r01 : dIx x0 (.int 1) = some (.d S0)) (h3 : c ._law_any_term [.d X, .d cells, .m 0, .d ar, .d S0, .d (.int 1)] m1 = .ok (.d t) m2) (hw0 : ¬ w = 0) (hw3 : w < 3) {x5 p : D} (r5 : dIx X (.int 5) = some (.d x5)) (r51 : dIx x5 (.int 1) = some (.d p)) :
    fnM 11 (m__law_any_statement c) [.d X, .d cells, .m 0, .d ar, .d (.int deep)] m = .ok (.d (.tup [.str "rel", p, .tup [t]])) m2 := by
  unfold m__law_any_statement
  walk_at "ey"
  rw [h1]
  walk_at "ey"
  rw [h2]
  walk_at "ey"
  by_cases hd : deep = 0
  · have hdd : (deep = 0) = True := eq_true hd
    simp only [hdd]
    walk_at "ey"
    rw [r0]
    walk_at "ey"
    rw [r01]
    walk_at "ey"
    rw [h3]
    walk_at "ey"
    simp only [hw0]
    walk_at "ey"
    simp only [hw3]
    walk_at "ey"
    rw [r5]
    walk_at "ey"
    rw [r51]
    walk_at "ey"
  · have hw : w < 5 := hc.resolve_left hd
    simp only [hd]
    walk_at "ey"
    simp only [hw]
    walk_at "ey"
    rw [r0]
    walk_at "ey"
    rw [r01]
    walk_at "ey"
    rw [h3]
    walk_at "ey"
    simp only [hw0]
    walk_at "ey"
    simp only [hw3]
    walk_at "ey"
    rw [r5]
    walk_at "ey"
    rw [r51]
    walk_at "ey"
theorem as_q (h1 : c ._law_cell [.d cells, .m 0] m = .ok (.d (.int n)) m1) (h2 : dMod (.int n) (.int 10) = some (.d (.int w))) (hc : deep = 0 ∨ w < 5) (r0 : dIx X (.int 0) = some (.d x0)) (r01 : dIx x0 (.int 1) = some (.d S0)) (h3 : c ._law_any_term [.d X, .d cells, .m 0, .d ar, .d S0, .d (.int 1)] m1 = .ok (.d t) m2) (hw3 : w = 3) {x6 q x1 S1 u : D} {m3 : Int} (r6 : dIx X (.int 6) = some (.d x6)) (r61 : dIx x6 (.int 1) = some (.d q)) (r1 : dIx X (.int 1) = some (.d x1)) (r11 : dIx x1 (.int 1) = some (.d S1)) (h4 : c ._law_any_term [.d X, .d cells, .m 0, .d ar, .d S1, .d (.int 0)] m2 = .ok (.d u) m3) :
    fnM 11 (m__law_any_statement c) [.d X, .d cells, .m 0, .d ar, .d (.int deep)] m = .ok (.d (.tup [.str "rel", q, .tup [t, u]])) m3 := by
  have hw0 : ¬ w = 0 := by omega
  have hn3 : ¬ w < 3 := by omega
  unfold m__law_any_statement
  walk_at "ey"
  rw [h1]
  walk_at "ey"
  rw [h2]
  walk_at "ey"
  by_cases hd : deep = 0
  · have hdd : (deep = 0) = True := eq_true hd
    simp only [hdd]
    walk_at "ey"
    rw [r0]
    walk_at "ey"
    rw [r01]
    walk_at "ey"
    rw [h3]
    walk_at "ey"
    simp only [hw0]
    walk_at "ey"
    simp only [hn3]
    walk_at "ey"
    simp only [hw3]
    walk_at "ey"
    rw [r6]
    walk_at "ey"
    rw [r61]
    walk_at "ey"
    rw [r1]
    walk_at "ey"
    rw [r11]
    walk_at "ey"
    rw [h4]
    walk_at "ey"
  · have hw : w < 5 := hc.resolve_left hd
    simp only [hd]
    walk_at "ey"
    simp only [hw]
    walk_at "ey"
    rw [r0]
    walk_at "ey"
    rw [r01]
    walk_at "ey"
    rw [h3]
    walk_at "ey"
    simp only [hw0]
    walk_at "ey"
    simp only [hn3]
    walk_at "ey"
    simp only [hw3]
    walk_at "ey"
    rw [r6]
    walk_at "ey"
    rw [r61]
    walk_at "ey"
    rw [r1]
    walk_at "ey"
    rw [r11]
    walk_at "ey"
    rw [h4]
    walk_at "ey"
theorem as_same (h1 : c ._law_cell [.d cells, .m 0] m = .ok (.d (.int n)) m1) (h2 : dMod (.int n) (.int 10) = some (.d (.int w))) (hc : deep = 0 ∨ w < 5) (r0 : dIx X (.int 0) = some (.d x0)) (r01 : dIx x0 (.int 1) = some (.d S0)) (h3 : c ._law_any_term [.d X, .d cells, .m 0, .d ar, .d S0, .d (.int 1)] m1 = .ok (.d t) m2) (hw : 3 < w) {q j : Int} {xs so t2 u : D} {m4 : Int} (h6 : dFdiv (.int n) (.int 10) = some (.d (.int q))) (h7 : dMod (.int q) (.int 2) = some (.d (.int j))) (rs : dIx X (.int j) = some (.d xs)) (rs1 : dIx xs (.int 1) = some (.d so)) (h8 : TP c ⟨[some (.d X), some (.d cells), some (.m 0), some (.d ar), some (.d (.int deep)), some (.d (.int n)), some (.d (.int w)), some (.d t), some (.d so), none, none], m2⟩ = .ok (.l [t2, u]) ⟨[some (.d X), some (.d cells), some (.m 0), some (.d ar), some (.d (.int deep)), some (.d (.int n)), some (.d (.int w)), some (.d t), some (.d so), none, none], m4⟩) :
    fnM 11 (m__law_any_statement c) [.d X, .d cells, .m 0, .d ar, .d (.int deep)] m = .ok (.d (.tup [.str "same", t2, u])) m4 := by
  unfold TP at h8
  have hw0 : ¬ w = 0 := by omega
  have hn3 : ¬ w < 3 := by omega
  have hm3 : ¬ w = 3 := by omega
  unfold m__law_any_statement
  walk_at "ey"
  rw [h1]
  walk_at "ey"
  rw [h2]
  walk_at "ey"
  by_cases hd : deep = 0
  · have hdd : (deep = 0) = True := eq_true hd
    simp only [hdd]
    walk_at "ey"
    rw [r0]
    walk_at "ey"
    rw [r01]
    walk_at "ey"
    rw [h3]
    walk_at "ey"
    simp only [hw0]
    walk_at "ey"
    simp only [hn3]
    walk_at "ey"
    simp only [hm3]
    walk_at "ey"
    rw [h6]
    walk_at "ey"
    rw [h7]
    walk_at "ey"
    rw [rs]
    walk_at "ey"
    rw [rs1]
    walk_at "ey"
    rw [h8]
    walk_at "ey"
    rw [il20]
    walk_at "ey"
    rw [il21]
    walk_at "ey"
  · have hw : w < 5 := hc.resolve_left hd
    simp only [hd]
    walk_at "ey"
    simp only [hw]
    walk_at "ey"
    rw [r0]
    walk_at "ey"
    rw [r01]
    walk_at "ey"
    rw [h3]
    walk_at "ey"
    simp only [hw0]
    walk_at "ey"
    simp only [hn3]
    walk_at "ey"
    simp only [hm3]
    walk_at "ey"
    rw [h6]
    walk_at "ey"
    rw [h7]
    walk_at "ey"
    rw [rs]
    walk_at "ey"
    rw [rs1]
    walk_at "ey"
    rw [h8]
    walk_at "ey"
    rw [il20]
    walk_at "ey"
    rw [il21]
    walk_at "ey"
theorem as_bin (h1 : c ._law_cell [.d cells, .m 0] m = .ok (.d (.int n)) m1) (h2 : dMod (.int n) (.int 10) = some (.d (.int w))) (hd : ¬ deep = 0) (hw5 : ¬ w < 5) (hw8 : w < 8) {u k : D} {m3 : Int} (h3 : c ._law_any_statement [.d X, .d cells, .m 0, .d ar, .d (.int (deep - 1))] m1 = .ok (.d t) m2) (h4 : dIx (.lst [.str "and", .str "or", .str "if"]) (.int (w - 5)) = some (.d k)) (h5 : c ._law_any_statement [.d X, .d cells, .m 0, .d ar, .d (.int (deep - 1))] m2 = .ok (.d u) m3) :
    fnM 11 (m__law_any_statement c) [.d X, .d cells, .m 0, .d ar, .d (.int deep)] m = .ok (.d (.tup [k, t, u])) m3 := by
  unfold m__law_any_statement
  walk_at "ey"
  rw [h1]
  walk_at "ey"
  rw [h2]
  walk_at "ey"
  simp only [hd]
  walk_at "ey"
  simp only [hw5]
  walk_at "ey"
  simp only [hw8]
  walk_at "ey"
  rw [h3]
  walk_at "ey"
  rw [h4]
  walk_at "ey"
  rw [h5]
  walk_at "ey"
theorem as_qu (h1 : c ._law_cell [.d cells, .m 0] m = .ok (.d (.int n)) m1) (h2 : dMod (.int n) (.int 10) = some (.d (.int w))) (hd : ¬ deep = 0) (hw8 : ¬ w < 8) {k xs so : D} {ar2 : List D} {q j : Int} (h6 : dFdiv (.int n) (.int 10) = some (.d (.int q))) (h7 : dMod (.int q) (.int 2) = some (.d (.int j))) (rs : dIx X (.int j) = some (.d xs)) (rs1 : dIx xs (.int 1) = some (.d so)) (h4 : dIx (.lst [.str "all", .str "some"]) (.int (w - 8)) = some (.d k)) (h8 : dAdd (.tup [so]) ar = some (.t ar2)) (h5 : c ._law_any_statement [.d X, .d cells, .m 0, .d (.tup ar2), .d (.int (deep - 1))] m1 = .ok (.d t) m2) :
    fnM 11 (m__law_any_statement c) [.d X, .d cells, .m 0, .d ar, .d (.int deep)] m = .ok (.d (.tup [k, so, t])) m2 := by
  have hw5 : ¬ w < 5 := by omega
  unfold m__law_any_statement
  walk_at "ey"
  rw [h1]
  walk_at "ey"
  rw [h2]
  walk_at "ey"
  simp only [hd]
  walk_at "ey"
  simp only [hw5]
  walk_at "ey"
  simp only [hw8]
  walk_at "ey"
  rw [h6]
  walk_at "ey"
  rw [h7]
  walk_at "ey"
  rw [rs]
  walk_at "ey"
  rw [rs1]
  walk_at "ey"
  rw [h4]
  walk_at "ey"
  rw [h8]
  walk_at "ey"
  rw [h5]
  walk_at "ey"
end
def dr : Nat → Int
  | 0 => 13
  | d + 1 => 2 * dr d + 1
theorem dr_ge : ∀ d, 13 ≤ dr d
  | 0 => by decide
  | d + 1 => by have := dr_ge d; rw [dr]; omega
def sz : Nat → Nat
  | 0 => 7
  | d + 1 => 2 * sz d + 1
theorem sz_ge : ∀ d, 7 ≤ sz d
  | 0 => by decide
  | d + 1 => by have := sz_ge d; rw [sz]; omega
theorem room_s (e : Str) (ks : List Str) (j : Int) (h : 0 ≤ j) (h2 : j < 2) : ∃ xs s, dIx (room e ks) (.int j) = some (.d xs) ∧ dIx xs (.int 1) = some (.d (.str s)) ∧ (s = nm "s" e ∨ s = nm "m" e) := by
  have : j = 0 ∨ j = 1 := by omega
  rcases this with rfl | rfl
  · exact ⟨_, _, room0 e ks, i31 _ _ _, .inl rfl⟩
  · exact ⟨_, _, room1 e ks, i31 _ _ _, .inr rfl⟩
theorem add_tt (a b : List D) (h : a.length + b.length ≤ 1000000) : dAdd (.tup a) (.tup b) = some (.t (a ++ b)) := by
  unfold dAdd
  exact if_pos h
theorem stat_ok (ns : List Int) (hns : ns.length ≤ 1000) (e : Str) (ks : List Str) (K : RmOk e ks) : ∀ (d L : Nat) (ar : List Str) (m : Int), d + 4 ≤ L → (∀ a ∈ ar, PyData.strOk a = true) → ar.length + d ≤ 1000 → 0 ≤ m → m + dr d ≤ 10000000000000 →
    ∃ (t : Th) (m' : Int), mir L ._law_any_statement [.d (room e ks), .d (cl ns), .m 0, .d (.tup (ar.map D.str)), .d (.int (d : Int))] m = .ok (.d (enc t)) m' ∧ Gd (d + 3) (sz d) t ∧ m ≤ m' ∧ m' ≤ m + dr d
  | d, 0, _, _, h, _, _, _, _ => by omega
  | d, L + 1, ar, m, h, ha, hal, h0, hb => by
    obtain ⟨n, e1, n0⟩ := cell_ok (L - 1) ns m hns h0 (by have := dr_ge d; omega)
    rw [show L - 1 + 1 = L from by omega] at e1
    have g13 := dr_ge d
    have g7 := sz_ge d
    have sk := nm_ok "s" K.ok
    have mk := nm_ok "m" K.ok
    have h10 := modA n 10 (by omega)
    have d10 := divA n 10 (by omega)
    have m2 := modA (n / 10) 2 (by omega)
    have w0 := Int.emod_nonneg n (show (10 : Int) ≠ 0 by omega)
    have w9 := Int.emod_lt_of_pos n (show (0 : Int) < 10 by omega)
    have j0 := Int.emod_nonneg (n / 10) (show (2 : Int) ≠ 0 by omega)
    have j1 := Int.emod_lt_of_pos (n / 10) (show (0 : Int) < 2 by omega)
    obtain ⟨xs, so, rs, rs1, hso⟩ := room_s e ks _ j0 j1
    have sok : PyData.strOk so = true := by rcases hso with rfl | rfl <;> assumption
    by_cases hc : (d : Int) = 0 ∨ n % 10 < 5
    · obtain ⟨t, m3, f1, ⟨g1, g2, g3⟩, b1, b2⟩ := term_ok ns hns e ks K 1 L ar (nm "s" e) (m + 1) (by omega) ha (by omega) sk (by omega) (by omega)
      have z1 : (((1 : Nat) : Nat) : Int) = 1 := rfl
      rw [z1] at f1
      by_cases w1 : n % 10 = 0
      · have := as_zero (c := mir L) e1 h10 hc (room0 e ks) (i31 _ _ _) f1 w1 (room7 e ks) (i31 _ _ _) d10 m2 (x := if n / 10 % 2 = 0 then .tup [.str "no"] else .tup [.str "rel", .str (nm "z" e), .tup []]) (by
          have : n / 10 % 2 = 0 ∨ n / 10 % 2 = 1 := by omega
          rcases this with q | q <;> rw [q] <;> rfl)
        by_cases q : n / 10 % 2 = 0
        · rw [if_pos q] at this
          refine ⟨.no, m3, ?_, ⟨?_, ?_, ?_⟩, by omega, by omega⟩
          · rw [enc]; exact this
          · rw [nms]
          · rw [depth]; omega
          · rw [size]; omega
        · rw [if_neg q] at this
          refine ⟨.rel (nm "z" e) [], m3, ?_, ⟨?_, ?_, ?_⟩, by omega, by omega⟩
          · rw [enc, encs]; exact this
          · rw [nms, nmss, nm_ok "z" K.ok]; rfl
          · rw [depth, depths]; omega
          · rw [size, sizes]; omega
      · by_cases w3 : n % 10 < 3
        · have := as_p (c := mir L) e1 h10 hc (room0 e ks) (i31 _ _ _) f1 w1 w3 (room5 e ks) (i31 _ _ _)
          refine ⟨.rel (nm "p" e) [t], m3, ?_, ⟨?_, ?_, ?_⟩, by omega, by omega⟩
          · rw [enc, encs, encs]; exact this
          · rw [nms, nmss, nmss, nm_ok "p" K.ok, g1]; rfl
          · rw [depth, depths, depths]; omega
          · rw [size, sizes, sizes]; omega
        · by_cases w4 : n % 10 = 3
          · obtain ⟨u, m4, f2, ⟨x1, x2, x3⟩, b3, b4⟩ := term_ok ns hns e ks K 0 L ar (nm "m" e) m3 (by omega) ha (by omega) mk (by omega) (by omega)
            have z0 : (((0 : Nat) : Nat) : Int) = 0 := rfl
            rw [z0] at f2
            have := as_q (c := mir L) e1 h10 hc (room0 e ks) (i31 _ _ _) f1 w4 (room6 e ks) (i31 _ _ _) (room1 e ks) (i31 _ _ _) f2
            refine ⟨.rel (nm "q" e) [t, u], m4, ?_, ⟨?_, ?_, ?_⟩, by omega, by omega⟩
            · rw [enc, encs, encs, encs]; exact this
            · rw [nms, nmss, nmss, nmss, nm_ok "q" K.ok, g1, x1]; rfl
            · rw [depth, depths, depths, depths]; omega
            · rw [size, sizes, sizes, sizes]; omega
          · obtain ⟨u, m4, f2, ⟨x1, x2, x3⟩, b3, b4⟩ := term_ok ns hns e ks K 1 L ar so m3 (by omega) ha (by omega) sok (by omega) (by omega)
            obtain ⟨v, m5, f3, ⟨y1, y2, y3⟩, b5, b6⟩ := term_ok ns hns e ks K 1 L ar so m4 (by omega) ha (by omega) sok (by omega) (by omega)
            rw [z1] at f2 f3
            have := as_same (c := mir L) e1 h10 hc (room0 e ks) (i31 _ _ _) f1 (by omega) d10 m2 rs rs1 (tp_eq f2 f3)
            refine ⟨.same u v, m5, ?_, ⟨?_, ?_, ?_⟩, by omega, by omega⟩
            · rw [enc]; exact this
            · rw [nms, x1, y1]; rfl
            · rw [depth]; omega
            · rw [size]; omega
    · have hd : ¬ (d : Int) = 0 := fun q => hc (.inl q)
      have hw5 : ¬ n % 10 < 5 := fun q => hc (.inr q)
      cases d with
      | zero => exact absurd rfl hd
      | succ d =>
        have ed : (((d + 1 : Nat) : Int) - 1) = (d : Int) := by omega
        rw [dr] at hb g13 ⊢
        rw [sz] at g7 ⊢
        by_cases w8 : n % 10 < 8
        · obtain ⟨t, m3, f1, ⟨g1, g2, g3⟩, b1, b2⟩ := stat_ok ns hns e ks K d L ar (m + 1) (by omega) ha (by omega) (by omega) (by omega)
          obtain ⟨u, m4, f2, ⟨x1, x2, x3⟩, b3, b4⟩ := stat_ok ns hns e ks K d L ar m3 (by omega) ha (by omega) (by omega) (by omega)
          have gen : ∀ k, dIx (.lst [.str "and", .str "or", .str "if"]) (.int (n % 10 - 5)) = some (.d k) → _ := fun k hk => as_bin (c := mir L) (X := room e ks) (ar := .tup (ar.map D.str)) e1 h10 hd hw5 w8 (by rw [ed]; exact f1) hk (by rw [ed]; exact f2)
          have cs : n % 10 = 5 ∨ n % 10 = 6 ∨ n % 10 = 7 := by omega
          rcases cs with q | q | q
          · refine ⟨.and t u, m4, ?_, ⟨?_, ?_, ?_⟩, by omega, by omega⟩
            · rw [enc]; exact gen _ (by rw [q]; rfl)
            · rw [nms, g1, x1]; rfl
            · rw [depth]; omega
            · rw [size]; omega
          · refine ⟨.or t u, m4, ?_, ⟨?_, ?_, ?_⟩, by omega, by omega⟩
            · rw [enc]; exact gen _ (by rw [q]; rfl)
            · rw [nms, g1, x1]; rfl
            · rw [depth]; omega
            · rw [size]; omega
          · refine ⟨.imp t u, m4, ?_, ⟨?_, ?_, ?_⟩, by omega, by omega⟩
            · rw [enc]; exact gen _ (by rw [q]; rfl)
            · rw [nms, g1, x1]; rfl
            · rw [depth]; omega
            · rw [size]; omega
        · obtain ⟨t, m3, f1, ⟨g1, g2, g3⟩, b1, b2⟩ := stat_ok ns hns e ks K d L (so :: ar) (m + 1) (by omega) (fun a ha2 => by rcases List.mem_cons.mp ha2 with rfl | q; exact sok; exact ha a q) (by rw [List.length_cons]; omega) (by omega) (by omega)
          have aa := add_tt [D.str so] (ar.map D.str) (by rw [List.length_singleton, List.length_map]; omega)
          have gen : ∀ k, dIx (.lst [.str "all", .str "some"]) (.int (n % 10 - 8)) = some (.d k) → _ := fun k hk => as_qu (c := mir L) (X := room e ks) (ar := .tup (ar.map D.str)) e1 h10 hd w8 d10 m2 rs rs1 hk aa (by rw [ed]; exact f1)
          have cs : n % 10 = 8 ∨ n % 10 = 9 := by omega
          rcases cs with q | q
          · refine ⟨.all so t, m3, ?_, ⟨?_, ?_, ?_⟩, by omega, by omega⟩
            · rw [enc]; exact gen _ (by rw [q]; rfl)
            · rw [nms, sok, g1]; rfl
            · rw [depth]; omega
            · rw [size]; omega
          · refine ⟨.some so t, m3, ?_, ⟨?_, ?_, ?_⟩, by omega, by omega⟩
            · rw [enc]; exact gen _ (by rw [q]; rfl)
            · rw [nms, sok, g1]; rfl
            · rw [depth]; omega
            · rw [size]; omega
end L
set_option pp.maxSteps 400
set_option pp.deepTerms false
namespace L
open PySem L2 G
local macro_rules | `(tactic| walk_at "ex") => `(tactic| try simp only [sSeq, sSet, sExpr, sRet, sIf, sAsg, una, escf, escS, opd, eVar, eC, eBin, eUn, eFn, eCall, eTup, eLst, aCons, aNil, fin, rd, rds, R.toS, dsOf, Rs.bind_ok, Rs.bind_bad, Rs.bind_ex, Rs.opt_some, Option.bind_some, Option.map_some, ownAt, eExt, eApp, ePop, List.getElem?_cons_zero, List.getElem?_cons_succ, List.set_cons_zero, List.set_cons_succ, okArg, List.all_cons, List.all_nil, Bool.and_self, if_true, kName, kTup, ksCons, ksNil, fMax, tOf, List.length_cons, List.length_nil, Bool.not_false, Bool.not_true, if_false, Bool.false_eq_true, lm0, lm1, lm2, lm3, lm4, lm5, lm6, lm7, lm8, lm9, lm10, lm11, lm12, fnM, List.map_cons, List.map_nil, List.replicate, List.cons_append, List.nil_append, Nat.reduceAdd, Nat.reduceSub, sNil, tAndM, tOrM, tNotM, tTru, dTru, eIf, dSub_i, dAdd_i, dLt_i, dLe_i, dGt_i, dGe_i, dEq_i, decide_true, decide_false, eChain, eAndM, eSl, oInt, dNeg, dIx, atI0, atI1, atI2, aDef, fTuple, wv_var, wc_var, wj_var, wb_var, wv_call, wc_call, wj_call, wb_call, wv_rel, wc_rel, wj_rel, wb_rel, wv_same, wc_same, wj_same, wb_same, wv_no, wc_no, wj_no, wb_no, wv_and, wc_and, wj_and, wb_and, wv_or, wc_or, wj_or, wb_or, wv_if, wc_if, wj_if, wb_if, wv_all, wc_all, wj_all, wb_all, wv_some, wc_some, wj_some, wb_some])
local macro_rules | `(tactic| walk_at "ey") => `(tactic| try simp only [sSeq, sSet, sExpr, sRet, sIf, sAsg, una, escf, escS, opd, eVar, eC, eBin, eUn, eFn, eCall, eTup, eLst, aCons, aNil, fin, rd, rds, R.toS, dsOf, Rs.bind_ok, Rs.bind_bad, Rs.bind_ex, Rs.opt_some, Option.bind_some, Option.map_some, ownAt, eExt, eApp, ePop, List.getElem?_cons_zero, List.getElem?_cons_succ, List.set_cons_zero, List.set_cons_succ, okArg, List.all_cons, List.all_nil, Bool.and_self, if_true, kName, kTup, ksCons, ksNil, fMax, tOf, List.length_cons, List.length_nil, Bool.not_false, Bool.not_true, if_false, Bool.false_eq_true, lm0, lm1, lm2, lm3, lm4, lm5, lm6, lm7, lm8, lm9, lm10, lm11, lm12, fnM, List.map_cons, List.map_nil, List.replicate, List.cons_append, List.nil_append, Nat.reduceAdd, Nat.reduceSub, sNil, tAndM, tOrM, tNotM, tTru, dTru, eIf, dSub_i, dAdd_i, dLt_i, dLe_i, dGt_i, dGe_i, dEq_i, decide_true, decide_false, eChain, eAndM, eSl, oInt, dNeg, fInt, aDef, fTuple])
/-! loops -/
def rg (k : Nat) : Nat → List D
  | 0 => []
  | n + 1 => .int (k : Int) :: rg (k + 1) n
theorem rg_get : ∀ (n k i : Nat), (rg k n)[i]? = if i < n then some (.int ((k + i : Nat) : Int)) else none
  | 0, k, i => by rw [rg]; simp
  | n + 1, k, 0 => by rw [rg]; simp
  | n + 1, k, i + 1 => by
    rw [rg, List.getElem?_cons_succ, rg_get n (k + 1) i, show k + 1 + i = k + (i + 1) from by omega]
    by_cases q : i < n
    · rw [if_pos q, if_pos (by omega)]
    · rw [if_neg q, if_neg (by omega)]
theorem range_rg (n : Nat) : rangeD 0 n = rg 0 n := by
  refine List.ext_getElem? fun i => ?_
  rw [rg_get]
  unfold rangeD
  rw [List.getElem?_map]
  by_cases q : i < n
  · rw [if_pos q, List.getElem?_range q, Option.map_some]; simp
  · rw [if_neg q, List.getElem?_eq_none (by rw [List.length_range]; omega)]; rfl
theorem for_inv {kk : D → Z Int → Option (Z Int)} {b : Sm M2 Out} {N : Nat} (Inv : Nat → Z Int → Prop) (step : ∀ i z, i < N → Inv i z → ∃ z1 z2, kk (.int (i : Int)) z = some z1 ∧ b z1 = .ok .nx z2 ∧ Inv (i + 1) z2) : ∀ (n i : Nat) (z : Z Int), i + n = N → Inv i z → ∃ z', forL (M := M2) kk b (rg i n) z = .ok .nx z' ∧ Inv N z'
  | 0, i, z, h, hi => ⟨z, rfl, by rw [← h]; exact hi⟩
  | n + 1, i, z, h, hi => by
    obtain ⟨z1, z2, e1, e2, i2⟩ := step i z (by omega) hi
    obtain ⟨z', e, i3⟩ := for_inv Inv step n (i + 1) z2 (by omega) i2
    refine ⟨z', ?_, i3⟩
    rw [rg]
    conv => lhs; unfold forL
    simp only [e1]
    rw [e2]
    exact e
theorem for_list {kk : D → Z Int → Option (Z Int)} {b : Sm M2 Out} (Inv : Z Int → Prop) : ∀ (ds : List D) (z : Z Int), (∀ d ∈ ds, ∀ z, Inv z → ∃ z1 z2, kk d z = some z1 ∧ b z1 = .ok .nx z2 ∧ Inv z2) → Inv z → ∃ z', forL (M := M2) kk b ds z = .ok .nx z' ∧ Inv z'
  | [], z, _, hi => ⟨z, rfl, hi⟩
  | d :: r, z, step, hi => by
    obtain ⟨z1, z2, e1, e2, i2⟩ := step d List.mem_cons_self z hi
    obtain ⟨z', e, i3⟩ := for_list Inv r z2 (fun x hx => step x (List.mem_cons_of_mem _ hx)) i2
    refine ⟨z', ?_, i3⟩
    conv => lhs; unfold forL
    simp only [e1]
    rw [e2]
    exact e
/-! towers -/
def tw (g f k0 : Str) (a : Nat) : Nat → Th
  | 0 => .var 0
  | i + 1 => if i < a then .call g [tw g f k0 a i, .call k0 []] else .call f [tw g f k0 a i]
theorem tw_size (g f k0 : Str) (a : Nat) : ∀ i, size (tw g f k0 a i) = 1 + i + min i a ∧ depth (tw g f k0 a i) = i + 1
  | 0 => by rw [tw, size, depth]; exact ⟨by omega, rfl⟩
  | i + 1 => by
    obtain ⟨h1, h2⟩ := tw_size g f k0 a i
    rw [tw]
    by_cases c : i < a
    · rw [if_pos c, size, depth, sizes, sizes, sizes, depths, depths, depths, size, sizes, depth, depths, h1, h2]
      exact ⟨by omega, by omega⟩
    · rw [if_neg c, size, depth, sizes, sizes, depths, depths, h1, h2]
      exact ⟨by omega, by omega⟩
theorem tw_nms {g f k0 : Str} (hg : PyData.strOk g = true) (hf : PyData.strOk f = true) (hk : PyData.strOk k0 = true) (a : Nat) : ∀ i, nms (tw g f k0 a i) = true
  | 0 => by rw [tw, nms]
  | i + 1 => by
    have h1 := tw_nms hg hf hk a i
    rw [tw]
    by_cases c : i < a
    · rw [if_pos c, nms, nmss, nmss, nmss, nms, nmss, h1, hg, hk]; rfl
    · rw [if_neg c, nms, nmss, nmss, h1, hf]; rfl
def TB : Sm M2 Out := (sIf (tOf (eBin dLt (eVar 4) (eBin dSub (eVar 1) (eVar 2)))) (sSet 3 (eTup (aCons (escf (eC (.str "call"))) (aCons (escf (eBin dIx (eBin dIx (eVar 0) (eC (.int 4))) (eC (.int 1)))) (aCons (escf (eTup (aCons (escf (eVar 3)) (aCons (escf (eTup (aCons (escf (eC (.str "call"))) (aCons (escf (eBin dIx (eBin dIx (eBin dIx (eVar 0) (eC (.int 1))) (eC (.int 2))) (eC (.int 0)))) (aCons (escf (eTup aNil)) aNil))))) aNil)))) aNil))))) (sSet 3 (eTup (aCons (escf (eC (.str "call"))) (aCons (escf (eBin dIx (eBin dIx (eVar 0) (eC (.int 3))) (eC (.int 1)))) (aCons (escf (eTup (aCons (escf (eVar 3)) aNil))) aNil))))))
section
variable {X x1 x3 x4 gn fn kd k0 t : D} {nn dd kk m : Int}
theorem tb_g (h : kk < nn - dd) (r4 : dIx X (.int 4) = some (.d x4)) (r41 : dIx x4 (.int 1) = some (.d gn)) (r1 : dIx X (.int 1) = some (.d x1)) (r12 : dIx x1 (.int 2) = some (.d kd)) (r120 : dIx kd (.int 0) = some (.d k0)) : TB ⟨[some (.d X), some (.d (.int nn)), some (.d (.int dd)), some (.d t), some (.d (.int kk))], m⟩ = .ok .nx ⟨[some (.d X), some (.d (.int nn)), some (.d (.int dd)), some (.d (.tup [.str "call", gn, .tup [t, .tup [.str "call", k0, .tup []]]])), some (.d (.int kk))], m⟩ := by
  unfold TB
  walk_at "ey"
  simp only [h]
  walk_at "ey"
  rw [r4]
  walk_at "ey"
  rw [r41]
  walk_at "ey"
  rw [r1]
  walk_at "ey"
  rw [r12]
  walk_at "ey"
  rw [r120]
  walk_at "ey"
theorem tb_f (h : ¬ kk < nn - dd) (r3 : dIx X (.int 3) = some (.d x3)) (r31 : dIx x3 (.int 1) = some (.d fn)) : TB ⟨[some (.d X), some (.d (.int nn)), some (.d (.int dd)), some (.d t), some (.d (.int kk))], m⟩ = .ok .nx ⟨[some (.d X), some (.d (.int nn)), some (.d (.int dd)), some (.d (.tup [.str "call", fn, .tup [t]])), some (.d (.int kk))], m⟩ := by
  unfold TB
  walk_at "ey"
  simp only [h]
  walk_at "ey"
  rw [r3]
  walk_at "ey"
  rw [r31]
  walk_at "ey"
end
theorem rg1_it {g : Sm M2 (List S)} {z z1 : Z Int} {j : Int} (h : g z = .ok [.d (.int j)] z1) (h0 : 0 ≤ j) (h1 : j ≤ 1000000) : (iRg1M g : Sm M2 (List D)) z = .ok (rg 0 j.toNat) z1 := by
  unfold iRg1M
  rw [h, Rs.bind_ok]
  show (if -(2 ^ 62) ≤ j ∧ j < 2 ^ 62 then Rs.ok (rangeD 0 j.toNat) z1 else .bad) = _
  rw [if_pos (by omega), range_rg]
theorem tower_eq (n : Nat) (e : Str) (k0 : Str) (ks : List Str) (N d : Nat) (m : Int) (hd : d ≤ 900) (h1 : 1 ≤ d) (hN : d ≤ N) : mir (n + 1) ._law_tower [.d (room e (k0 :: ks)), .d (.int (N : Int)), .d (.int (d : Int))] m = .ok (.d (enc (tw (nm "g" e) (nm "f" e) k0 (N - d) (d - 1)))) m := by
  have r120 : dIx (.tup ((k0 :: ks).map D.str)) (.int 0) = some (.d (.str k0)) := by
    show (atI (D.str k0 :: ks.map D.str) ((0 : Nat) : Int)).map R.d = _
    rw [atI_nat (v := .str k0) rfl]
    rfl
  obtain ⟨z', e1, s4, e2⟩ := for_inv (kk := kName (M := M2) 4) (b := TB) (N := d - 1) (fun i z => ∃ s4, z = ⟨[some (.d (room e (k0 :: ks))), some (.d (.int (N : Int))), some (.d (.int (d : Int))), some (.d (enc (tw (nm "g" e) (nm "f" e) k0 (N - d) i))), s4], m⟩) (fun i z hi hz => by
    obtain ⟨s4, rfl⟩ := hz
    refine ⟨⟨[some (.d (room e (k0 :: ks))), some (.d (.int (N : Int))), some (.d (.int (d : Int))), some (.d (enc (tw (nm "g" e) (nm "f" e) k0 (N - d) i))), some (.d (.int (i : Int)))], m⟩, ⟨[some (.d (room e (k0 :: ks))), some (.d (.int (N : Int))), some (.d (.int (d : Int))), some (.d (enc (tw (nm "g" e) (nm "f" e) k0 (N - d) (i + 1)))), some (.d (.int (i : Int)))], m⟩, rfl, ?_, _, rfl⟩
    rw [tw]
    by_cases c : i < N - d
    · rw [if_pos c, enc, encs, encs, encs, enc, encs]
      exact tb_g (by omega) (room4 e _) (i41 _ _ _ _) (room1 e _) (i32 _ _ _) r120
    · rw [if_neg c, enc, encs, encs]
      exact tb_f (by omega) (room3 e _) (i41 _ _ _ _)) (d - 1) 0 ⟨[some (.d (room e (k0 :: ks))), some (.d (.int (N : Int))), some (.d (.int (d : Int))), some (.d (.tup [.str "var", .int 0])), none], m⟩ (by omega) ⟨none, by rw [tw, enc]⟩
  have it := rg1_it (g := aCons (opd (eBin dSub (eVar 2) (eC (.int 1)))) aNil) (z := ⟨[some (.d (room e (k0 :: ks))), some (.d (.int (N : Int))), some (.d (.int (d : Int))), some (.d (.tup [.str "var", .int 0])), none], m⟩) (z1 := ⟨[some (.d (room e (k0 :: ks))), some (.d (.int (N : Int))), some (.d (.int (d : Int))), some (.d (.tup [.str "var", .int 0])), none], m⟩) (j := (d : Int) - 1) (by walk_at "ey") (by omega) (by omega)
  rw [show ((d : Int) - 1).toNat = d - 1 from by omega] at it
  show fnM 5 (m__law_tower (mir n)) _ _ = _
  unfold m__law_tower
  unfold TB at e1
  walk_at "ey"
  simp only [sFor]
  rw [it, Rs.bind_ok, e1, e2]
  walk_at "ey"
/-! the great ones -/
def an (p : Str) (v : Int) : Nat → Th
  | 0 => .rel p [.var v]
  | i + 1 => .and (an p v i) (an p v i)
theorem an_facts {p : Str} (hp : PyData.strOk p = true) (v : Int) : ∀ i, size (an p v i) + 1 = 2 ^ i * 3 ∧ depth (an p v i) = i + 2 ∧ nms (an p v i) = true
  | 0 => by rw [an, size, sizes, sizes, size, depth, depths, depths, depth, nms, nmss, nmss, nms, hp]; exact ⟨by omega, by omega, rfl⟩
  | i + 1 => by
    obtain ⟨h1, h2, h3⟩ := an_facts hp v i
    rw [an, size, depth, nms, h2, h3, Nat.pow_succ]
    exact ⟨by omega, by omega, rfl⟩
theorem lift_an (p : Str) : ∀ i, lift 1 (an p 0 i) 0 = an p 1 i
  | 0 => by rw [an, lift, lifts, lifts, lift, an]; rfl
  | i + 1 => by rw [an, lift, lift_an p i, an]
theorem subV_one (u : Th) (v : Int) : subV [u] v v = lift v u 0 := by
  unfold subV
  rw [show (v - v).toNat = 0 from by omega]
  show (if 0 ≤ v - v then lift v u 0 else .var v) = _
  rw [if_pos (by omega)]
theorem sub_an {p : Str} (hp : PyData.strOk p = true) {u : Th} (hu : nms u = true) (v : Int) : ∀ i, size (sub [u] (an p v i) v) + 1 = 2 ^ i * (2 + size u) ∧ depth (sub [u] (an p v i) v) = i + 1 + depth u ∧ nms (sub [u] (an p v i) v) = true
  | 0 => by
    obtain ⟨l1, l2, l3⟩ := lift_size v u 0
    rw [an, sub, subs, subs, sub, subV_one, size, sizes, sizes, depth, depths, depths, nms, nmss, nmss, l1, l2, l3, hp, hu]
    exact ⟨by omega, by omega, rfl⟩
  | i + 1 => by
    obtain ⟨h1, h2, h3⟩ := sub_an hp hu v i
    rw [an, sub, size, depth, nms, h2, h3, Nat.pow_succ, Nat.mul_assoc, Nat.mul_comm 2, ← Nat.mul_assoc]
    exact ⟨by omega, by omega, rfl⟩
theorem sub_tw {f : Str} (g k0 : Str) (hf : PyData.strOk f = true) {u : Th} (hu : nms u = true) : ∀ i, size (sub [u] (tw g f k0 0 i) 0) = i + size u ∧ depth (sub [u] (tw g f k0 0 i) 0) = i + depth u ∧ nms (sub [u] (tw g f k0 0 i) 0) = true
  | 0 => by
    obtain ⟨l1, l2, l3⟩ := lift_size 0 u 0
    rw [tw, sub, subV_one, l1, l2, l3, hu]
    exact ⟨by omega, by omega, rfl⟩
  | i + 1 => by
    obtain ⟨h1, h2, h3⟩ := sub_tw g k0 hf hu i
    rw [tw, if_neg (by omega), sub, subs, subs, size, sizes, sizes, depth, depths, depths, nms, nmss, nmss, h1, h2, h3, hf]
    exact ⟨by omega, by omega, rfl⟩
def G1 : Sm M2 Out := (sSet 2 (eTup (aCons (escf (eC (.str "and"))) (aCons (escf (eVar 2)) (aCons (escf (eVar 2)) aNil)))))
def G2 (c : Fn → List S → Int → Rs S Int) : Sm M2 Out := (sSeq (sSet 7 (eTup (aCons (escf (eCall (c ._law_tower) (aCons (escf (eVar 0)) (aCons (escf (eC (.int 123))) (aCons (escf (eC (.int 62))) aNil))))) aNil))) (sSeq (sSet 8 (eCall (c ._law_told_by) (aCons (escf (eBin dIx (eVar 4) (eVar 6))) (aCons (escf (eVar 7)) aNil)))) (sIf (tOf (eBin dNe (eVar 8) (eIf (tOf (eBin dLt (eBin dIx (eVar 5) (eVar 6)) (eC (.int 4001)))) (eCall (c ._law_filled) (aCons (escf (eBin dIx (eVar 4) (eVar 6))) (aCons (escf (eC (.int 1))) (aCons (escf (eVar 7)) (aCons (escf (eC (.int 0))) aNil))))) (eC (.str "many"))))) (sRet (eC (.bl false))) sNil)))
def G3 (c : Fn → List S → Int → Rs S Int) : Sm M2 Out := (sSeq (sSet 7 (eTup (aCons (escf (eCall (c ._law_tower) (aCons (escf (eVar 0)) (aCons (escf (eVar 9)) (aCons (escf (eVar 9)) aNil))))) aNil))) (sSeq (sSet 11 (eCall (c ._law_tower) (aCons (escf (eVar 0)) (aCons (escf (eBin dAdd (eVar 10) (eC (.int 1)))) (aCons (escf (eBin dAdd (eVar 10) (eC (.int 1)))) aNil))))) (sSeq (sSet 8 (eCall (c ._law_told_by) (aCons (escf (eVar 11)) (aCons (escf (eVar 7)) aNil)))) (sIf (tOf (eBin dNe (eVar 8) (eIf (tOf (eBin dLt (eBin dAdd (eVar 10) (eVar 9)) (eC (.int 121)))) (eCall (c ._law_filled) (aCons (escf (eVar 11)) (aCons (escf (eC (.int 1))) (aCons (escf (eVar 7)) (aCons (escf (eC (.int 0))) aNil))))) (eC (.str "many"))))) (sRet (eC (.bl false))) sNil))))
section
variable {c : Fn → List S → Int → Rs S Int} {X a r1 r2 u p g f : D} {nn i s m deep more : Int} {s3 s6 s7 s8 s9 s10 s11 : Option S}
theorem g2_yes {l4 l5 : List D} (h1 : c ._law_tower [.d X, .d (.int 123), .d (.int 62)] m = .ok (.d u) m) (h2 : dIx (.lst l4) (.int i) = some (.d p)) (h3 : c ._law_told_by [.d p, .d (.tup [u])] m = .ok (.d g) m) (h4 : dIx (.lst l5) (.int i) = some (.d (.int s))) (hs : s < 4001) (h5 : c ._law_filled [.d p, .d (.int 1), .d (.tup [u]), .d (.int 0)] m = .ok (.d f) m) (h6 : dNe g f = some (.d (.bl false))) : G2 c ⟨[some (.d X), some (.d (.int nn)), some (.d a), s3, some (.l l4), some (.l l5), some (.d (.int i)), s7, s8, s9, s10, s11], m⟩ = .ok .nx ⟨[some (.d X), some (.d (.int nn)), some (.d a), s3, some (.l l4), some (.l l5), some (.d (.int i)), some (.d (.tup [u])), some (.d g), s9, s10, s11], m⟩ := by
  unfold G2
  walk_at "ey"
  rw [h1]
  walk_at "ey"
  rw [h2]
  walk_at "ey"
  rw [h3]
  walk_at "ey"
  rw [h4]
  walk_at "ey"
  simp only [hs]
  walk_at "ey"
  rw [h2]
  walk_at "ey"
  rw [h5]
  walk_at "ey"
  rw [h6]
  walk_at "ey"
theorem g2_no {l4 l5 : List D} (h1 : c ._law_tower [.d X, .d (.int 123), .d (.int 62)] m = .ok (.d u) m) (h2 : dIx (.lst l4) (.int i) = some (.d p)) (h3 : c ._law_told_by [.d p, .d (.tup [u])] m = .ok (.d g) m) (h4 : dIx (.lst l5) (.int i) = some (.d (.int s))) (hs : ¬ s < 4001) (h6 : dNe g (.str "many") = some (.d (.bl false))) : G2 c ⟨[some (.d X), some (.d (.int nn)), some (.d a), s3, some (.l l4), some (.l l5), some (.d (.int i)), s7, s8, s9, s10, s11], m⟩ = .ok .nx ⟨[some (.d X), some (.d (.int nn)), some (.d a), s3, some (.l l4), some (.l l5), some (.d (.int i)), some (.d (.tup [u])), some (.d g), s9, s10, s11], m⟩ := by
  unfold G2
  walk_at "ey"
  rw [h1]
  walk_at "ey"
  rw [h2]
  walk_at "ey"
  rw [h3]
  walk_at "ey"
  rw [h4]
  walk_at "ey"
  simp only [hs]
  walk_at "ey"
  rw [h6]
  walk_at "ey"
theorem g3_yes {s4 s5 : Option S} (h1 : c ._law_tower [.d X, .d (.int deep), .d (.int deep)] m = .ok (.d u) m) (h2 : c ._law_tower [.d X, .d (.int (more + 1)), .d (.int (more + 1))] m = .ok (.d p) m) (h3 : c ._law_told_by [.d p, .d (.tup [u])] m = .ok (.d g) m) (hs : more + deep < 121) (h5 : c ._law_filled [.d p, .d (.int 1), .d (.tup [u]), .d (.int 0)] m = .ok (.d f) m) (h6 : dNe g f = some (.d (.bl false))) : G3 c ⟨[some (.d X), some (.d (.int nn)), some (.d a), s3, s4, s5, s6, s7, s8, some (.d (.int deep)), some (.d (.int more)), s11], m⟩ = .ok .nx ⟨[some (.d X), some (.d (.int nn)), some (.d a), s3, s4, s5, s6, some (.d (.tup [u])), some (.d g), some (.d (.int deep)), some (.d (.int more)), some (.d p)], m⟩ := by
  unfold G3
  walk_at "ey"
  rw [h1]
  walk_at "ey"
  rw [h2]
  walk_at "ey"
  rw [h3]
  walk_at "ey"
  simp only [hs]
  walk_at "ey"
  rw [h5]
  walk_at "ey"
  rw [h6]
  walk_at "ey"
theorem g3_no {s4 s5 : Option S} (h1 : c ._law_tower [.d X, .d (.int deep), .d (.int deep)] m = .ok (.d u) m) (h2 : c ._law_tower [.d X, .d (.int (more + 1)), .d (.int (more + 1))] m = .ok (.d p) m) (h3 : c ._law_told_by [.d p, .d (.tup [u])] m = .ok (.d g) m) (hs : ¬ more + deep < 121) (h6 : dNe g (.str "many") = some (.d (.bl false))) : G3 c ⟨[some (.d X), some (.d (.int nn)), some (.d a), s3, s4, s5, s6, s7, s8, some (.d (.int deep)), some (.d (.int more)), s11], m⟩ = .ok .nx ⟨[some (.d X), some (.d (.int nn)), some (.d a), s3, s4, s5, s6, some (.d (.tup [u])), some (.d g), some (.d (.int deep)), some (.d (.int more)), some (.d p)], m⟩ := by
  unfold G3
  walk_at "ey"
  rw [h1]
  walk_at "ey"
  rw [h2]
  walk_at "ey"
  rw [h3]
  walk_at "ey"
  simp only [hs]
  walk_at "ey"
  rw [h6]
  walk_at "ey"
end
theorem t1 (u : Th) : ([some u].map od) = [enc u] := rfl
theorem fil_one (n : Nat) (u t : Th) (m : Int) (hu : depth u ≤ 130 ∧ size u ≤ 900000) (ht : depth t ≤ n) (hs : size t ≤ 900000) : mir (n + 132) ._law_filled [.d (enc t), .d (.int 1), .d (.tup [enc u]), .d (.int 0)] m = .ok (.d (enc (sub [u] t 0))) m := by
  have := fil_eq (us := [u]) (fun x hx => by rcases List.mem_singleton.mp hx with rfl; exact hu) n t 0 m ht hs
  rw [encs, encs] at this
  exact this
theorem told_y1 (n : Nat) (u t : Th) (m : Int) (hu : depth u ≤ 130 ∧ size u ≤ 900000 ∧ nms u = true) (ht : depth t ≤ n) (hs : size t ≤ 900000) (hn : nms t = true) (g : size (sub [u] t 0) ≤ 4000 ∧ depth (sub [u] t 0) ≤ 120) : mir (n + 135) ._law_told_by [.d (enc t), .d (.tup [enc u])] m = .ok (.d (enc (sub [u] t 0))) m :=
  told_yes n t [some u] m (fun o ho => by rcases List.mem_singleton.mp ho with rfl; exact hu) (by simp) hs hn ht g
theorem told_n1 (n : Nat) (u t : Th) (m : Int) (hu : size u ≤ 900000 ∧ nms u = true) (hs : size t ≤ 900000) (hn : nms t = true) (g : ¬ (size (sub [u] t 0) ≤ 4000 ∧ depth (sub [u] t 0) ≤ 120)) : mir (n + 135) ._law_told_by [.d (enc t), .d (.tup [enc u])] m = .ok (.d (.str "many")) m :=
  told_no n t [some u] m (fun o ho => by rcases List.mem_singleton.mp ho with rfl; exact hu) (by simp) hs hn g
/-- the rows of patterns -/
def r4 (e : Str) : List D := [enc (an (nm "p" e) 0 5), enc (.all (nm "s" e) (an (nm "p" e) 1 5)), enc (.and (an (nm "p" e) 0 5) .no)]
def r5 : List D := [.int 3999, .int 4000, .int 4001]
theorem loop2 (n : Nat) (e k0 : Str) (ks : List Str) (K : RmOk e (k0 :: ks)) (nn m : Int) (s3 : Option S) : ∃ s6 s7 s8, forL (M := M2) (kName 6) (G2 (mir (n + 150))) (rg 0 3) ⟨[some (.d (room e (k0 :: ks))), some (.d (.int nn)), some (.d (enc (an (nm "p" e) 0 5))), s3, some (.l (r4 e)), some (.l r5), none, none, none, none, none, none], m⟩ = .ok .nx ⟨[some (.d (room e (k0 :: ks))), some (.d (.int nn)), some (.d (enc (an (nm "p" e) 0 5))), s3, some (.l (r4 e)), some (.l r5), s6, s7, s8, none, none, none], m⟩ := by
  have pk := nm_ok "p" K.ok
  have sk := nm_ok "s" K.ok
  obtain ⟨u, hu⟩ : ∃ u, u = tw (nm "g" e) (nm "f" e) k0 61 61 := ⟨_, rfl⟩
  have us : size u = 123 ∧ depth u = 62 := by rw [hu]; have := tw_size (nm "g" e) (nm "f" e) k0 61 61; omega
  have un : nms u = true := by rw [hu]; exact tw_nms (nm_ok "g" K.ok) (nm_ok "f" K.ok) (K.kok k0 List.mem_cons_self) 61 61
  have tq := tower_eq (n + 149) e k0 ks 123 62 m (by omega) (by omega) (by omega)
  rw [show 123 - 62 = 61 from rfl, ← hu] at tq
  obtain ⟨a1, a2, a3⟩ := an_facts pk 0 5
  obtain ⟨b1, b2, b3⟩ := an_facts pk 1 5
  obtain ⟨c1, c2, c3⟩ := sub_an pk un 0 5
  obtain ⟨d1, d2, d3⟩ := sub_an pk un 1 5
  have p5 : 2 ^ 5 = 32 := rfl
  rw [p5] at a1 b1 c1 d1
  have key : ∀ (i : Nat) (s7 s8 : Option S), i < 3 → ∃ s7' s8', G2 (mir (n + 150)) ⟨[some (.d (room e (k0 :: ks))), some (.d (.int nn)), some (.d (enc (an (nm "p" e) 0 5))), s3, some (.l (r4 e)), some (.l r5), some (.d (.int (i : Int))), s7, s8, none, none, none], m⟩ = .ok .nx ⟨[some (.d (room e (k0 :: ks))), some (.d (.int nn)), some (.d (enc (an (nm "p" e) 0 5))), s3, some (.l (r4 e)), some (.l r5), some (.d (.int (i : Int))), s7', s8', none, none, none], m⟩ := by
    intro i s7 s8 hi
    have cs : i = 0 ∨ i = 1 ∨ i = 2 := by omega
    rcases cs with rfl | rfl | rfl
    · exact ⟨_, _, g2_yes (c := mir (n + 150)) tq rfl (told_y1 (n + 15) u _ m ⟨by omega, by omega, un⟩ (by omega) (by omega) a3 ⟨by omega, by omega⟩) rfl (by decide) (fil_one (n + 18) u _ m ⟨by omega, by omega⟩ (by omega) (by omega)) (ne_same _ c3 (by omega))⟩
    · have e1 : size (Th.all (nm "s" e) (an (nm "p" e) 1 5)) = 96 ∧ depth (Th.all (nm "s" e) (an (nm "p" e) 1 5)) = 8 ∧ nms (Th.all (nm "s" e) (an (nm "p" e) 1 5)) = true := by
        rw [size, depth, nms, b3, sk]; exact ⟨by omega, by omega, rfl⟩
      have e2 : size (sub [u] (Th.all (nm "s" e) (an (nm "p" e) 1 5)) 0) = 4000 ∧ depth (sub [u] (Th.all (nm "s" e) (an (nm "p" e) 1 5)) 0) = 69 ∧ nms (sub [u] (Th.all (nm "s" e) (an (nm "p" e) 1 5)) 0) = true := by
        rw [sub, show (0 : Int) + 1 = 1 from rfl, size, depth, nms, d3, sk]; exact ⟨by omega, by omega, rfl⟩
      exact ⟨_, _, g2_yes (c := mir (n + 150)) tq rfl (told_y1 (n + 15) u _ m ⟨by omega, by omega, un⟩ (by omega) (by omega) e1.2.2 ⟨by omega, by omega⟩) rfl (by decide) (fil_one (n + 18) u _ m ⟨by omega, by omega⟩ (by omega) (by omega)) (ne_same _ e2.2.2 (by omega))⟩
    · have e1 : size (Th.and (an (nm "p" e) 0 5) .no) = 97 ∧ depth (Th.and (an (nm "p" e) 0 5) .no) = 8 ∧ nms (Th.and (an (nm "p" e) 0 5) .no) = true := by
        rw [size, size, depth, depth, nms, nms, a3]; exact ⟨by omega, by omega, rfl⟩
      have e2 : size (sub [u] (Th.and (an (nm "p" e) 0 5) .no) 0) = 4001 := by
        rw [sub, sub, size, size]; omega
      exact ⟨_, _, g2_no (c := mir (n + 150)) tq rfl (told_n1 (n + 15) u _ m ⟨by omega, un⟩ (by omega) e1.2.2 (by omega)) rfl (by decide) ne_many⟩
  obtain ⟨z', e1, s6, s7, s8, rfl⟩ := for_inv (kk := kName (M := M2) 6) (b := G2 (mir (n + 150))) (N := 3) (fun _ z => ∃ s6 s7 s8, z = ⟨[some (.d (room e (k0 :: ks))), some (.d (.int nn)), some (.d (enc (an (nm "p" e) 0 5))), s3, some (.l (r4 e)), some (.l r5), s6, s7, s8, none, none, none], m⟩) (fun i z hi hz => by
    obtain ⟨s6, s7, s8, rfl⟩ := hz
    obtain ⟨s7', s8', e⟩ := key i s7 s8 hi
    exact ⟨_, _, rfl, e, _, _, _, rfl⟩) 3 0 _ (by omega) ⟨none, none, none, rfl⟩
  exact ⟨s6, s7, s8, e1⟩
theorem loop3 (n : Nat) (e k0 : Str) (ks : List Str) (K : RmOk e (k0 :: ks)) (nn m : Int) (deep : Nat) (h1 : 110 ≤ deep) (h2 : deep < 120) (s3 s4 s5 s6 s7 s8 : Option S) : ∃ s7' s8' s10' s11', forL (M := M2) (kName 10) (G3 (mir (n + 150))) [.int (119 - (deep : Int)), .int (120 - (deep : Int)), .int (121 - (deep : Int))] ⟨[some (.d (room e (k0 :: ks))), some (.d (.int nn)), some (.d (enc (an (nm "p" e) 0 5))), s3, s4, s5, s6, s7, s8, some (.d (.int (deep : Int))), none, none], m⟩ = .ok .nx ⟨[some (.d (room e (k0 :: ks))), some (.d (.int nn)), some (.d (enc (an (nm "p" e) 0 5))), s3, s4, s5, s6, s7', s8', some (.d (.int (deep : Int))), s10', s11'], m⟩ := by
  have fk := nm_ok "f" K.ok
  obtain ⟨u, hu⟩ : ∃ u, u = tw (nm "g" e) (nm "f" e) k0 0 (deep - 1) := ⟨_, rfl⟩
  have us : size u = deep ∧ depth u = deep := by rw [hu]; have := tw_size (nm "g" e) (nm "f" e) k0 0 (deep - 1); omega
  have un : nms u = true := by rw [hu]; exact tw_nms (nm_ok "g" K.ok) fk (K.kok k0 List.mem_cons_self) 0 (deep - 1)
  have tq := tower_eq (n + 149) e k0 ks deep deep m (by omega) (by omega) (by omega)
  rw [show deep - deep = 0 from by omega, ← hu] at tq
  have key : ∀ (more : Nat) (s7 s8 s11 : Option S), more + deep ≤ 121 → ∃ s7' s8' s11', G3 (mir (n + 150)) ⟨[some (.d (room e (k0 :: ks))), some (.d (.int nn)), some (.d (enc (an (nm "p" e) 0 5))), s3, s4, s5, s6, s7, s8, some (.d (.int (deep : Int))), some (.d (.int (more : Int))), s11], m⟩ = .ok .nx ⟨[some (.d (room e (k0 :: ks))), some (.d (.int nn)), some (.d (enc (an (nm "p" e) 0 5))), s3, s4, s5, s6, s7', s8', some (.d (.int (deep : Int))), some (.d (.int (more : Int))), s11'], m⟩ := by
    intro more s7 s8 s11 hi
    have pq := tower_eq (n + 149) e k0 ks (more + 1) (more + 1) m (by omega) (by omega) (by omega)
    rw [show more + 1 - (more + 1) = 0 from by omega, show more + 1 - 1 = more from by omega, show ((more + 1 : Nat) : Int) = (more : Int) + 1 from by omega] at pq
    obtain ⟨a1, a2⟩ := tw_size (nm "g" e) (nm "f" e) k0 0 more
    have a3 := tw_nms (nm_ok "g" K.ok) fk (K.kok k0 List.mem_cons_self) 0 more
    obtain ⟨c1, c2, c3⟩ := sub_tw (nm "g" e) k0 fk un more
    by_cases q : more + deep < 121
    · exact ⟨_, _, _, g3_yes (c := mir (n + 150)) tq pq (told_y1 (n + 15) u _ m ⟨by omega, by omega, un⟩ (by omega) (by omega) a3 ⟨by omega, by omega⟩) (by omega) (fil_one (n + 18) u _ m ⟨by omega, by omega⟩ (by omega) (by omega)) (ne_same _ c3 (by omega))⟩
    · exact ⟨_, _, _, g3_no (c := mir (n + 150)) tq pq (told_n1 (n + 15) u _ m ⟨by omega, un⟩ (by omega) a3 (by omega)) (by omega) ne_many⟩
  obtain ⟨z', e1, s7', s8', s10', s11', rfl⟩ := for_list (kk := kName (M := M2) 10) (b := G3 (mir (n + 150))) (fun z => ∃ s7 s8 s10 s11, z = ⟨[some (.d (room e (k0 :: ks))), some (.d (.int nn)), some (.d (enc (an (nm "p" e) 0 5))), s3, s4, s5, s6, s7, s8, some (.d (.int (deep : Int))), s10, s11], m⟩) [.int (119 - (deep : Int)), .int (120 - (deep : Int)), .int (121 - (deep : Int))] ⟨[some (.d (room e (k0 :: ks))), some (.d (.int nn)), some (.d (enc (an (nm "p" e) 0 5))), s3, s4, s5, s6, s7, s8, some (.d (.int (deep : Int))), none, none], m⟩ (fun d hd z hz => by
    obtain ⟨s7, s8, s10, s11, rfl⟩ := hz
    obtain ⟨more, hm, rfl⟩ : ∃ more : Nat, more + deep ≤ 121 ∧ d = .int (more : Int) := by
      simp only [List.mem_cons, List.mem_nil_iff, or_false] at hd
      rcases hd with rfl | rfl | rfl
      · exact ⟨119 - deep, by omega, by congr 1; omega⟩
      · exact ⟨120 - deep, by omega, by congr 1; omega⟩
      · exact ⟨121 - deep, by omega, by congr 1; omega⟩
    obtain ⟨s7', s8', s11', e⟩ := key more s7 s8 s11 hm
    exact ⟨_, _, rfl, e, _, _, _, _, rfl⟩) ⟨s7, s8, none, none, rfl⟩
  exact ⟨s7', s8', s10', s11', e1⟩
theorem loop1 (X : D) (p : Str) (nn m : Int) : ∃ s3, forL (M := M2) (kName 3) G1 (rg 0 5) ⟨[some (.d X), some (.d (.int nn)), some (.d (enc (an p 0 0))), none, none, none, none, none, none, none, none, none], m⟩ = .ok .nx ⟨[some (.d X), some (.d (.int nn)), some (.d (enc (an p 0 5))), s3, none, none, none, none, none, none, none, none], m⟩ := by
  obtain ⟨z', e1, s3, rfl⟩ := for_inv (kk := kName (M := M2) 3) (b := G1) (N := 5) (fun i z => ∃ s3, z = ⟨[some (.d X), some (.d (.int nn)), some (.d (enc (an p 0 i))), s3, none, none, none, none, none, none, none, none], m⟩) (fun i z hi hz => by
    obtain ⟨s3, rfl⟩ := hz
    refine ⟨⟨[some (.d X), some (.d (.int nn)), some (.d (enc (an p 0 i))), some (.d (.int (i : Int))), none, none, none, none, none, none, none, none], m⟩, ⟨[some (.d X), some (.d (.int nn)), some (.d (enc (an p 0 (i + 1)))), some (.d (.int (i : Int))), none, none, none, none, none, none, none, none], m⟩, rfl, ?_, _, rfl⟩
    rw [an, enc]
    unfold G1
    walk_at "ey") 5 0 _ (by omega) ⟨none, rfl⟩
  exact ⟨s3, e1⟩
theorem gr_gen {c : Fn → List S → Int → Rs S Int} {X x5 P x0 S0 a b : D} {nn q m : Int} {s3 s6 s7 s8 s7' s8' s10' s11' : Option S} (q5 : dIx X (.int 5) = some (.d x5)) (q51 : dIx x5 (.int 1) = some (.d P)) (q0 : dIx X (.int 0) = some (.d x0)) (q01 : dIx x0 (.int 1) = some (.d S0))
    (l1 : forL (M := M2) (kName 3) G1 (rg 0 5) ⟨[some (.d X), some (.d (.int nn)), some (.d (.tup [.str "rel", P, .tup [.tup [.str "var", .int 0]]])), none, none, none, none, none, none, none, none, none], m⟩ = .ok .nx ⟨[some (.d X), some (.d (.int nn)), some (.d a), s3, none, none, none, none, none, none, none, none], m⟩)
    (lp : c ._law_put [.d (.tup [.str "raise", .int 1]), .d a, .d (.int 0)] m = .ok (.d b) m)
    (l2 : forL (M := M2) (kName 6) (G2 c) (rg 0 3) ⟨[some (.d X), some (.d (.int nn)), some (.d a), s3, some (.l [a, .tup [.str "all", S0, b], .tup [.str "and", a, .tup [.str "no"]]]), some (.l r5), none, none, none, none, none, none], m⟩ = .ok .nx ⟨[some (.d X), some (.d (.int nn)), some (.d a), s3, some (.l [a, .tup [.str "all", S0, b], .tup [.str "and", a, .tup [.str "no"]]]), some (.l r5), s6, s7, s8, none, none, none], m⟩)
    (hm : dMod (.int nn) (.int 10) = some (.d (.int q)))
    (l3 : forL (M := M2) (kName 10) (G3 c) [.int (119 - (110 + q)), .int (120 - (110 + q)), .int (121 - (110 + q))] ⟨[some (.d X), some (.d (.int nn)), some (.d a), s3, some (.l [a, .tup [.str "all", S0, b], .tup [.str "and", a, .tup [.str "no"]]]), some (.l r5), s6, s7, s8, some (.d (.int (110 + q))), none, none], m⟩ = .ok .nx ⟨[some (.d X), some (.d (.int nn)), some (.d a), s3, some (.l [a, .tup [.str "all", S0, b], .tup [.str "and", a, .tup [.str "no"]]]), some (.l r5), s6, s7', s8', some (.d (.int (110 + q))), s10', s11'], m⟩) :
    fnM 12 (m__law_great_right c) [.d X, .d (.int nn)] m = .ok (.d (.bl true)) m := by
  unfold G1 at l1
  unfold G2 r5 at l2
  unfold G3 r5 at l3
  have i5 := fun z => rg1_it (g := aCons (opd (eC (.int 5))) aNil) (z := z) (z1 := z) (j := 5) rfl (by omega) (by omega)
  have i3 := fun z => rg1_it (g := aCons (opd (eC (.int 3))) aNil) (z := z) (z1 := z) (j := 3) rfl (by omega) (by omega)
  rw [show ((5 : Int)).toNat = 5 from rfl] at i5
  rw [show ((3 : Int)).toNat = 3 from rfl] at i3
  unfold m__law_great_right
  walk_at "ey"
  rw [q5]
  walk_at "ey"
  rw [q51]
  walk_at "ey"
  simp only [sFor]
  rw [i5, Rs.bind_ok, l1]
  walk_at "ey"
  rw [q0]
  walk_at "ey"
  rw [q01]
  walk_at "ey"
  rw [lp]
  walk_at "ey"
  rw [i3, Rs.bind_ok, l2]
  walk_at "ey"
  rw [hm]
  walk_at "ey"
  simp only [iAnyM]
  walk_at "ey"
  simp only [itemsD]
  walk_at "ey"
  rw [l3]
  walk_at "ey"
theorem great_ok (n : Nat) (e : Str) (ks : List Str) (K : RmOk e ks) (nn m : Int) (h0 : 0 ≤ nn) : mir (n + 151) ._law_great_right [.d (room e ks), .d (.int nn)] m = .ok (.d (.bl true)) m := by
  cases ks with
  | nil => exact absurd K.lo (by simp)
  | cons k0 ks =>
    have hm := modA nn 10 (by omega)
    obtain ⟨q, hq⟩ : ∃ q : Nat, nn % 10 = (q : Int) := ⟨(nn % 10).toNat, by omega⟩
    have ql : q < 10 := by omega
    rw [hq] at hm
    have pk := nm_ok "p" K.ok
    obtain ⟨a1, a2, a3⟩ := an_facts pk 0 5
    rw [show 2 ^ 5 = 32 from rfl] at a1
    obtain ⟨s3, l1⟩ := loop1 (room e (k0 :: ks)) (nm "p" e) nn m
    obtain ⟨s6, s7, s8, l2⟩ := loop2 n e k0 ks K nn m s3
    obtain ⟨t7, t8, t10, t11, l3⟩ := loop3 n e k0 ks K nn m (110 + q) (by omega) (by omega) s3 (some (.l (r4 e))) (some (.l r5)) s6 s7 s8
    have lp := lput_eq (k := 1) (n + 149) (an (nm "p" e) 0 5) 0 m (by omega) (by omega)
    rw [lift_an] at lp
    rw [an, enc, encs, encs, enc] at l1
    rw [show ((110 + q : Nat) : Int) = 110 + (q : Int) from by omega] at l3
    unfold r4 at l2 l3
    have ea : enc (Th.all (nm "s" e) (an (nm "p" e) 1 5)) = .tup [.str "all", .str (nm "s" e), enc (an (nm "p" e) 1 5)] := by rw [enc]
    have eb : enc (Th.and (an (nm "p" e) 0 5) .no) = .tup [.str "and", enc (an (nm "p" e) 0 5), .tup [.str "no"]] := by rw [enc, enc]
    rw [ea, eb] at l2 l3
    exact gr_gen (c := mir (n + 150)) (room5 e _) (i31 _ _ _) (room0 e _) (i31 _ _ _) l1 lp l2 hm l3
end L
set_option pp.maxSteps 400
set_option pp.deepTerms false
namespace L
open PySem L2 G
local macro_rules | `(tactic| walk_at "ex") => `(tactic| try simp only [sSeq, sSet, sExpr, sRet, sIf, sAsg, una, escf, escS, opd, eVar, eC, eBin, eUn, eFn, eCall, eTup, eLst, aCons, aNil, fin, rd, rds, R.toS, dsOf, Rs.bind_ok, Rs.bind_bad, Rs.bind_ex, Rs.opt_some, Option.bind_some, Option.map_some, ownAt, eExt, eApp, ePop, List.getElem?_cons_zero, List.getElem?_cons_succ, List.set_cons_zero, List.set_cons_succ, okArg, List.all_cons, List.all_nil, Bool.and_self, if_true, kName, kTup, ksCons, ksNil, fMax, tOf, List.length_cons, List.length_nil, Bool.not_false, Bool.not_true, if_false, Bool.false_eq_true, lm0, lm1, lm2, lm3, lm4, lm5, lm6, lm7, lm8, lm9, lm10, lm11, lm12, fnM, List.map_cons, List.map_nil, List.replicate, List.cons_append, List.nil_append, Nat.reduceAdd, Nat.reduceSub, sNil, tAndM, tOrM, tNotM, tTru, dTru, eIf, dSub_i, dAdd_i, dLt_i, dLe_i, dGt_i, dGe_i, dEq_i, decide_true, decide_false, eChain, eAndM, eSl, oInt, dNeg, dIx, atI0, atI1, atI2, aDef, fTuple, wv_var, wc_var, wj_var, wb_var, wv_call, wc_call, wj_call, wb_call, wv_rel, wc_rel, wj_rel, wb_rel, wv_same, wc_same, wj_same, wb_same, wv_no, wc_no, wj_no, wb_no, wv_and, wc_and, wj_and, wb_and, wv_or, wc_or, wj_or, wb_or, wv_if, wc_if, wj_if, wb_if, wv_all, wc_all, wj_all, wb_all, wv_some, wc_some, wj_some, wb_some])
local macro_rules | `(tactic| walk_at "ey") => `(tactic| try simp only [sSeq, sSet, sExpr, sRet, sIf, sAsg, una, escf, escS, opd, eVar, eC, eBin, eUn, eFn, eCall, eTup, eLst, aCons, aNil, fin, rd, rds, R.toS, dsOf, Rs.bind_ok, Rs.bind_bad, Rs.bind_ex, Rs.opt_some, Option.bind_some, Option.map_some, ownAt, eExt, eApp, ePop, List.getElem?_cons_zero, List.getElem?_cons_succ, List.set_cons_zero, List.set_cons_succ, okArg, List.all_cons, List.all_nil, Bool.and_self, if_true, kName, kTup, ksCons, ksNil, fMax, tOf, List.length_cons, List.length_nil, Bool.not_false, Bool.not_true, if_false, Bool.false_eq_true, lm0, lm1, lm2, lm3, lm4, lm5, lm6, lm7, lm8, lm9, lm10, lm11, lm12, fnM, List.map_cons, List.map_nil, List.replicate, List.cons_append, List.nil_append, Nat.reduceAdd, Nat.reduceSub, sNil, tAndM, tOrM, tNotM, tTru, dTru, eIf, dSub_i, dAdd_i, dLt_i, dLe_i, dGt_i, dGe_i, dEq_i, decide_true, decide_false, eChain, eAndM, eSl, oInt, dNeg, fInt, aDef, fTuple])
/-! the law's loop -/
def B5 (c : Fn → List S → Int → Rs S Int) : Sm M2 Out := (sSet 5 (eCall (c ._law_cell) (aCons (escf (eVar 1)) (aCons (escf (eVar 2)) aNil))))
def B6 (c : Fn → List S → Int → Rs S Int) : Sm M2 Out := (sSet 6 (eFn fTuple (aCons (opd (eLc (iRg1M (aCons (opd (eBin dMod (eVar 5) (eC (.int 4)))) aNil)) (kName 17) (fun z => .ok true z) (eBin dIx (eBin dIx (eVar 3) (eBin dBand (eBin dShr (eBin dFdiv (eVar 5) (eC (.int 4))) (eVar 17)) (eC (.int 1)))) (eC (.int 1))) [17])) aNil)))
def B7 (c : Fn → List S → Int → Rs S Int) : Sm M2 Out := (sSet 7 (eFn fTuple (aCons (opd (eLc (iRg1M (aCons (opd (eBin dMod (eBin dFdiv (eVar 5) (eC (.int 128))) (eC (.int 3)))) aNil)) (kName 17) (fun z => .ok true z) (eBin dIx (eBin dIx (eVar 3) (eBin dBand (eBin dShr (eBin dFdiv (eVar 5) (eC (.int 32))) (eVar 17)) (eC (.int 1)))) (eC (.int 1))) [17])) aNil)))
def B8 (c : Fn → List S → Int → Rs S Int) : Sm M2 Out := (sSet 8 (eCall (c ._law_any_statement) (aCons (escf (eVar 3)) (aCons (escf (eVar 1)) (aCons (escf (eVar 2)) (aCons (escf (eBin dAdd (eVar 6) (eVar 7))) (aCons (escf (eBin dMod (eBin dFdiv (eVar 5) (eC (.int 384))) (eC (.int 4)))) aNil)))))))
def B8b (c : Fn → List S → Int → Rs S Int) : Sm M2 Out := (sIf (tOf (eBin dEq (eBin dMod (eBin dFdiv (eVar 5) (eC (.int 1536))) (eC (.int 3))) (eC (.int 0)))) (sSet 8 (eCall (c ._law_any_term) (aCons (escf (eVar 3)) (aCons (escf (eVar 1)) (aCons (escf (eVar 2)) (aCons (escf (eBin dAdd (eVar 6) (eVar 7))) (aCons (escf (eBin dIx (eBin dIx (eVar 3) (eC (.int 0))) (eC (.int 1)))) (aCons (escf (eC (.int 4))) aNil)))))))) sNil)
def B9 (c : Fn → List S → Int → Rs S Int) : Sm M2 Out := (sSet 9 (eLc (iAnyM (eCall (c ._law_spots) (aCons (escf (eVar 8)) (aCons (escf (eFn fLen (aCons (opd (eVar 6)) aNil))) (aCons (escf (eC (.int 0))) (aCons (escf (eTup aNil)) aNil)))))) (kTup 3 (ksCons (kName 14) (ksCons (kName 15) (ksCons (kName 16) ksNil)))) (fun z => .ok true z) (eVar 14) [14, 15, 16]))
def B10 (c : Fn → List S → Int → Rs S Int) : Sm M2 Out := (sSet 10 (eFn fTuple (aCons (opd (eLc (iAnyM (eVar 6)) (kName 18) (fun z => .ok true z) (eCall (c ._law_any_term) (aCons (escf (eVar 3)) (aCons (escf (eVar 1)) (aCons (escf (eVar 2)) (aCons (escf (eVar 7)) (aCons (escf (eVar 18)) (aCons (escf (eC (.int 2))) aNil))))))) [18])) aNil)))
def B11 (c : Fn → List S → Int → Rs S Int) : Sm M2 Out := (sSet 11 (eFn fTuple (aCons (opd (eLc (iEnM (eVar 10)) (kTup 2 (ksCons (kName 14) (ksCons (kName 19) ksNil))) (fun z => .ok true z) (eIf (tOf (eBin dIn (eVar 14) (eVar 9))) (eVar 19) (eC .non)) [14, 19])) aNil)))
def B12 (c : Fn → List S → Int → Rs S Int) : Sm M2 Out := (sSet 12 (eCall (c ._law_filled) (aCons (escf (eVar 8)) (aCons (escf (eFn fLen (aCons (opd (eVar 6)) aNil))) (aCons (escf (eVar 10)) (aCons (escf (eC (.int 0))) aNil))))))
def B13 (c : Fn → List S → Int → Rs S Int) : Sm M2 Out := (sIf (tOrM (tOf (eBin dNe (eCall (c ._law_told_by) (aCons (escf (eVar 8)) (aCons (escf (eVar 10)) aNil))) (eVar 12))) (tOf (eBin dNe (eCall (c ._law_told_by) (aCons (escf (eVar 8)) (aCons (escf (eVar 11)) aNil))) (eVar 12)))) (sRet (eC (.bl false))) sNil)
def L6 : Sm M2 S := (eLc (iRg1M (aCons (opd (eBin dMod (eVar 5) (eC (.int 4)))) aNil)) (kName 17) (fun z => .ok true z) (eBin dIx (eBin dIx (eVar 3) (eBin dBand (eBin dShr (eBin dFdiv (eVar 5) (eC (.int 4))) (eVar 17)) (eC (.int 1)))) (eC (.int 1))) [17])
def L7 : Sm M2 S := (eLc (iRg1M (aCons (opd (eBin dMod (eBin dFdiv (eVar 5) (eC (.int 128))) (eC (.int 3)))) aNil)) (kName 17) (fun z => .ok true z) (eBin dIx (eBin dIx (eVar 3) (eBin dBand (eBin dShr (eBin dFdiv (eVar 5) (eC (.int 32))) (eVar 17)) (eC (.int 1)))) (eC (.int 1))) [17])
def L9 (c : Fn → List S → Int → Rs S Int) : Sm M2 S := (eLc (iAnyM (eCall (c ._law_spots) (aCons (escf (eVar 8)) (aCons (escf (eFn fLen (aCons (opd (eVar 6)) aNil))) (aCons (escf (eC (.int 0))) (aCons (escf (eTup aNil)) aNil)))))) (kTup 3 (ksCons (kName 14) (ksCons (kName 15) (ksCons (kName 16) ksNil)))) (fun z => .ok true z) (eVar 14) [14, 15, 16])
def L10 (c : Fn → List S → Int → Rs S Int) : Sm M2 S := (eLc (iAnyM (eVar 6)) (kName 18) (fun z => .ok true z) (eCall (c ._law_any_term) (aCons (escf (eVar 3)) (aCons (escf (eVar 1)) (aCons (escf (eVar 2)) (aCons (escf (eVar 7)) (aCons (escf (eVar 18)) (aCons (escf (eC (.int 2))) aNil))))))) [18])
def L11 : Sm M2 S := (eLc (iEnM (eVar 10)) (kTup 2 (ksCons (kName 14) (ksCons (kName 19) ksNil))) (fun z => .ok true z) (eIf (tOf (eBin dIn (eVar 14) (eVar 9))) (eVar 19) (eC .non)) [14, 19])
theorem seq_nx {a b : Sm M2 Out} {z z1 : Z Int} (h : a z = .ok .nx z1) : sSeq a b z = b z1 := by
  unfold sSeq
  rw [h, Rs.bind_ok]
def lst (s0 : Option S) (cs X : D) (s4 s5 s6 s7 s8 s9 s10 s11 s12 : Option S) : List (Option S) := [s0, some (.d cs), some (.m 0), some (.d X), s4, s5, s6, s7, s8, s9, s10, s11, s12, none, none, none, none, none, none, none]
section
variable {c : Fn → List S → Int → Rs S Int} {s0 s4 s5 s6 s7 s8 s9 s10 s11 s12 : Option S} {cs X : D} {n m m1 : Int}
theorem b5 (h : c ._law_cell [.d cs, .m 0] m = .ok (.d (.int n)) m1) : B5 c ⟨lst s0 cs X s4 s5 s6 s7 s8 s9 s10 s11 s12, m⟩ = .ok .nx ⟨lst s0 cs X s4 (some (.d (.int n))) s6 s7 s8 s9 s10 s11 s12, m1⟩ := by
  unfold B5 lst
  walk_at "ey"
  rw [h]
  walk_at "ey"
theorem b6 {xs : List D} (h : L6 ⟨lst s0 cs X s4 (some (.d (.int n))) s6 s7 s8 s9 s10 s11 s12, m⟩ = .ok (.l xs) ⟨lst s0 cs X s4 (some (.d (.int n))) s6 s7 s8 s9 s10 s11 s12, m⟩) : B6 c ⟨lst s0 cs X s4 (some (.d (.int n))) s6 s7 s8 s9 s10 s11 s12, m⟩ = .ok .nx ⟨lst s0 cs X s4 (some (.d (.int n))) (some (.d (.tup xs))) s7 s8 s9 s10 s11 s12, m⟩ := by
  unfold L6 lst at h
  unfold B6 lst
  walk_at "ey"
  rw [h]
  walk_at "ey"
theorem b7 {xs : List D} (h : L7 ⟨lst s0 cs X s4 (some (.d (.int n))) s6 s7 s8 s9 s10 s11 s12, m⟩ = .ok (.l xs) ⟨lst s0 cs X s4 (some (.d (.int n))) s6 s7 s8 s9 s10 s11 s12, m⟩) : B7 c ⟨lst s0 cs X s4 (some (.d (.int n))) s6 s7 s8 s9 s10 s11 s12, m⟩ = .ok .nx ⟨lst s0 cs X s4 (some (.d (.int n))) s6 (some (.d (.tup xs))) s8 s9 s10 s11 s12, m⟩ := by
  unfold L7 lst at h
  unfold B7 lst
  walk_at "ey"
  rw [h]
  walk_at "ey"
theorem b8 {o6 o7 o67 : List D} {p : D} {q j : Int} (h1 : dAdd (.tup o6) (.tup o7) = some (.t o67)) (h2 : dFdiv (.int n) (.int 384) = some (.d (.int q))) (h3 : dMod (.int q) (.int 4) = some (.d (.int j))) (h : c ._law_any_statement [.d X, .d cs, .m 0, .d (.tup o67), .d (.int j)] m = .ok (.d p) m1) : B8 c ⟨lst s0 cs X s4 (some (.d (.int n))) (some (.d (.tup o6))) (some (.d (.tup o7))) s8 s9 s10 s11 s12, m⟩ = .ok .nx ⟨lst s0 cs X s4 (some (.d (.int n))) (some (.d (.tup o6))) (some (.d (.tup o7))) (some (.d p)) s9 s10 s11 s12, m1⟩ := by
  unfold B8 lst
  walk_at "ey"
  rw [h1]
  walk_at "ey"
  rw [h2]
  walk_at "ey"
  rw [h3]
  walk_at "ey"
  rw [h]
  walk_at "ey"
theorem b8b_no {o6 o7 : List D} {q j : Int} (h2 : dFdiv (.int n) (.int 1536) = some (.d (.int q))) (h3 : dMod (.int q) (.int 3) = some (.d (.int j))) (hj : ¬ j = 0) : B8b c ⟨lst s0 cs X s4 (some (.d (.int n))) (some (.d (.tup o6))) (some (.d (.tup o7))) s8 s9 s10 s11 s12, m⟩ = .ok .nx ⟨lst s0 cs X s4 (some (.d (.int n))) (some (.d (.tup o6))) (some (.d (.tup o7))) s8 s9 s10 s11 s12, m⟩ := by
  unfold B8b lst
  walk_at "ey"
  rw [h2]
  walk_at "ey"
  rw [h3]
  walk_at "ey"
  simp only [hj]
  walk_at "ey"
theorem b8b_yes {o6 o7 o67 : List D} {p x0 S0 : D} {q j : Int} (h2 : dFdiv (.int n) (.int 1536) = some (.d (.int q))) (h3 : dMod (.int q) (.int 3) = some (.d (.int j))) (hj : j = 0) (h1 : dAdd (.tup o6) (.tup o7) = some (.t o67)) (r0 : dIx X (.int 0) = some (.d x0)) (r01 : dIx x0 (.int 1) = some (.d S0)) (h : c ._law_any_term [.d X, .d cs, .m 0, .d (.tup o67), .d S0, .d (.int 4)] m = .ok (.d p) m1) : B8b c ⟨lst s0 cs X s4 (some (.d (.int n))) (some (.d (.tup o6))) (some (.d (.tup o7))) s8 s9 s10 s11 s12, m⟩ = .ok .nx ⟨lst s0 cs X s4 (some (.d (.int n))) (some (.d (.tup o6))) (some (.d (.tup o7))) (some (.d p)) s9 s10 s11 s12, m1⟩ := by
  unfold B8b lst
  walk_at "ey"
  rw [h2]
  walk_at "ey"
  rw [h3]
  walk_at "ey"
  simp only [hj]
  walk_at "ey"
  rw [h1]
  walk_at "ey"
  rw [r0]
  walk_at "ey"
  rw [r01]
  walk_at "ey"
  rw [h]
  walk_at "ey"
theorem b9 {o6 o7 xs : List D} {p : D} (h : L9 c ⟨lst s0 cs X s4 (some (.d (.int n))) (some (.d (.tup o6))) (some (.d (.tup o7))) (some (.d p)) s9 s10 s11 s12, m⟩ = .ok (.l xs) ⟨lst s0 cs X s4 (some (.d (.int n))) (some (.d (.tup o6))) (some (.d (.tup o7))) (some (.d p)) s9 s10 s11 s12, m⟩) : B9 c ⟨lst s0 cs X s4 (some (.d (.int n))) (some (.d (.tup o6))) (some (.d (.tup o7))) (some (.d p)) s9 s10 s11 s12, m⟩ = .ok .nx ⟨lst s0 cs X s4 (some (.d (.int n))) (some (.d (.tup o6))) (some (.d (.tup o7))) (some (.d p)) (some (.l xs)) s10 s11 s12, m⟩ := by
  unfold L9 lst at h
  unfold B9 lst
  walk_at "ey"
  rw [h]
  walk_at "ey"
theorem b10 {o6 o7 o9 xs : List D} {p : D} (h : L10 c ⟨lst s0 cs X s4 (some (.d (.int n))) (some (.d (.tup o6))) (some (.d (.tup o7))) (some (.d p)) (some (.l o9)) s10 s11 s12, m⟩ = .ok (.l xs) ⟨lst s0 cs X s4 (some (.d (.int n))) (some (.d (.tup o6))) (some (.d (.tup o7))) (some (.d p)) (some (.l o9)) s10 s11 s12, m1⟩) : B10 c ⟨lst s0 cs X s4 (some (.d (.int n))) (some (.d (.tup o6))) (some (.d (.tup o7))) (some (.d p)) (some (.l o9)) s10 s11 s12, m⟩ = .ok .nx ⟨lst s0 cs X s4 (some (.d (.int n))) (some (.d (.tup o6))) (some (.d (.tup o7))) (some (.d p)) (some (.l o9)) (some (.d (.tup xs))) s11 s12, m1⟩ := by
  unfold L10 lst at h
  unfold B10 lst
  walk_at "ey"
  rw [h]
  walk_at "ey"
theorem b11 {o6 o7 o9 o10 xs : List D} {p : D} (h : L11 ⟨lst s0 cs X s4 (some (.d (.int n))) (some (.d (.tup o6))) (some (.d (.tup o7))) (some (.d p)) (some (.l o9)) (some (.d (.tup o10))) s11 s12, m⟩ = .ok (.l xs) ⟨lst s0 cs X s4 (some (.d (.int n))) (some (.d (.tup o6))) (some (.d (.tup o7))) (some (.d p)) (some (.l o9)) (some (.d (.tup o10))) s11 s12, m⟩) : B11 c ⟨lst s0 cs X s4 (some (.d (.int n))) (some (.d (.tup o6))) (some (.d (.tup o7))) (some (.d p)) (some (.l o9)) (some (.d (.tup o10))) s11 s12, m⟩ = .ok .nx ⟨lst s0 cs X s4 (some (.d (.int n))) (some (.d (.tup o6))) (some (.d (.tup o7))) (some (.d p)) (some (.l o9)) (some (.d (.tup o10))) (some (.d (.tup xs))) s12, m⟩ := by
  unfold L11 lst at h
  unfold B11 lst
  walk_at "ey"
  rw [h]
  walk_at "ey"
theorem b12 {o6 o7 o9 o10 o11 : List D} {p f : D} {ln : Int} (h1 : fLen [.tup o6] = some (.d (.int ln))) (h : c ._law_filled [.d p, .d (.int ln), .d (.tup o10), .d (.int 0)] m = .ok (.d f) m) : B12 c ⟨lst s0 cs X s4 (some (.d (.int n))) (some (.d (.tup o6))) (some (.d (.tup o7))) (some (.d p)) (some (.l o9)) (some (.d (.tup o10))) (some (.d (.tup o11))) s12, m⟩ = .ok .nx ⟨lst s0 cs X s4 (some (.d (.int n))) (some (.d (.tup o6))) (some (.d (.tup o7))) (some (.d p)) (some (.l o9)) (some (.d (.tup o10))) (some (.d (.tup o11))) (some (.d f)), m⟩ := by
  unfold B12 lst
  walk_at "ey"
  rw [h1]
  walk_at "ey"
  rw [h]
  walk_at "ey"
theorem b13 {o6 o7 o9 o10 o11 : List D} {p f : D} (h1 : c ._law_told_by [.d p, .d (.tup o10)] m = .ok (.d f) m) (h2 : c ._law_told_by [.d p, .d (.tup o11)] m = .ok (.d f) m) (h : dNe f f = some (.d (.bl false))) : B13 c ⟨lst s0 cs X s4 (some (.d (.int n))) (some (.d (.tup o6))) (some (.d (.tup o7))) (some (.d p)) (some (.l o9)) (some (.d (.tup o10))) (some (.d (.tup o11))) (some (.d f)), m⟩ = .ok .nx ⟨lst s0 cs X s4 (some (.d (.int n))) (some (.d (.tup o6))) (some (.d (.tup o7))) (some (.d p)) (some (.l o9)) (some (.d (.tup o10))) (some (.d (.tup o11))) (some (.d f)), m⟩ := by
  unfold B13 lst
  walk_at "ey"
  rw [h1]
  walk_at "ey"
  rw [h]
  walk_at "ey"
  rw [h2]
  walk_at "ey"
  rw [h]
  walk_at "ey"
end
/-- the names of a row of sorts -/
def nms2 (e : Str) (q : Int) (k : Nat) : List Str := (List.range k).map fun (i : Nat) => if q / 2 ^ i % 2 = 0 then nm "s" e else nm "m" e
theorem nms2_ok {e : Str} (h : PyData.strOk e = true) (q : Int) (k : Nat) : ∀ a ∈ nms2 e q k, PyData.strOk a = true := by
  intro a ha
  obtain ⟨i, _, rfl⟩ := List.mem_map.mp ha
  split <;> exact nm_ok _ h
theorem nms2_len (e : Str) (q : Int) (k : Nat) : (nms2 e q k).length = k := by unfold nms2; rw [List.length_map, List.length_range]
theorem bandA (x : Int) : dBand (.int x) (.int 1) = some (.d (.int (x % 2))) := by
  show some (R.d (D.int (Builtin.bitAnd x 1))) = _
  rw [PyProof.Rows.bitAnd_m1]
theorem shrA (x : Int) (i : Nat) : dShr (.int x) (.int (0 + (i : Int))) = some (.d (.int (x / 2 ^ i))) := by
  have q : dShr (.int x) (.int (0 + (i : Int))) = some (.d (.int (x / 2 ^ ((0 : Int) + (i : Int)).toNat))) := by
    unfold dShr dI
    exact if_pos (decide_eq_true (show (0 : Int) ≤ 0 + (i : Int) by omega))
  rw [q, show ((0 : Int) + (i : Int)).toNat = i from by omega]
theorem room_b (e : Str) (ks : List Str) (x : Int) : ∃ xs, dIx (room e ks) (.int (x % 2)) = some (.d xs) ∧ dIx xs (.int 1) = some (.d (.str (if x % 2 = 0 then nm "s" e else nm "m" e))) := by
  have : x % 2 = 0 ∨ x % 2 = 1 := by omega
  rcases this with q | q
  · rw [q]; exact ⟨_, room0 e ks, i31 _ _ _⟩
  · rw [q]; exact ⟨_, room1 e ks, i31 _ _ _⟩
theorem l6_ok {s0 s4 s6 s7 s8 s9 s10 s11 s12 : Option S} {cs : D} (e : Str) (ks : List Str) (n m : Int) : L6 ⟨lst s0 cs (room e ks) s4 (some (.d (.int n))) s6 s7 s8 s9 s10 s11 s12, m⟩ = .ok (.l ((nms2 e (n / 4) (n % 4).toNat).map D.str)) ⟨lst s0 cs (room e ks) s4 (some (.d (.int n))) s6 s7 s8 s9 s10 s11 s12, m⟩ := by
  unfold nms2
  rw [List.map_map]
  unfold lst L6
  refine elc_map (M := M2) (fun i : Nat => D.int (0 + (i : Int))) (ts := List.range (n % 4).toNat) ?_ rfl (by rw [List.length_range]; show _ ≤ 1000000; omega) (fun i _ => ?_)
  · have it := rg1_it (g := (aCons (opd (eBin dMod (eVar 5) (eC (.int 4)))) aNil)) (z := ⟨lst s0 cs (room e ks) s4 (some (.d (.int n))) s6 s7 s8 s9 s10 s11 s12, m⟩) (z1 := ⟨lst s0 cs (room e ks) s4 (some (.d (.int n))) s6 s7 s8 s9 s10 s11 s12, m⟩) (j := n % 4) (by
      unfold lst
      walk_at "ey"
      rw [modA _ _ (by omega)]
      walk_at "ey") (by omega) (by omega)
    rw [← range_rg] at it
    exact it
  · obtain ⟨xs, r1, r2⟩ := room_b e ks (n / 4 / 2 ^ i)
    skip
    walk_at "ey"
    rw [divA _ _ (by omega)]
    walk_at "ey"
    rw [shrA]
    walk_at "ey"
    rw [bandA]
    walk_at "ey"
    rw [r1]
    walk_at "ey"
    rw [r2]
    walk_at "ey"
    rfl
theorem l7_ok {s0 s4 s6 s7 s8 s9 s10 s11 s12 : Option S} {cs : D} (e : Str) (ks : List Str) (n m : Int) : L7 ⟨lst s0 cs (room e ks) s4 (some (.d (.int n))) s6 s7 s8 s9 s10 s11 s12, m⟩ = .ok (.l ((nms2 e (n / 32) (n / 128 % 3).toNat).map D.str)) ⟨lst s0 cs (room e ks) s4 (some (.d (.int n))) s6 s7 s8 s9 s10 s11 s12, m⟩ := by
  unfold nms2
  rw [List.map_map]
  unfold lst L7
  refine elc_map (M := M2) (fun i : Nat => D.int (0 + (i : Int))) (ts := List.range (n / 128 % 3).toNat) ?_ rfl (by rw [List.length_range]; show _ ≤ 1000000; omega) (fun i _ => ?_)
  · have it := rg1_it (g := (aCons (opd (eBin dMod (eBin dFdiv (eVar 5) (eC (.int 128))) (eC (.int 3)))) aNil)) (z := ⟨lst s0 cs (room e ks) s4 (some (.d (.int n))) s6 s7 s8 s9 s10 s11 s12, m⟩) (z1 := ⟨lst s0 cs (room e ks) s4 (some (.d (.int n))) s6 s7 s8 s9 s10 s11 s12, m⟩) (j := n / 128 % 3) (by
      unfold lst
      walk_at "ey"
      rw [divA _ _ (by omega)]
      walk_at "ey"
      rw [modA _ _ (by omega)]
      walk_at "ey") (by omega) (by omega)
    rw [← range_rg] at it
    exact it
  · obtain ⟨xs, r1, r2⟩ := room_b e ks (n / 32 / 2 ^ i)
    skip
    walk_at "ey"
    rw [divA _ _ (by omega)]
    walk_at "ey"
    rw [shrA]
    walk_at "ey"
    rw [bandA]
    walk_at "ey"
    rw [r1]
    walk_at "ey"
    rw [r2]
    walk_at "ey"
    rfl
theorem l9_loop (rho : List (Option S)) (m : Int) (hr : ∃ a0 a1 a2 a3 a4 a5 a6 a7 a8 a9 a10 a11 a12 a13, rho = [a0, a1, a2, a3, a4, a5, a6, a7, a8, a9, a10, a11, a12, a13, none, none, none, none, none, none]) : ∀ (xs : List Sp3) (acc : List D), acc.length + xs.length ≤ lim →
    lcL (M := M2) (kTup 3 (ksCons (kName 14) (ksCons (kName 15) (ksCons (kName 16) ksNil)))) (fun z => .ok true z) (eVar 14) [14, 15, 16] (xs.map en3) acc ⟨rho, m⟩ = .ok (acc ++ xs.map fun x => D.int x.1) ⟨rho, m⟩
  | [], acc, _ => by rw [List.map_nil, List.map_nil, List.append_nil]; rfl
  | x :: r, acc, hl => by
    rw [List.length_cons] at hl
    have ih := l9_loop rho m hr r (acc ++ [.int x.1]) (by rw [List.length_append, List.length_singleton]; omega)
    obtain ⟨a0, a1, a2, a3, a4, a5, a6, a7, a8, a9, a10, a11, a12, a13, rfl⟩ := hr
    rw [List.map_cons, List.map_cons, en3]
    conv => lhs; unfold lcL
    walk_at "ey"
    simp only [nox]
    walk_at "ey"
    rw [if_pos (by omega)]
    refine Eq.trans ih ?_
    rw [List.append_assoc]
    rfl
theorem l9_ok {c : Fn → List S → Int → Rs S Int} {s0 s4 s5 s7 s9 s10 s11 s12 : Option S} {cs X : D} {o6 : List D} {t : Th} {m : Int} {xs : List Sp3} (h : c ._law_spots [.d (enc t), .d (.int (o6.length : Nat)), .d (.int 0), .d (.tup [])] m = .ok (.l (xs.map en3)) m) (hl : xs.length ≤ lim) : L9 c ⟨lst s0 cs X s4 s5 (some (.d (.tup o6))) s7 (some (.d (enc t))) s9 s10 s11 s12, m⟩ = .ok (.l (xs.map fun x => D.int x.1)) ⟨lst s0 cs X s4 s5 (some (.d (.tup o6))) s7 (some (.d (enc t))) s9 s10 s11 s12, m⟩ := by
  have lp := l9_loop (lst s0 cs X s4 s5 (some (.d (.tup o6))) s7 (some (.d (enc t))) s9 s10 s11 s12) m ⟨_, _, _, _, _, _, _, _, _, _, _, _, _, _, rfl⟩ xs [] (by rw [List.length_nil]; omega)
  have it : (iAnyM (eCall (c ._law_spots) (aCons (escf (eVar 8)) (aCons (escf (eFn fLen (aCons (opd (eVar 6)) aNil))) (aCons (escf (eC (.int 0))) (aCons (escf (eTup aNil)) aNil))))) : Sm M2 (List D)) ⟨lst s0 cs X s4 s5 (some (.d (.tup o6))) s7 (some (.d (enc t))) s9 s10 s11 s12, m⟩ = .ok (xs.map en3) ⟨lst s0 cs X s4 s5 (some (.d (.tup o6))) s7 (some (.d (enc t))) s9 s10 s11 s12, m⟩ := by
    unfold lst
    simp only [iAnyM]
    walk_at "ey"
    simp only [fLen]
    walk_at "ey"
    rw [h]
    walk_at "ey"
    simp only [itemsD]
    walk_at "ey"
  have wz : wipeZ (M := M2) ⟨lst s0 cs X s4 s5 (some (.d (.tup o6))) s7 (some (.d (enc t))) s9 s10 s11 s12, m⟩ [14, 15, 16] = ⟨lst s0 cs X s4 s5 (some (.d (.tup o6))) s7 (some (.d (enc t))) s9 s10 s11 s12, m⟩ := rfl
  unfold L9 eLc
  rw [it, Rs.bind_ok, if_pos (by rfl), wz, lp, Rs.bind_ok, List.nil_append]
  rfl
theorem l10_loop {s0 s4 s5 s6 s8 s9 s10 s11 s12 : Option S} (ns : List Int) (hns : ns.length ≤ 1000) (e : Str) (ks : List Str) (K : RmOk e ks) (L : Nat) (hL : 4 ≤ L) (ar : List Str) (ha : ∀ a ∈ ar, PyData.strOk a = true) (har : ar.length ≤ 1000) : ∀ (so : List Str) (acc : List D) (m : Int), (∀ a ∈ so, PyData.strOk a = true) → acc.length + so.length ≤ lim → 0 ≤ m → m + 7 * (so.length : Nat) ≤ 10000000000000 →
    ∃ (ts : List Th) (m' : Int), lcL (M := M2) (kName 18) (fun z => .ok true z) (eCall (mir L ._law_any_term) (aCons (escf (eVar 3)) (aCons (escf (eVar 1)) (aCons (escf (eVar 2)) (aCons (escf (eVar 7)) (aCons (escf (eVar 18)) (aCons (escf (eC (.int 2))) aNil))))))) [18] (so.map D.str) acc ⟨lst s0 (cl ns) (room e ks) s4 s5 s6 (some (.d (.tup (ar.map D.str)))) s8 s9 s10 s11 s12, m⟩ = .ok (acc ++ encs ts) ⟨lst s0 (cl ns) (room e ks) s4 s5 s6 (some (.d (.tup (ar.map D.str)))) s8 s9 s10 s11 s12, m'⟩ ∧ ts.length = so.length ∧ (∀ t ∈ ts, Gd 3 5 t) ∧ m ≤ m' ∧ m' ≤ m + 7 * (so.length : Nat)
  | [], acc, m, _, _, _, _ => ⟨[], m, by rw [List.map_nil, encs, List.append_nil]; rfl, rfl, fun t ht => (by cases ht), by omega, by simp⟩
  | a :: r, acc, m, hs, hl, h0, hb => by
    rw [List.length_cons] at hl hb
    obtain ⟨t, m1, f1, g1, b1, b2⟩ := term_ok ns hns e ks K 2 L ar a m (by omega) ha har (hs a List.mem_cons_self) h0 (by omega)
    obtain ⟨ts, m2, f2, l2, g2, b3, b4⟩ := l10_loop (s0 := s0) (s4 := s4) (s5 := s5) (s6 := s6) (s8 := s8) (s9 := s9) (s10 := s10) (s11 := s11) (s12 := s12) ns hns e ks K L hL ar ha har r (acc ++ [enc t]) m1 (fun x hx => hs x (List.mem_cons_of_mem _ hx)) (by rw [List.length_append, List.length_singleton]; omega) (by omega) (by omega)
    refine ⟨t :: ts, m2, ?_, by rw [List.length_cons, List.length_cons, l2], fun x hx => ?_, by omega, by rw [List.length_cons]; omega⟩
    · rw [encs, List.map_cons]
      rw [List.append_assoc] at f2
      refine Eq.trans ?_ f2
      have z2 : (((2 : Nat) : Nat) : Int) = 2 := rfl
      rw [z2] at f1
      conv => lhs; unfold lcL
      unfold lst
      walk_at "ey"
      simp only [nox]
      walk_at "ey"
      rw [f1]
      walk_at "ey"
      try simp only [nox]
      walk_at "ey"
      rw [if_pos (by omega)]
      rfl
    · rcases List.mem_cons.mp hx with rfl | hx
      · exact g1
      · exact g2 x hx
theorem l10_ok {s0 s4 s5 s8 s9 s10 s11 s12 : Option S} (ns : List Int) (hns : ns.length ≤ 1000) (e : Str) (ks : List Str) (K : RmOk e ks) (L : Nat) (hL : 4 ≤ L) (so ar : List Str) (m : Int) (ha : ∀ a ∈ ar, PyData.strOk a = true) (har : ar.length ≤ 1000) (hs : ∀ a ∈ so, PyData.strOk a = true) (hsl : so.length ≤ 3) (h0 : 0 ≤ m) (hb : m + 21 ≤ 10000000000000) :
    ∃ (ts : List Th) (m' : Int), L10 (mir L) ⟨lst s0 (cl ns) (room e ks) s4 s5 (some (.d (.tup (so.map D.str)))) (some (.d (.tup (ar.map D.str)))) s8 s9 s10 s11 s12, m⟩ = .ok (.l (encs ts)) ⟨lst s0 (cl ns) (room e ks) s4 s5 (some (.d (.tup (so.map D.str)))) (some (.d (.tup (ar.map D.str)))) s8 s9 s10 s11 s12, m'⟩ ∧ ts.length = so.length ∧ (∀ t ∈ ts, Gd 3 5 t) ∧ m ≤ m' ∧ m' ≤ m + 21 := by
  obtain ⟨ts, m', f, l, g, b1, b2⟩ := l10_loop (s0 := s0) (s4 := s4) (s5 := s5) (s6 := some (.d (.tup (so.map D.str)))) (s8 := s8) (s9 := s9) (s10 := s10) (s11 := s11) (s12 := s12) ns hns e ks K L hL ar ha har so [] m hs (by rw [List.length_nil]; show _ ≤ 1000000; omega) h0 (by omega)
  refine ⟨ts, m', ?_, l, g, b1, by omega⟩
  have it : (iAnyM (eVar 6) : Sm M2 (List D)) ⟨lst s0 (cl ns) (room e ks) s4 s5 (some (.d (.tup (so.map D.str)))) (some (.d (.tup (ar.map D.str)))) s8 s9 s10 s11 s12, m⟩ = .ok (so.map D.str) ⟨lst s0 (cl ns) (room e ks) s4 s5 (some (.d (.tup (so.map D.str)))) (some (.d (.tup (ar.map D.str)))) s8 s9 s10 s11 s12, m⟩ := rfl
  have wz : wipeZ (M := M2) ⟨lst s0 (cl ns) (room e ks) s4 s5 (some (.d (.tup (so.map D.str)))) (some (.d (.tup (ar.map D.str)))) s8 s9 s10 s11 s12, m⟩ [18] = ⟨lst s0 (cl ns) (room e ks) s4 s5 (some (.d (.tup (so.map D.str)))) (some (.d (.tup (ar.map D.str)))) s8 s9 s10 s11 s12, m⟩ := rfl
  unfold L10 eLc
  rw [it, Rs.bind_ok, if_pos (by rfl), wz, f, Rs.bind_ok, List.nil_append]
  rfl
theorem in_ints (i : Int) (xs : List Int) : dIn (.int i) (.lst (xs.map D.int)) = some (.d (.bl (decide (i ∈ xs)))) := by
  have h1 : (xs.map D.int).all flatD = true := by
    rw [List.all_eq_true]
    intro d hd
    obtain ⟨x, _, rfl⟩ := List.mem_map.mp hd
    rfl
  have h2 : inD (.int i) (xs.map D.int) = decide (i ∈ xs) := by
    unfold inD
    rw [List.any_map]
    apply Bool.eq_iff_iff.mpr
    rw [List.any_eq_true, decide_eq_true_iff]
    constructor
    · rintro ⟨x, hx, hq⟩
      have : (x == i) = true := hq
      rw [beq_iff_eq] at this
      exact this ▸ hx
    · intro hx
      exact ⟨i, hx, show (i == i) = true from beq_self_eq_true i⟩
  have h3 : dInB (.int i) (.lst (xs.map D.int)) = some (inD (.int i) (xs.map D.int)) := if_pos ⟨rfl, h1⟩
  unfold dIn
  rw [h3, h2]
  rfl
/-- the terms that stand somewhere -/
def som (ps : List Int) : List Th → Nat → List (Option Th)
  | [], _ => []
  | t :: r, k => (if (k : Int) ∈ ps then some t else none) :: som ps r (k + 1)
theorem som_len (ps : List Int) : ∀ (ts : List Th) (k : Nat), (som ps ts k).length = ts.length
  | [], k => by rw [som]; rfl
  | t :: r, k => by rw [som, List.length_cons, List.length_cons, som_len ps r]
theorem som_get (ps : List Int) : ∀ (ts : List Th) (k i : Nat), ((k + i : Nat) : Int) ∈ ps → ((som ps ts k).map o0)[i]? = ts[i]?
  | [], k, i, _ => by rw [som]; rfl
  | t :: r, k, 0, h => by rw [som, Nat.add_zero] at *; rw [if_pos h]; rfl
  | t :: r, k, i + 1, h => by
    rw [som, List.map_cons, List.getElem?_cons_succ, List.getElem?_cons_succ]
    exact som_get ps r (k + 1) i (by rw [show k + 1 + i = k + (i + 1) from by omega]; exact h)
theorem som_mem (ps : List Int) : ∀ (ts : List Th) (k : Nat) (o : Option Th), o ∈ som ps ts k → o = none ∨ ∃ t ∈ ts, o = some t
  | [], k, o, h => by rw [som] at h; cases h
  | t :: r, k, o, h => by
    rw [som] at h
    rcases List.mem_cons.mp h with rfl | h
    · split
      · exact .inr ⟨t, List.mem_cons_self, rfl⟩
      · exact .inl rfl
    · rcases som_mem ps r (k + 1) o h with q | ⟨u, hu, q⟩
      · exact .inl q
      · exact .inr ⟨u, List.mem_cons_of_mem _ hu, q⟩
theorem l11_loop {s0 s4 s5 s6 s7 s8 s10 s11 s12 : Option S} {cs X : D} (ps : List Int) (m : Int) : ∀ (ts : List Th) (k : Nat) (acc : List D), acc.length + ts.length ≤ lim →
    lcL (M := M2) (kTup 2 (ksCons (kName 14) (ksCons (kName 19) ksNil))) (fun z => .ok true z) (eIf (tOf (eBin dIn (eVar 14) (eVar 9))) (eVar 19) (eC .non)) [14, 19] (enl k (encs ts)) acc ⟨lst s0 cs X s4 s5 s6 s7 s8 (some (.l (ps.map D.int))) s10 s11 s12, m⟩ = .ok (acc ++ (som ps ts k).map od) ⟨lst s0 cs X s4 s5 s6 s7 s8 (some (.l (ps.map D.int))) s10 s11 s12, m⟩
  | [], k, acc, _ => by rw [encs, enl, som, List.map_nil, List.append_nil]; rfl
  | t :: r, k, acc, hl => by
    rw [List.length_cons] at hl
    rw [encs, enl, som, List.map_cons]
    have ih := l11_loop (s0 := s0) (s4 := s4) (s5 := s5) (s6 := s6) (s7 := s7) (s8 := s8) (s10 := s10) (s11 := s11) (s12 := s12) (cs := cs) (X := X) ps m r (k + 1)
    conv => lhs; unfold lcL
    conv => lhs; unfold lst
    walk_at "ey"
    simp only [nox]
    walk_at "ey"
    rw [in_ints]
    walk_at "ey"
    by_cases q : (k : Int) ∈ ps
    · simp only [q]
      walk_at "ey"
      try simp only [nox]
      walk_at "ey"
      rw [if_pos (by omega)]
      refine (ih (acc ++ [enc t]) (by rw [List.length_append, List.length_singleton]; omega)).trans ?_
      rw [List.append_assoc]
      rfl
    · simp only [q]
      walk_at "ey"
      try simp only [nox]
      walk_at "ey"
      rw [if_pos (by omega)]
      refine (ih (acc ++ [.non]) (by rw [List.length_append, List.length_singleton]; omega)).trans ?_
      rw [List.append_assoc]
      rfl
theorem l11_ok {s0 s4 s5 s6 s7 s8 s11 s12 : Option S} {cs X : D} (ps : List Int) (ts : List Th) (m : Int) (hl : ts.length ≤ lim) : L11 ⟨lst s0 cs X s4 s5 s6 s7 s8 (some (.l (ps.map D.int))) (some (.d (.tup (encs ts)))) s11 s12, m⟩ = .ok (.l ((som ps ts 0).map od)) ⟨lst s0 cs X s4 s5 s6 s7 s8 (some (.l (ps.map D.int))) (some (.d (.tup (encs ts)))) s11 s12, m⟩ := by
  have it : (iEnM (eVar 10) : Sm M2 (List D)) ⟨lst s0 cs X s4 s5 s6 s7 s8 (some (.l (ps.map D.int))) (some (.d (.tup (encs ts)))) s11 s12, m⟩ = .ok (enl 0 (encs ts)) ⟨lst s0 cs X s4 s5 s6 s7 s8 (some (.l (ps.map D.int))) (some (.d (.tup (encs ts)))) s11 s12, m⟩ := by
    unfold lst
    simp only [iEnM]
    walk_at "ey"
    rw [enumD_enl]
  have lp := l11_loop (s0 := s0) (s4 := s4) (s5 := s5) (s6 := s6) (s7 := s7) (s8 := s8) (s10 := some (.d (.tup (encs ts)))) (s11 := s11) (s12 := s12) (cs := cs) (X := X) ps m ts 0 [] (by rw [List.length_nil]; omega)
  have wz : wipeZ (M := M2) ⟨lst s0 cs X s4 s5 s6 s7 s8 (some (.l (ps.map D.int))) (some (.d (.tup (encs ts)))) s11 s12, m⟩ [14, 19] = ⟨lst s0 cs X s4 s5 s6 s7 s8 (some (.l (ps.map D.int))) (some (.d (.tup (encs ts)))) s11 s12, m⟩ := rfl
  unfold L11 eLc
  rw [it, Rs.bind_ok, if_pos (by rfl), wz, lp, Rs.bind_ok, List.nil_append]
  rfl
end L
set_option pp.maxSteps 400
set_option pp.deepTerms false
namespace L
open PySem L2 G
local macro_rules | `(tactic| walk_at "ex") => `(tactic| try simp only [sSeq, sSet, sExpr, sRet, sIf, sAsg, una, escf, escS, opd, eVar, eC, eBin, eUn, eFn, eCall, eTup, eLst, aCons, aNil, fin, rd, rds, R.toS, dsOf, Rs.bind_ok, Rs.bind_bad, Rs.bind_ex, Rs.opt_some, Option.bind_some, Option.map_some, ownAt, eExt, eApp, ePop, List.getElem?_cons_zero, List.getElem?_cons_succ, List.set_cons_zero, List.set_cons_succ, okArg, List.all_cons, List.all_nil, Bool.and_self, if_true, kName, kTup, ksCons, ksNil, fMax, tOf, List.length_cons, List.length_nil, Bool.not_false, Bool.not_true, if_false, Bool.false_eq_true, lm0, lm1, lm2, lm3, lm4, lm5, lm6, lm7, lm8, lm9, lm10, lm11, lm12, fnM, List.map_cons, List.map_nil, List.replicate, List.cons_append, List.nil_append, Nat.reduceAdd, Nat.reduceSub, sNil, tAndM, tOrM, tNotM, tTru, dTru, eIf, dSub_i, dAdd_i, dLt_i, dLe_i, dGt_i, dGe_i, dEq_i, decide_true, decide_false, eChain, eAndM, eSl, oInt, dNeg, dIx, atI0, atI1, atI2, aDef, fTuple, wv_var, wc_var, wj_var, wb_var, wv_call, wc_call, wj_call, wb_call, wv_rel, wc_rel, wj_rel, wb_rel, wv_same, wc_same, wj_same, wb_same, wv_no, wc_no, wj_no, wb_no, wv_and, wc_and, wj_and, wb_and, wv_or, wc_or, wj_or, wb_or, wv_if, wc_if, wj_if, wb_if, wv_all, wc_all, wj_all, wb_all, wv_some, wc_some, wj_some, wb_some])
local macro_rules | `(tactic| walk_at "ey") => `(tactic| try simp only [sSeq, sSet, sExpr, sRet, sIf, sAsg, una, escf, escS, opd, eVar, eC, eBin, eUn, eFn, eCall, eTup, eLst, aCons, aNil, fin, rd, rds, R.toS, dsOf, Rs.bind_ok, Rs.bind_bad, Rs.bind_ex, Rs.opt_some, Option.bind_some, Option.map_some, ownAt, eExt, eApp, ePop, List.getElem?_cons_zero, List.getElem?_cons_succ, List.set_cons_zero, List.set_cons_succ, okArg, List.all_cons, List.all_nil, Bool.and_self, if_true, kName, kTup, ksCons, ksNil, fMax, tOf, List.length_cons, List.length_nil, Bool.not_false, Bool.not_true, if_false, Bool.false_eq_true, lm0, lm1, lm2, lm3, lm4, lm5, lm6, lm7, lm8, lm9, lm10, lm11, lm12, fnM, List.map_cons, List.map_nil, List.replicate, List.cons_append, List.nil_append, Nat.reduceAdd, Nat.reduceSub, sNil, tAndM, tOrM, tNotM, tTru, dTru, eIf, dSub_i, dAdd_i, dLt_i, dLe_i, dGt_i, dGe_i, dEq_i, decide_true, decide_false, eChain, eAndM, eSl, oInt, dNeg, fInt, aDef, fTuple])
/-! the law holds -/
def BD (c : Fn → List S → Int → Rs S Int) : Sm M2 Out := sSeq (B5 c) (sSeq (B6 c) (sSeq (B7 c) (sSeq (B8 c) (sSeq (B8b c) (sSeq (B9 c) (sSeq (B10 c) (sSeq (B11 c) (sSeq (B12 c) (B13 c)))))))))
theorem dr3 {d : Nat} (h : d < 4) : dr d ≤ 111 ∧ sz d ≤ 63 := by
  have : d = 0 ∨ d = 1 ∨ d = 2 ∨ d = 3 := by omega
  rcases this with rfl | rfl | rfl | rfl <;> decide
theorem od_some (ts : List Th) : (ts.map some).map od = encs ts := by
  rw [encs_map, List.map_map]
  rfl
theorem o0_some (ts : List Th) : (ts.map some).reverse.map o0 = ts.reverse := by
  rw [← List.map_reverse, List.map_map]
  exact (List.map_congr_left (fun _ _ => rfl)).trans (List.map_id _)
theorem body_ok (ns : List Int) (hns : ns.length ≤ 1000) (e : Str) (ks : List Str) (K : RmOk e ks) (s0 s4 s5 s6 s7 s8 s9 s10 s11 s12 : Option S) (m : Int) (h0 : 0 ≤ m) (hb : m + 200 ≤ 1000000000000) :
    ∃ (s5' s6' s7' s8' s9' s10' s11' s12' : Option S) (m' : Int), BD (mir 200) ⟨lst s0 (cl ns) (room e ks) s4 s5 s6 s7 s8 s9 s10 s11 s12, m⟩ = .ok .nx ⟨lst s0 (cl ns) (room e ks) s4 s5' s6' s7' s8' s9' s10' s11' s12', m'⟩ ∧ m ≤ m' ∧ m' ≤ m + 146 := by
  obtain ⟨n, e5, n0⟩ := cell_ok 199 ns m hns h0 (by omega)
  obtain ⟨o6, h6⟩ : ∃ o, o = nms2 e (n / 4) (n % 4).toNat := ⟨_, rfl⟩
  obtain ⟨o7, h7⟩ : ∃ o, o = nms2 e (n / 32) (n / 128 % 3).toNat := ⟨_, rfl⟩
  have l6 : o6.length ≤ 3 := by rw [h6, nms2_len]; omega
  have l7 : o7.length ≤ 2 := by rw [h7, nms2_len]; omega
  have k6 : ∀ a ∈ o6, PyData.strOk a = true := by rw [h6]; exact nms2_ok K.ok _ _
  have k7 : ∀ a ∈ o7, PyData.strOk a = true := by rw [h7]; exact nms2_ok K.ok _ _
  have k67 : ∀ a ∈ o6 ++ o7, PyData.strOk a = true := fun a ha => by
    rcases List.mem_append.mp ha with q | q
    · exact k6 a q
    · exact k7 a q
  have l67 : (o6 ++ o7).length ≤ 5 := by rw [List.length_append]; omega
  have aa := add_tt (o6.map D.str) (o7.map D.str) (by rw [List.length_map, List.length_map]; omega)
  rw [← List.map_append] at aa
  obtain ⟨d, hd⟩ : ∃ d : Nat, n / 384 % 4 = (d : Int) := ⟨(n / 384 % 4).toNat, by omega⟩
  have d4 : d < 4 := by omega
  obtain ⟨dd1, dd2⟩ := dr3 d4
  have m8 := modA (n / 384) 4 (by omega)
  rw [hd] at m8
  obtain ⟨t1, m2, f1, g1, b1, b2⟩ := stat_ok ns hns e ks K d 200 (o6 ++ o7) (m + 1) (by omega) k67 (by omega) (by omega) (by omega)
  have E5 := b5 (c := mir 200) (s0 := s0) (X := room e ks) (s4 := s4) (s5 := s5) (s6 := s6) (s7 := s7) (s8 := s8) (s9 := s9) (s10 := s10) (s11 := s11) (s12 := s12) e5
  have L6' := l6_ok (s0 := s0) (cs := cl ns) (s4 := s4) (s6 := s6) (s7 := s7) (s8 := s8) (s9 := s9) (s10 := s10) (s11 := s11) (s12 := s12) e ks n (m + 1)
  rw [← h6] at L6'
  have E6 := b6 (c := mir 200) L6'
  have L7' := l7_ok (s0 := s0) (cs := cl ns) (s4 := s4) (s6 := some (.d (.tup (o6.map D.str)))) (s7 := s7) (s8 := s8) (s9 := s9) (s10 := s10) (s11 := s11) (s12 := s12) e ks n (m + 1)
  rw [← h7] at L7'
  have E7 := b7 (c := mir 200) L7'
  have E8 := b8 (c := mir 200) (s0 := s0) (s4 := s4) (s8 := s8) (s9 := s9) (s10 := s10) (s11 := s11) (s12 := s12) aa (divA n 384 (by omega)) m8 f1
  have st8 : ∃ (t : Th) (m3 : Int), B8b (mir 200) ⟨lst s0 (cl ns) (room e ks) s4 (some (.d (.int n))) (some (.d (.tup (o6.map D.str)))) (some (.d (.tup (o7.map D.str)))) (some (.d (enc t1))) s9 s10 s11 s12, m2⟩ = .ok .nx ⟨lst s0 (cl ns) (room e ks) s4 (some (.d (.int n))) (some (.d (.tup (o6.map D.str)))) (some (.d (.tup (o7.map D.str)))) (some (.d (enc t))) s9 s10 s11 s12, m3⟩ ∧ Gd 6 63 t ∧ m2 ≤ m3 ∧ m3 ≤ m2 + 13 := by
    by_cases q : n / 1536 % 3 = 0
    · obtain ⟨t, m3, f2, g2, b3, b4⟩ := term_ok ns hns e ks K 4 200 (o6 ++ o7) (nm "s" e) m2 (by omega) k67 (by omega) (nm_ok "s" K.ok) (by omega) (by omega)
      have z4 : (((4 : Nat) : Nat) : Int) = 4 := rfl
      rw [z4] at f2
      exact ⟨t, m3, b8b_yes (c := mir 200) (divA n 1536 (by omega)) (modA _ 3 (by omega)) q aa (room0 e ks) (i31 _ _ _) f2, g2.mono (by omega) (by omega), by omega, by omega⟩
    · exact ⟨t1, m2, b8b_no (c := mir 200) (divA n 1536 (by omega)) (modA _ 3 (by omega)) q, g1.mono (by omega) (by omega), by omega, by omega⟩
  obtain ⟨t, m3, E8b, ⟨tn, td, ts⟩, b3, b4⟩ := st8
  have f9 := spots_eq 199 t (((o6.map D.str).length : Nat) : Int) 0 [] m3 (by omega) (by omega) (by rw [List.length_nil]; omega)
  have L9' := l9_ok (c := mir 200) (s0 := s0) (cs := cl ns) (X := room e ks) (s4 := s4) (s5 := some (.d (.int n))) (s7 := some (.d (.tup (o7.map D.str)))) (s9 := s9) (s10 := s10) (s11 := s11) (s12 := s12) f9 (by have := spo_len (((o6.map D.str).length : Nat) : Int) t 0 []; show _ ≤ 1000000; omega)
  have pe : ((spo (((o6.map D.str).length : Nat) : Int) t 0 []).map fun x => D.int x.1) = (plc (((o6.map D.str).length : Nat) : Int) t 0).map D.int := by
    rw [← spo_plc _ t 0 [], List.map_map]
    rfl
  rw [pe] at L9'
  have E9 := b9 (c := mir 200) L9'
  obtain ⟨us, m4, L10', ul, ug, b5', b6'⟩ := l10_ok (s0 := s0) (s4 := s4) (s5 := some (.d (.int n))) (s8 := some (.d (enc t))) (s9 := some (.l ((plc (((o6.map D.str).length : Nat) : Int) t 0).map D.int))) (s10 := s10) (s11 := s11) (s12 := s12) ns hns e ks K 200 (by omega) o6 o7 m3 k7 (by omega) k6 l6 (by omega) (by omega)
  have E10 := b10 (c := mir 200) L10'
  have L11' := l11_ok (s0 := s0) (cs := cl ns) (X := room e ks) (s4 := s4) (s5 := some (.d (.int n))) (s6 := some (.d (.tup (o6.map D.str)))) (s7 := some (.d (.tup (o7.map D.str)))) (s8 := some (.d (enc t))) (s11 := s11) (s12 := s12) (plc (((o6.map D.str).length : Nat) : Int) t 0) us m4 (by show _ ≤ 1000000; omega)
  have E11 := b11 (c := mir 200) L11'
  have uo : ∀ u ∈ us, depth u ≤ 130 ∧ size u ≤ 900000 := fun u hu => by obtain ⟨_, q1, q2⟩ := ug u hu; exact ⟨by omega, by omega⟩
  have f12 := fil_eq uo 68 t 0 m4 (by omega) (by omega)
  have le : (((o6.map D.str).length : Nat) : Int) = (us.length : Nat) := by rw [List.length_map, ul]
  have E12 := b12 (c := mir 200) (s0 := s0) (cs := cl ns) (X := room e ks) (s4 := s4) (n := n) (o6 := o6.map D.str) (o7 := o7.map D.str) (o9 := (plc (((o6.map D.str).length : Nat) : Int) t 0).map D.int) (o11 := (som (plc (((o6.map D.str).length : Nat) : Int) t 0) us 0).map od) (s12 := s12) (ln := (us.length : Nat)) (by rw [← le]; rfl) f12
  have bd := sub_bound (us := us.reverse) (P := 5) (B := 3) (by omega) (by omega) (fun u hu => by obtain ⟨q0, q1, q2⟩ := ug u (List.mem_reverse.mp hu); exact ⟨q2, q1, q0⟩) t 0
  obtain ⟨w1, w2, w3⟩ := bd
  have T1 := told_yes 65 t (us.map some) m4 (fun o ho => by obtain ⟨u, hu, rfl⟩ := List.mem_map.mp ho; obtain ⟨q0, q1, q2⟩ := ug u hu; exact ⟨show depth u ≤ 130 by omega, show size u ≤ 900000 by omega, q0⟩) (by rw [List.length_map]; omega) (by omega) tn (by omega) (by rw [o0_some]; exact ⟨by omega, by omega⟩)
  rw [od_some, o0_some] at T1
  have ag : sub ((som (plc (((o6.map D.str).length : Nat) : Int) t 0) us 0).reverse.map o0) t 0 = sub us.reverse t 0 := by
    refine (sub_agree us.reverse _ ?_ t 0 (fun i hi => ?_)).symm
    · rw [List.length_map, List.length_reverse, List.length_reverse, som_len]
    · rw [List.length_reverse, ← le] at hi
      rw [List.reverse_reverse, List.map_reverse, List.reverse_reverse, som_get _ us 0 i (by rw [Nat.zero_add]; exact hi)]
  have T2 := told_yes 65 t (som (plc (((o6.map D.str).length : Nat) : Int) t 0) us 0) m4 (fun o ho => by
    rcases som_mem _ _ _ o ho with rfl | ⟨u, hu, rfl⟩
    · exact ⟨show depth (.var 0) ≤ 130 by rw [depth]; omega, show size (.var 0) ≤ 900000 by rw [size]; omega, show nms (.var 0) = true by rw [nms]⟩
    · obtain ⟨q0, q1, q2⟩ := ug u hu
      exact ⟨show depth u ≤ 130 by omega, show size u ≤ 900000 by omega, q0⟩) (by rw [som_len]; omega) (by omega) tn (by omega) (by rw [ag]; exact ⟨by omega, by omega⟩)
  rw [ag] at T2
  have E13 := b13 (c := mir 200) (s0 := s0) (cs := cl ns) (X := room e ks) (s4 := s4) (n := n) (o6 := o6.map D.str) (o7 := o7.map D.str) (o9 := (plc (((o6.map D.str).length : Nat) : Int) t 0).map D.int) T1 T2 (ne_same _ (w3 tn) (by omega))
  have fin := (seq_nx E5).trans ((seq_nx E6).trans ((seq_nx E7).trans ((seq_nx E8).trans ((seq_nx E8b).trans ((seq_nx E9).trans ((seq_nx E10).trans ((seq_nx E11).trans ((seq_nx E12).trans E13))))))))
  exact ⟨_, _, _, _, _, _, _, _, m4, fin, by omega, by omega⟩
theorem law_gen {c : Fn → List S → Int → Rs S Int} {s0 s4 s5 s6 s7 s8 s9 s10 s11 s12 : Option S} {cl0 : List D} {X : D} {r nn m1 m2 m3 : Int} {ds : List D} (hc : c ._law_cell [.d (.lst cl0), .m 0] 0 = .ok (.d (.int r)) m1) (he : c ._law_entries [.d (.int r)] m1 = .ok (.d X) m1)
    (hi : ((iRg1M (aCons (opd (eFn fMax (aCons (opd (eC (.int 4))) (aCons (opd (eFn fMin (aCons (opd (eC (.int 40))) (aCons (opd (eFn fLen (aCons (opd (eVar 1)) aNil))) aNil)))) aNil)))) aNil)) : Sm M2 (List D)) ⟨lst s0 (.lst cl0) X none none none none none none none none none, m1⟩ = .ok ds ⟨lst s0 (.lst cl0) X none none none none none none none none none, m1⟩)
    (hl : forL (M := M2) (kName 4) (BD c) ds ⟨lst s0 (.lst cl0) X none none none none none none none none none, m1⟩ = .ok .nx ⟨lst s0 (.lst cl0) X s4 s5 s6 s7 s8 s9 s10 s11 s12, m2⟩)
    (hc2 : c ._law_cell [.d (.lst cl0), .m 0] m2 = .ok (.d (.int nn)) m3) (hg : c ._law_great_right [.d X, .d (.int nn)] m3 = .ok (.d (.bl true)) m3) :
    m_law c ⟨[s0, some (.l cl0), some (.m 0), none, none, none, none, none, none, none, none, none, none, none, none, none, none, none, none, none], 0⟩ = .ok (.rt (.d (.bl true))) ⟨lst s0 (.lst cl0) X s4 s5 s6 s7 s8 s9 s10 s11 s12, m3⟩ := by
  unfold BD B5 B6 B7 B8 B8b B9 B10 B11 B12 B13 lst at hl
  unfold lst at hi
  unfold m_law lst
  walk_at "ey"
  rw [hc]
  walk_at "ey"
  rw [he]
  walk_at "ey"
  simp only [sFor]
  rw [hi, Rs.bind_ok, hl]
  walk_at "ey"
  rw [hc2]
  walk_at "ey"
  rw [hg]
  walk_at "ey"
theorem pre_ok (ns : List Int) (h : ns.length ≤ 63) : m_law_pre (zS 19 ns) = .ok .nx ⟨[some (.d (.scr ns)), some (.l (ns.map D.int)), none, none, none, none, none, none, none, none, none, none, none, none, none, none, none, none, none, none], ()⟩ := by
  have q := elc_map (M := M0) (i := 13) (its := iAnyM (eVar 0)) (e := eVar 13) D.int (g := D.int) (ts := ns) (z := zS 19 ns) (z0 := zS 19 ns) rfl rfl (by show _ ≤ 1000000; omega) (fun t _ => rfl)
  unfold m_law_pre sSet una
  rw [q]
  rfl
theorem law_true : ∀ ns : List Int, ns.length ≤ 63 → (∀ z ∈ ns, Builtin.Int.intBits z ≤ 1048576) → ∃ z1 z', m_law_pre (zS 19 ns) = .ok .nx z1 ∧ m_law (mir lawLevel) ⟨z1.rho.set 2 (some (.m 0)), 0⟩ = .ok (.rt (.d (.bl true))) z' := by
  intro ns hl _
  obtain ⟨r, hc, r0⟩ := cell_ok 199 ns 0 (by omega) (by omega) (by omega)
  rw [show (0 : Int) + 1 = 1 from rfl] at hc
  obtain ⟨e, ks, he, K⟩ := entries_ok 199 r 1 r0
  obtain ⟨j, hj⟩ : ∃ j : Int, j = if (if ((ns.length : Nat) : Int) < 40 then ((ns.length : Nat) : Int) else 40) > 4 then (if ((ns.length : Nat) : Int) < 40 then ((ns.length : Nat) : Int) else 40) else 4 := ⟨_, rfl⟩
  have j0 : 4 ≤ j ∧ j ≤ 40 := by rw [hj]; split <;> split <;> omega
  have it := rg1_it (g := (aCons (opd (eFn fMax (aCons (opd (eC (.int 4))) (aCons (opd (eFn fMin (aCons (opd (eC (.int 40))) (aCons (opd (eFn fLen (aCons (opd (eVar 1)) aNil))) aNil)))) aNil)))) aNil)) (z := ⟨lst (some (.d (.scr ns))) (cl ns) (room e ks) none none none none none none none none none, 1⟩) (z1 := ⟨lst (some (.d (.scr ns))) (cl ns) (room e ks) none none none none none none none none none, 1⟩) (j := j) (by
    rw [hj]
    unfold lst cl
    walk_at "ey"
    rw [lenA]
    walk_at "ey"
    simp only [fMin]
    walk_at "ey") (by omega) (by omega)
  obtain ⟨z', e1, s4, s5, s6, s7, s8, s9, s10, s11, s12, m2, rfl, b1, b2⟩ := for_inv (kk := kName (M := M2) 4) (b := BD (mir 200)) (N := j.toNat) (fun i z => ∃ (s4 s5 s6 s7 s8 s9 s10 s11 s12 : Option S) (m2 : Int), z = ⟨lst (some (.d (.scr ns))) (cl ns) (room e ks) s4 s5 s6 s7 s8 s9 s10 s11 s12, m2⟩ ∧ 1 ≤ m2 ∧ m2 ≤ 1 + 146 * (i : Int)) (fun i z hi hz => by
    obtain ⟨s4, s5, s6, s7, s8, s9, s10, s11, s12, m2, rfl, b1, b2⟩ := hz
    obtain ⟨t5, t6, t7, t8, t9, t10, t11, t12, m3, e2, b3, b4⟩ := body_ok ns (by omega) e ks K (some (.d (.scr ns))) (some (.d (.int (i : Int)))) s5 s6 s7 s8 s9 s10 s11 s12 m2 (by omega) (by omega)
    exact ⟨_, _, rfl, e2, _, _, _, _, _, _, _, _, _, m3, rfl, by omega, by omega⟩) j.toNat 0 ⟨lst (some (.d (.scr ns))) (cl ns) (room e ks) none none none none none none none none none, 1⟩ (by omega) ⟨none, none, none, none, none, none, none, none, none, 1, rfl, by omega, by omega⟩
  obtain ⟨nn, hc2, nn0⟩ := cell_ok 199 ns m2 (by omega) (by omega) (by omega)
  have hg := great_ok 49 e ks K nn (m2 + 1) nn0
  exact ⟨_, _, pre_ok ns hl, law_gen (c := mir 200) hc he it e1 hc2 hg⟩
end L
open PySem PySem.W PyProof.Rows
set_option maxRecDepth 100000 in
set_option maxHeartbeats 0 in
theorem PySem.Challenge.cw_groundroom_k63_terms_put_for_open_places_holds : PySem.Challenge.rw_groundroom_k63_terms_put_for_open_places.Holds := by
  w_on; o_law; k_head; (case hw => w_witness2)
  k_fill
  refine G.walkG (l := PySem.Challenge.rw_groundroom_k63_terms_put_for_open_places) (m := 63) (n := L.lawLevel + 9) (x := "_law_script") (CX := fun w => L2.CX PySem.Challenge.rw_groundroom_k63_terms_put_for_open_places.prog w) (sp := fun w => G.spLaw _) rfl (by decide) rfl ⟨rfl, by decide, by decide⟩ (fun w h Y => PySem.W.kIn_of Y) ?F (fun _ _ a ns hl hb _ hS => ⟨a, ns, rfl, hS, hl, hb, fun _ => rfl⟩) (fun w H s e s' h => by
    obtain ⟨_, _, _, _, _, _, _, _, _, _, _, _, z⟩ := h
    exact z)
  case F =>
    intro w mg fa h KX G hmg
    refine' L.all_mk KX G hmg ?a0 ?l0 ?c0 ?k0 ?a1 ?l1 ?c1 ?k1 ?a2 ?l2 ?c2 ?k2 ?a3 ?l3 ?c3 ?k3 ?lT3 ?a4 ?l4 ?c4 ?k4 ?a5 ?l5 ?c5 ?k5 ?a6 ?l6 ?c6 ?k6 ?a7 ?l7 ?c7 ?k7 ?a8 ?l8 ?c8 ?k8 ?a9 ?l9 ?c9 ?k9 ?a10 ?l10 ?c10 ?k10 ?a11 ?l11 ?c11 ?k11 ?a12 ?l12 ?c12 ?k12 ?a13 ?l13 ?c13 ?k13 ?a14 ?l14 ?c14 ?k14 ?a15 ?l15 ?c15 ?k15 ?a16 ?l16 ?c16 ?k16 ?a17 ?l17 ?c17 ?k17 ?a18 ?l18 ?c18 ?k18 ?a19 ?l19 ?c19 ?k19 ?a20 ?l20 ?c20 ?k20 ?z_ValueError ?z_enumerate ?z_int ?z_isinstance ?z_len ?z_list ?z_max ?z_min ?z_range ?z_tuple ?xa_BadGround ?xa_BadRoom ?xa_BadText ?xa_GroundError ?xa_NoStep ?xa_NoText ?xa_NotDone ?xa_TooMany ?x1_TooMany ?x2_TooMany ?x3_TooMany ?x4_TooMany ?y1_TooMany ?y2_TooMany ?y3_TooMany ?y4_TooMany ?y5_TooMany ?y6_TooMany ?y7_TooMany ?h1_BadGround ?h2_BadGround ?h3_BadGround ?h1_BadRoom ?h2_BadRoom ?h3_BadRoom ?h1_BadText ?h2_BadText ?h3_BadText ?h1_GroundError ?h2_GroundError ?h3_GroundError ?h1_NoStep ?h2_NoStep ?h3_NoStep ?h1_NoText ?h2_NoText ?h3_NoText ?h1_NotDone ?h2_NotDone ?h3_NotDone ?h1_TooMany ?h2_TooMany ?h3_TooMany ?s_TooMany_BadGround ?ne_TooMany_BadGround ?s_TooMany_BadRoom ?ne_TooMany_BadRoom ?s_TooMany_BadText ?ne_TooMany_BadText ?s_TooMany_GroundError ?ne_TooMany_GroundError ?s_TooMany_NoStep ?ne_TooMany_NoStep ?s_TooMany_NoText ?ne_TooMany_NoText ?s_TooMany_NotDone ?ne_TooMany_NotDone ?s_TooMany_ValueError ?g_BOUND ?gl_BOUND ?g_CALLED ?gl_CALLED ?g_JOINED ?gl_JOINED ?g_MOST_FOUND ?g_MOST_FOUND_DEEP L.law_true
    (case a0 => k_is)
    (case l0 => k_is)
    (case c0 => k_is)
    (case k0 => k_is)
    (case a1 => k_is)
    (case l1 => k_is)
    (case c1 => k_is)
    (case k1 => k_is)
    (case a2 => k_is)
    (case l2 => k_is)
    (case c2 => k_is)
    (case k2 => k_is)
    (case a3 => k_is)
    (case l3 => k_is)
    (case c3 => k_is)
    (case k3 => k_is)
    (case lT3 => k_is)
    (case a4 => k_is)
    (case l4 => k_is)
    (case c4 => k_is)
    (case k4 => k_is)
    (case a5 => k_is)
    (case l5 => k_is)
    (case c5 => k_is)
    (case k5 => k_is)
    (case a6 => k_is)
    (case l6 => k_is)
    (case c6 => k_is)
    (case k6 => k_is)
    (case a7 => k_is)
    (case l7 => k_is)
    (case c7 => k_is)
    (case k7 => k_is)
    (case a8 => k_is)
    (case l8 => k_is)
    (case c8 => k_is)
    (case k8 => k_is)
    (case a9 => k_is)
    (case l9 => k_is)
    (case c9 => k_is)
    (case k9 => k_is)
    (case a10 => k_is)
    (case l10 => k_is)
    (case c10 => k_is)
    (case k10 => k_is)
    (case a11 => k_is)
    (case l11 => k_is)
    (case c11 => k_is)
    (case k11 => k_is)
    (case a12 => k_is)
    (case l12 => k_is)
    (case c12 => k_is)
    (case k12 => k_is)
    (case a13 => k_is)
    (case l13 => k_is)
    (case c13 => k_is)
    (case k13 => k_is)
    (case a14 => k_is)
    (case l14 => k_is)
    (case c14 => k_is)
    (case k14 => k_is)
    (case a15 => k_is)
    (case l15 => k_is)
    (case c15 => k_is)
    (case k15 => k_is)
    (case a16 => k_is)
    (case l16 => k_is)
    (case c16 => k_is)
    (case k16 => k_is)
    (case a17 => k_is)
    (case l17 => k_is)
    (case c17 => k_is)
    (case k17 => k_is)
    (case a18 => k_is)
    (case l18 => k_is)
    (case c18 => k_is)
    (case k18 => k_is)
    (case a19 => k_is)
    (case l19 => k_is)
    (case c19 => k_is)
    (case k19 => k_is)
    (case a20 => k_is)
    (case l20 => k_is)
    (case c20 => k_is)
    (case k20 => k_is)
    (case z_ValueError => k_is)
    (case z_enumerate => k_is)
    (case z_int => k_is)
    (case z_isinstance => k_is)
    (case z_len => k_is)
    (case z_list => k_is)
    (case z_max => k_is)
    (case z_min => k_is)
    (case z_range => k_is)
    (case z_tuple => k_is)
    (case xa_BadGround => k_is)
    (case xa_BadRoom => k_is)
    (case xa_BadText => k_is)
    (case xa_GroundError => k_is)
    (case xa_NoStep => k_is)
    (case xa_NoText => k_is)
    (case xa_NotDone => k_is)
    (case xa_TooMany => k_is)
    (case x1_TooMany => k_exc)
    (case x2_TooMany => k_is)
    (case x3_TooMany => k_is)
    (case x4_TooMany => k_is)
    (case y1_TooMany => k_is)
    (case y2_TooMany => k_is)
    (case y3_TooMany => k_is)
    (case y4_TooMany => k_is)
    (case y5_TooMany => k_is)
    (case y6_TooMany => k_is)
    (case y7_TooMany => k_is)
    (case h1_BadGround => k_is)
    (case h2_BadGround => k_is)
    (case h3_BadGround => k_is)
    (case h1_BadRoom => k_is)
    (case h2_BadRoom => k_is)
    (case h3_BadRoom => k_is)
    (case h1_BadText => k_is)
    (case h2_BadText => k_is)
    (case h3_BadText => k_is)
    (case h1_GroundError => k_is)
    (case h2_GroundError => k_is)
    (case h3_GroundError => k_is)
    (case h1_NoStep => k_is)
    (case h2_NoStep => k_is)
    (case h3_NoStep => k_is)
    (case h1_NoText => k_is)
    (case h2_NoText => k_is)
    (case h3_NoText => k_is)
    (case h1_NotDone => k_is)
    (case h2_NotDone => k_is)
    (case h3_NotDone => k_is)
    (case h1_TooMany => k_is)
    (case h2_TooMany => k_is)
    (case h3_TooMany => k_is)
    (case s_TooMany_BadGround => k_is)
    (case ne_TooMany_BadGround => decide +kernel)
    (case s_TooMany_BadRoom => k_is)
    (case ne_TooMany_BadRoom => decide +kernel)
    (case s_TooMany_BadText => k_is)
    (case ne_TooMany_BadText => decide +kernel)
    (case s_TooMany_GroundError => k_is)
    (case ne_TooMany_GroundError => decide +kernel)
    (case s_TooMany_NoStep => k_is)
    (case ne_TooMany_NoStep => decide +kernel)
    (case s_TooMany_NoText => k_is)
    (case ne_TooMany_NoText => decide +kernel)
    (case s_TooMany_NotDone => k_is)
    (case ne_TooMany_NotDone => decide +kernel)
    (case s_TooMany_ValueError => k_is)
    (case g_BOUND => k_is)
    (case gl_BOUND => k_is)
    (case g_CALLED => k_is)
    (case gl_CALLED => k_is)
    (case g_JOINED => k_is)
    (case gl_JOINED => k_is)
    (case g_MOST_FOUND => k_is)
    (case g_MOST_FOUND_DEEP => k_is)
