import PyProof.Rows.All
import Wide.All
import OpenK.AllK
import HandS.CallSlots
import HandS.Defaults
import HandS.Dict
import HandS.EndBits
import HandS.ExcIs
import HandS.Flow
import HandS.ForExc
import HandS.ForMost
import HandS.IsInst
import HandS.Iter
import HandS.More
import HandS.Nested
import HandS.SortKw
import HandS.Style
import HandS.TupAny
import HandS.TupLe
import HandS.TupMul
import HandS.Walk
import HandS.Zip
import KE.DataMinMax
import KE.GoesEnum
import KE.GoesMore
import KE.GoesZip
import PyProof.ReprLen
import PyProof.ReprRoads
import PyProof.Rows.TmSorted
import Wide.FinOn
import PySem.Challenge.RW_groundroom_k10_forms_of_grounds
set_option Elab.async false
set_option linter.all false
set_option maxRecDepth 100000
set_option maxHeartbeats 4000000
/-! The mirror calculus: data, states, results, readings that compute a mirror. -/
namespace G
open PySem L2

inductive D where
  | non
  | bl (b : Bool)
  | int (i : Int)
  | str (x : Str)
  | tup (xs : List D)
  | lst (xs : List D)
  | scr (ns : List Int)
  | emp
  | exc (c : Str) (xs : List D)
  /-- a mutable object of the store, by its number -/
  | o (n : Nat)
/-- the exception's object, known behind its suite -/
def XO (cls : Value) (d : Option Addr) (a : Addr) : HO := .ext fun h => ∃ (ox : Obj) (fs : Array Value), h.get? a = some ox ∧ Zc cls d ox ∧ ox.data = .fields fs
/-- the text's own name c, as the written part has it -/
def xrK (K : PySem.W.Frag) (c : Str) : Option Value := match PySem.W.nsIn K mainGlobals c with
  | some o => o
  | none => none

/-- the mark of a mutable object's number, held in the frozen part -/
def tag (n : Nat) : HO := .tbl #[rawInt n]
/-- all but the marks stay -/
def SameX (F H : Hp) : Prop := ∀ b o, F b = some o → (∀ ps, o ≠ .tbl ps) → H b = some o
def noT (F : Hp) : Hp := fun a => match F a with
  | some (.tbl _) => none
  | o => o
theorem noT_at {F : Hp} {a : Addr} {o : HO} (h : F a = some o) (n : ∀ ps, o ≠ .tbl ps) : noT F a = some o := by
  unfold noT
  rw [h]
  cases o with
  | tbl ps => exact (n ps rfl).elim
  | _ => rfl
theorem noT_of {F : Hp} {a : Addr} {o : HO} (h : noT F a = some o) : F a = some o ∧ ∀ ps, o ≠ .tbl ps := by
  unfold noT at h
  cases q : F a with
  | none => rw [q] at h; cases h
  | some u =>
    rw [q] at h
    cases u with
    | tbl ps => cases h
    | _ => cases h; exact ⟨rfl, fun ps e => by cases e⟩
theorem SameX.same {F H : Hp} (s : SameX F H) : Same (noT F) H := fun b o q => s b o (noT_of q).1 (noT_of q).2
/-- no new marks, and what is marked stays -/
def TgK (F F' H H' : Hp) : Prop := ∀ a ps, F' a = some (.tbl ps) → F a = some (.tbl ps) ∧ H' a = H a
theorem TgK.refl (F H : Hp) : TgK F F H H := fun _ _ h => ⟨h, rfl⟩
theorem sqT_mono {K : PySem.W.Frag} {H H' : Hp} {a : Addr} {xs : List V} (e : Same H H') (h : SqT K H a xs) : SqT K H' a xs := by
  rcases h with (h | ⟨o, h⟩) | h
  · exact .inl (.inl (e _ _ h))
  · exact .inl (.inr ⟨o, e _ _ h⟩)
  · exact .inr h

theorem tupNT {vs : List V} : ∀ ps, HO.tup vs ≠ .tbl ps := fun _ e => by cases e
theorem lstNT {vs : List V} : ∀ ps, HO.lst vs ≠ .tbl ps := fun _ e => by cases e
theorem SameX.tup {K : PySem.W.Frag} {F H : Hp} {a : Addr} {xs : List V} (e : SameX F H) (h : SqT K F a xs) : SqT K H a xs := by
  rcases h with (h | ⟨o, h⟩) | h
  · exact .inl (.inl (e _ _ h tupNT))
  · exact .inl (.inr ⟨o, e _ _ h (fun _ q => by cases q)⟩)
  · exact .inr h
theorem SameX.seq {K : PySem.W.Frag} {F H : Hp} {a : Addr} {xs : List V} (e : SameX F H) (h : SqL K F a xs) : SqL K H a xs := by
  rcases h with (h | ⟨o, h⟩) | h
  · exact .inl (.inl (e _ _ h lstNT))
  · exact .inl (.inr ⟨o, e _ _ h (fun _ q => by cases q)⟩)
  · exact .inr h
theorem SameX.lst {F H : Hp} {a : Addr} {xs : List V} (e : SameX F H) (h : F a = some (.lst xs)) : H a = some (.lst xs) := e _ _ h lstNT
theorem SameX.emp {F H : Hp} {a : Addr} (e : SameX F H) (h : F a = some (.dK [])) : H a = some (.dK []) := e _ _ h (fun _ q => by cases q)
theorem SameX.ext {F H : Hp} {a : Addr} {φ : Heap → Prop} (e : SameX F H) (h : F a = some (.ext φ)) : H a = some (.ext φ) := e _ _ h (fun _ q => by cases q)
theorem thenX {F F1 H : Hp} (a : Same F F1) (b : SameX F1 H) : SameX F H := fun c o h n => b c o (a c o h) n
theorem SameX.thenS {F H H1 : Hp} (a : SameX F H) (b : Same H H1) : SameX F H1 := fun c o h n => b c o (a c o h n)
theorem samX {F H : Hp} (a : Same F H) : SameX F H := fun c o h _ => a c o h
mutual
inductive Da (K : PySem.W.Frag) (F : Hp) : V → D → Prop
  | non : Da K F .non .non
  | bl (b : Bool) : Da K F (.bl b) (.bl b)
  | int (i : Int) : Da K F (.int i) (.int i)
  | str (x : Str) : Da K F (.str x) (.str x)
  | tup {a : Addr} {vs : List V} {ds : List D} : SqT K F a vs → DaAll K F vs ds → Da K F (.ref a) (.tup ds)
  | lst {a : Addr} {vs : List V} {ds : List D} : F a = some (.lst vs) → DaAll K F vs ds → Da K F (.ref a) (.lst ds)
  | scr {a : Addr} {ns : List Int} : SqL K F a (ns.map V.int) → Da K F (.ref a) (.scr ns)
  | emp {a : Addr} : F a = some (.dK []) → Da K F (.ref a) .emp
  | exc {a C : Addr} {c : Str} : F a = some (XO (.ref C) none a) → xrK K c = some (.ref C) → Da K F (.ref a) (.exc c [])
  | o {a : Addr} {n : Nat} : F a = some (tag n) → Da K F (.ref a) (.o n)
inductive DaAll (K : PySem.W.Frag) (F : Hp) : List V → List D → Prop
  | nil : DaAll K F [] []
  | cons {v : V} {vs : List V} {d : D} {ds : List D} : Da K F v d → DaAll K F vs ds → DaAll K F (v :: vs) (d :: ds)
end
mutual
theorem Da.mono {K : PySem.W.Frag} {F F' : Hp} (h : Same F F') : ∀ {v : V} {d : D}, Da K F v d → Da K F' v d
  | _, _, .non => .non
  | _, _, .bl b => .bl b
  | _, _, .int i => .int i
  | _, _, .str x => .str x
  | _, _, .tup q r => .tup (sqT_mono h q) (DaAll.mono h r)
  | _, _, .lst q r => .lst (h _ _ q) (DaAll.mono h r)
  | _, _, .scr q => .scr (h.seq q)
  | _, _, .emp q => .emp (h _ _ q)
  | _, _, .exc q r => .exc (h _ _ q) r
  | _, _, .o q => .o (h _ _ q)
theorem DaAll.mono {K : PySem.W.Frag} {F F' : Hp} (h : Same F F') : ∀ {vs : List V} {ds : List D}, DaAll K F vs ds → DaAll K F' vs ds
  | _, _, .nil => .nil
  | _, _, .cons a b => .cons (Da.mono h a) (DaAll.mono h b)
end
theorem DaAll.length {K : PySem.W.Frag} {F : Hp} : ∀ {vs : List V} {ds : List D}, DaAll K F vs ds → vs.length = ds.length
  | _, _, .nil => rfl
  | _, _, .cons _ b => congrArg (· + 1) (DaAll.length b)
theorem DaAll.get {K : PySem.W.Frag} {F : Hp} : ∀ {vs : List V} {ds : List D} {i : Nat} {d : D}, DaAll K F vs ds → ds[i]? = some d → ∃ v, vs[i]? = some v ∧ Da K F v d
  | _, _, _, _, .nil, e => by simp at e
  | _, _, 0, _, .cons a _, e => by simp at e; subst e; exact ⟨_, rfl, a⟩
  | _, _, i + 1, _, .cons _ b, e => by
    obtain ⟨v, h1, h2⟩ := DaAll.get (i := i) b (by simpa using e)
    exact ⟨v, by simpa using h1, h2⟩
theorem DaAll.getV {K : PySem.W.Frag} {F : Hp} : ∀ {vs : List V} {ds : List D} {i : Nat} {v : V}, DaAll K F vs ds → vs[i]? = some v → ∃ d, ds[i]? = some d ∧ Da K F v d
  | _, _, _, _, .nil, e => by simp at e
  | _, _, 0, _, .cons a _, e => by simp at e; subst e; exact ⟨_, rfl, a⟩
  | _, _, i + 1, _, .cons _ b, e => by
    obtain ⟨v, h1, h2⟩ := DaAll.getV (i := i) b (by simpa using e)
    exact ⟨v, by simpa using h1, h2⟩
theorem DaAll.append {K : PySem.W.Frag} {F : Hp} : ∀ {vs ws : List V} {ds es : List D}, DaAll K F vs ds → DaAll K F ws es → DaAll K F (vs ++ ws) (ds ++ es)
  | _, _, _, _, .nil, h => h
  | _, _, _, _, .cons a b, h => .cons a (DaAll.append b h)
theorem DaAll.take {K : PySem.W.Frag} {F : Hp} : ∀ {vs : List V} {ds : List D} (n : Nat), DaAll K F vs ds → DaAll K F (vs.take n) (ds.take n)
  | _, _, 0, _ => .nil
  | _, _, _ + 1, .nil => .nil
  | _, _, n + 1, .cons a b => .cons a (DaAll.take n b)
theorem DaAll.drop {K : PySem.W.Frag} {F : Hp} : ∀ {vs : List V} {ds : List D} (n : Nat), DaAll K F vs ds → DaAll K F (vs.drop n) (ds.drop n)
  | _, _, 0, h => h
  | _, _, _ + 1, .nil => .nil
  | _, _, n + 1, .cons _ b => DaAll.drop n b
theorem DaAll.dropLast {K : PySem.W.Frag} {F : Hp} {vs : List V} {ds : List D} (h : DaAll K F vs ds) : DaAll K F vs.dropLast ds.dropLast := by
  rw [List.dropLast_eq_take, List.dropLast_eq_take, h.length]
  exact h.take _
theorem DaAll.reverse {K : PySem.W.Frag} {F : Hp} : ∀ {vs : List V} {ds : List D}, DaAll K F vs ds → DaAll K F vs.reverse ds.reverse
  | _, _, .nil => .nil
  | _, _, .cons a b => by
    rw [List.reverse_cons, List.reverse_cons]
    exact (DaAll.reverse b).append (.cons a .nil)
theorem DaAll.set {K : PySem.W.Frag} {F : Hp} {v : V} {d : D} (hv : Da K F v d) : ∀ {vs : List V} {ds : List D} (n : Nat), DaAll K F vs ds → DaAll K F (vs.set n v) (ds.set n d)
  | _, _, _, .nil => .nil
  | _, _, 0, .cons _ b => .cons hv b
  | _, _, n + 1, .cons a b => .cons a (DaAll.set hv n b)
theorem DaAll.ints {K : PySem.W.Frag} {F : Hp} : ∀ (ns : List Int), DaAll K F (ns.map V.int) (ns.map D.int)
  | [] => .nil
  | n :: r => .cons (.int n) (DaAll.ints r)

/-! ### states, results -/
inductive S where
  | d (x : D)
  | l (xs : List D)
  | v (i : Nat)
  | m (j : Nat)
structure Z (T : Type) where
  rho : List (Option S)
  m : T
structure Xc where
  c : Str
  arg : Option D
inductive Rs (α ζ : Type) where
  | ok (a : α) (z : ζ)
  | ex (x : Xc) (z : ζ)
  | bad
def Rs.bind {α β ζ : Type} (r : Rs α ζ) (k : α → ζ → Rs β ζ) : Rs β ζ := match r with
  | .ok a z => k a z
  | .ex x z => .ex x z
  | .bad => .bad
@[simp] theorem Rs.bind_ok {α β ζ : Type} (a : α) (z : ζ) (k : α → ζ → Rs β ζ) : (Rs.ok a z).bind k = k a z := rfl
@[simp] theorem Rs.bind_ex {α β ζ : Type} (x : Xc) (z : ζ) (k : α → ζ → Rs β ζ) : (Rs.ex x z).bind k = .ex x z := rfl
@[simp] theorem Rs.bind_bad {α β ζ : Type} (k : α → ζ → Rs β ζ) : (Rs.bad : Rs α ζ).bind k = .bad := rfl
def Rs.opt {α ζ : Type} (o : Option α) (z : ζ) : Rs α ζ := match o with
  | some a => .ok a z
  | none => .bad
@[simp] theorem Rs.opt_some {α ζ : Type} (a : α) (z : ζ) : Rs.opt (some a) z = .ok a z := rfl
@[simp] theorem Rs.opt_none {α ζ : Type} (z : ζ) : Rs.opt (none : Option α) z = .bad := rfl

/-- a machine: mutable objects at the addresses ms that the law threads through its calls -/
structure MI where
  T : Type
  ok : PySem.W.Frag → Hp → Hp → List Addr → T → Prop
  mono : ∀ {K : PySem.W.Frag} {F F' H H' : Hp} {ms : List Addr} {t : T}, Same F F' → TgK F F' H H' → (∀ a ∈ ms, H' a = H a) → ok K F H ms t → ok K F' H' ms t
structure Gx where
  K : PySem.W.Frag
  xr : Str → Option Value
  ms : List Addr
  P : Hp
  Fp : Hp

def SV (G : Gx) (F H : Hp) (v : V) : S → Prop
  | .d x => Da G.K F v x
  | .l xs => ∃ a vs, v = .ref a ∧ H a = some (.lst vs) ∧ DaAll G.K F vs xs ∧ F a = none ∧ G.P a = none ∧ a ∉ G.ms
  | .v _ => False
  | .m j => ∃ a, G.ms[j]? = some a ∧ v = .ref a

structure Ok (M : MI) (G : Gx) (σ : St) (H F : Hp) (z : Z M.T) : Prop where
  sub : SameX F H
  len : z.rho.length = σ.length
  slot : ∀ (i : Nat) (s : S), z.rho[i]? = some (some s) → ∃ v, σ[i]? = some (some v) ∧ SV G F H v s
  dist : ∀ (i j : Nat) (xs ys : List D) (v : V), z.rho[i]? = some (some (.l xs)) → z.rho[j]? = some (some (.l ys)) → σ[i]? = some (some v) → σ[j]? = some (some v) → i = j
  mach : M.ok G.K F H G.ms z.m
  msF : ∀ a ∈ G.ms, F a = none
  msP : ∀ a ∈ G.ms, G.P a = none
  msH : ∀ a ∈ G.ms, H a ≠ none
  fr : ∀ b o, G.P b = some o → H b = some o ∧ F b = G.Fp b
  tg : ∀ a ps, F a = some (.tbl ps) → H a ≠ none ∧ G.P a = none

/-- a slot owns the list at a -/
def Owned {T : Type} (σ : St) (z : Z T) (a : Addr) : Prop := ∃ (i : Nat) (xs : List D), z.rho[i]? = some (some (.l xs)) ∧ σ[i]? = some (some (.ref a))

def EV {T : Type} (G : Gx) (σ : St) (F H : Hp) (z : Z T) (v : V) : S → Prop
  | .d x => Da G.K F v x
  | .l xs => ∃ a vs, v = .ref a ∧ H a = some (.lst vs) ∧ DaAll G.K F vs xs ∧ F a = none ∧ G.P a = none ∧ a ∉ G.ms ∧ ¬ Owned σ z a
  | .v i => σ[i]? = some (some v)
  | .m j => ∃ a, G.ms[j]? = some a ∧ v = .ref a
/-- .. of an operand: nothing new that is not frozen -/
def EO (G : Gx) (σ : St) (F : Hp) (v : V) : S → Prop
  | .d x => Da G.K F v x
  | .l _ => False
  | .v i => σ[i]? = some (some v)
  | .m j => ∃ a, G.ms[j]? = some a ∧ v = .ref a
theorem EO.mono {G : Gx} {σ : St} {F F' : Hp} {v : V} {s : S} (h : Same F F') (e : EO G σ F v s) : EO G σ F' v s := by
  cases s with
  | d x => exact Da.mono h e
  | l _ => exact e
  | v i => exact e
  | m j => exact e

section
variable {M : MI} {G : Gx} {σ : St} {H H' F F' : Hp} {z : Z M.T}
theorem Ok.ownH (ok : Ok M G σ H F z) {a : Addr} (o : Owned σ z a) : ∃ vs, H a = some (.lst vs) ∧ F a = none ∧ G.P a = none ∧ a ∉ G.ms := by
  obtain ⟨i, xs, h1, h2⟩ := o
  obtain ⟨v, e, b, vs, rfl, h3, _, h4, h5, h6⟩ := ok.slot i _ h1
  rw [h2] at e
  cases e
  exact ⟨vs, h3, h4, h5, h6⟩
/-- the heaps change, no slot does -/
theorem Ok.step (ok : Ok M G σ H F z) (hF : Same F F') (ht : TgK F F' H H') (hs : SameX F' H') (ho : ∀ a, Owned σ z a → H' a = H a ∧ F' a = none) (hm : ∀ a ∈ G.ms, H' a = H a ∧ F' a = none) (hf : ∀ b o, G.P b = some o → H' b = some o ∧ F' b = G.Fp b) : Ok M G σ H' F' z where
  sub := hs
  len := ok.len
  slot := fun i s e => by
    obtain ⟨v, h1, h2⟩ := ok.slot i s e
    refine ⟨v, h1, ?_⟩
    cases s with
    | d x => exact Da.mono hF h2
    | l xs =>
      obtain ⟨a, vs, rfl, h3, h4, h5, h6, h7⟩ := h2
      obtain ⟨q1, q2⟩ := ho a ⟨i, xs, e, h1⟩
      exact ⟨a, vs, rfl, q1.trans h3, h4.mono hF, q2, h6, h7⟩
    | v _ => exact h2
    | m j => exact h2
  dist := ok.dist
  mach := M.mono hF ht (fun a ha => (hm a ha).1) ok.mach
  tg := fun a ps e => by
    obtain ⟨h1, h2⟩ := ht a ps e
    rw [h2]
    exact ok.tg a ps h1
  msF := fun a ha => (hm a ha).2
  msP := ok.msP
  msH := fun a ha => by rw [(hm a ha).1]; exact ok.msH a ha
  fr := hf
theorem Ok.freshF (ok : Ok M G σ H F z) {p : Addr} (h : H p = none) : F p = none := by
  cases q : F p with
  | none => rfl
  | some o =>
    by_cases n : ∃ ps, o = .tbl ps
    · obtain ⟨ps, rfl⟩ := n
      exact ((ok.tg p ps q).1 h).elim
    · have := ok.sub p o q (fun ps e => n ⟨ps, e⟩)
      rw [h] at this
      cases this
theorem Ok.freshP (ok : Ok M G σ H F z) {p : Addr} (h : H p = none) : G.P p = none := by
  cases q : G.P p with
  | none => rfl
  | some o =>
    rw [(ok.fr p o q).1] at h
    cases h
theorem Ok.freshM (ok : Ok M G σ H F z) {p : Addr} (h : H p = none) : p ∉ G.ms := fun q => ok.msH p q h
theorem Ok.freshO (ok : Ok M G σ H F z) {p : Addr} (h : H p = none) : ¬ Owned σ z p := fun q => by
  obtain ⟨vs, e, _⟩ := ok.ownH q
  rw [h] at e
  cases e
theorem same_upd {H : Hp} {p : Addr} {o : HO} (h : H p = none) : Same H (upd H p o) := fun b u q => by
  rw [upd_ne (ne_of_none q h)]
  exact q
theorem same_upd2 {F H : Hp} {p : Addr} {o : HO} (h : SameX F H) : SameX (upd F p o) (upd H p o) := fun b u q n => by
  by_cases e : b = p
  · subst e
    rw [upd_same] at q ⊢
    exact q
  · rw [upd_ne e] at q ⊢
    exact h b u q n
theorem same_updR {F H : Hp} {p : Addr} {o : HO} (h : SameX F H) (hp : F p = none) : SameX F (upd H p o) := fun b u q n => by
  rw [upd_ne (ne_of_none q hp)]
  exact h b u q n
theorem tgk_new {F H : Hp} {p : Addr} {o : HO} (hp : F p = none) : TgK F F H (upd H p o) := fun a ps e => ⟨e, upd_ne (ne_of_none e hp)⟩
theorem tgk_newF {F H : Hp} {p : Addr} {o u : HO} (hp : F p = none) (n : ∀ ps, o ≠ .tbl ps) : TgK F (upd F p o) H (upd H p u) := fun a ps e => by
  by_cases h : a = p
  · subst h
    rw [upd_same] at e
    exact (n ps (Option.some.inj e)).elim
  · rw [upd_ne h] at e
    exact ⟨e, upd_ne h⟩
theorem tgk_frz {F H : Hp} {p : Addr} {o : HO} (hp : F p = none) (n : ∀ ps, o ≠ .tbl ps) : TgK F (upd F p o) H H := fun a ps e => by
  by_cases h : a = p
  · subst h
    rw [upd_same] at e
    exact (n ps (Option.some.inj e)).elim
  · rw [upd_ne h] at e
    exact ⟨e, rfl⟩
/-- a new object, not frozen -/
theorem Ok.new (ok : Ok M G σ H F z) {p : Addr} (hp : H p = none) (o : HO) : Ok M G σ (upd H p o) F z :=
  ok.step (Same.refl F) (tgk_new (ok.freshF hp)) (same_updR ok.sub (ok.freshF hp)) (fun a q => by
    obtain ⟨vs, e, e2, _⟩ := ok.ownH q
    exact ⟨upd_ne (ne_of_none e hp), e2⟩) (fun a q => by
    have n : a ≠ p := fun e => ok.freshM hp (e ▸ q)
    exact ⟨upd_ne n, ok.msF a q⟩) (fun b u q => by
    obtain ⟨h1, h2⟩ := ok.fr b u q
    exact ⟨by rw [upd_ne (ne_of_none h1 hp)]; exact h1, h2⟩)
/-- a new object, frozen -/
theorem Ok.newF (ok : Ok M G σ H F z) {p : Addr} (hp : H p = none) (o : HO) (nt : ∀ ps, o ≠ .tbl ps) : Ok M G σ (upd H p o) (upd F p o) z :=
  ok.step (same_upd (ok.freshF hp)) (tgk_newF (ok.freshF hp) nt) (same_upd2 ok.sub) (fun a q => by
    obtain ⟨vs, e, e2, _⟩ := ok.ownH q
    exact ⟨upd_ne (ne_of_none e hp), by rw [upd_ne (ne_of_none e hp)]; exact e2⟩) (fun a q => by
    have n : a ≠ p := fun e => ok.freshM hp (e ▸ q)
    exact ⟨upd_ne n, by rw [upd_ne n]; exact ok.msF a q⟩) (fun b u q => by
    obtain ⟨h1, h2⟩ := ok.fr b u q
    have n := ne_of_none h1 hp
    exact ⟨by rw [upd_ne n]; exact h1, by rw [upd_ne n]; exact h2⟩)
/-- a list that no slot owns is frozen -/
theorem Ok.frz (ok : Ok M G σ H F z) {a : Addr} {vs : List V} (ha : H a = some (.lst vs)) (hF : F a = none) (hP : G.P a = none) (hm : a ∉ G.ms) (ho : ¬ Owned σ z a) : Ok M G σ H (upd F a (.lst vs)) z :=
  ok.step (same_upd hF) (tgk_frz hF lstNT) (fun b u q n => by
    by_cases e : b = a
    · subst e
      rw [upd_same] at q
      rw [ha]
      exact q
    · rw [upd_ne e] at q
      exact ok.sub b u q n) (fun b q => by
    obtain ⟨_, _, e2, _⟩ := ok.ownH q
    have n : b ≠ a := fun e => ho (e ▸ q)
    exact ⟨rfl, by rw [upd_ne n]; exact e2⟩) (fun b q => by
    have n : b ≠ a := fun e => hm (e ▸ q)
    exact ⟨rfl, by rw [upd_ne n]; exact ok.msF b q⟩) (fun b u q => by
    obtain ⟨h1, h2⟩ := ok.fr b u q
    have n : b ≠ a := fun e => by rw [e, hP] at q; cases q
    exact ⟨h1, by rw [upd_ne n]; exact h2⟩)
/-- a slot is stored -/
theorem Ok.set (ok : Ok M G σ H F z) {i : Nat} {v : V} {s : S} (hv : SV G F H v s) (hs : ∀ xs, s = .l xs → ∀ a, v = .ref a → ¬ Owned σ z a) : Ok M G (σ.set i (some v)) H F { z with rho := z.rho.set i (some s) } where
  sub := ok.sub
  len := by simp [ok.len]
  slot := fun j t e => by
    by_cases hj : j = i
    · subst hj
      by_cases hl : j < z.rho.length
      · have e2 : (z.rho.set j (some s))[j]? = some (some s) := List.getElem?_set_self hl
        have e' : (z.rho.set j (some s))[j]? = some (some t) := e
        rw [e2] at e'
        cases e'
        exact ⟨v, List.getElem?_set_self (by rw [← ok.len]; exact hl), hv⟩
      · have e' : (z.rho.set j (some s))[j]? = some (some t) := e
        rw [List.getElem?_eq_none (by simp; omega)] at e'
        cases e'
    · have e' : (z.rho.set i (some s))[j]? = some (some t) := e
      rw [List.getElem?_set_ne (Ne.symm hj)] at e'
      obtain ⟨w, h1, h2⟩ := ok.slot j t e'
      exact ⟨w, by rw [List.getElem?_set_ne (Ne.symm hj)]; exact h1, h2⟩
  dist := fun j k xs ys w e1 e2 e3 e4 => by
    have e1' : (z.rho.set i (some s))[j]? = some (some (.l xs)) := e1
    have e2' : (z.rho.set i (some s))[k]? = some (some (.l ys)) := e2
    have lt : ∀ {n : Nat} {t : Option S}, (z.rho.set i (some s))[n]? = some t → n < z.rho.length := fun {n t} q => by
      have := (List.getElem?_eq_some_iff.mp q).1
      simpa using this
    have hit : ∀ {n m : Nat} {xs ys : List D}, n = i → m ≠ i → (z.rho.set i (some s))[n]? = some (some (.l xs)) → (z.rho.set i (some s))[m]? = some (some (.l ys)) → (σ.set i (some v))[n]? = some (some w) → (σ.set i (some v))[m]? = some (some w) → False := fun {n m xs ys} hn hm q1 q2 q3 q4 => by
      subst hn
      have hl := lt q1
      rw [List.getElem?_set_self hl] at q1
      rw [List.getElem?_set_self (by rw [← ok.len]; exact hl)] at q3
      rw [List.getElem?_set_ne (Ne.symm hm)] at q2 q4
      cases q1
      cases q3
      obtain ⟨u, h1, a, vs, rfl, h2⟩ := ok.slot m _ q2
      rw [q4] at h1
      cases h1
      exact hs _ rfl a rfl ⟨m, ys, q2, q4⟩
    by_cases hj : j = i
    · by_cases hk : k = i
      · rw [hj, hk]
      · exact (hit hj hk e1' e2' e3 e4).elim
    · by_cases hk : k = i
      · exact (hit hk hj e2' e1' e4 e3).elim
      · rw [List.getElem?_set_ne (Ne.symm hj)] at e1' e3
        rw [List.getElem?_set_ne (Ne.symm hk)] at e2' e4
        exact ok.dist j k xs ys w e1' e2' e3 e4
  mach := ok.mach
  msF := ok.msF
  msP := ok.msP
  msH := ok.msH
  fr := ok.fr
  tg := ok.tg
end
end G
namespace G
open PySem L2

abbrev Sm (M : MI) (α : Type) := Z M.T → Rs α (Z M.T)
def XOk (G : Gx) (F H : Hp) (x : Xc) (cls : Value) (d : Option Addr) : Prop := G.xr x.c = some cls ∧ match x.arg with
  | none => d = none
  | some a => ∃ dd v, d = some dd ∧ H dd = some (.xd [(("at" : Str), v)]) ∧ Da G.K F v a
def HitG {α β : Type} (M : MI) (G : Gx) (W : WX) (σ : St) (F : Hp) (R : α → β → Hp → Hp → Z M.T → Prop) (r : Rs α (Z M.T)) (Q : β → Hp → Prop) : Prop := match r with
  | .ok a z => ∀ b H' F', Same F F' → Ok M G σ H' F' z → R a b F' H' z → Q b H'
  | .ex x z => ∀ cls d H' F', Same F F' → Ok M G σ H' F' z → XOk G F' H' x cls d → W cls d σ H'
  | .bad => False
def RelE {M : MI} (G : Gx) (σ : St) : S → V → Hp → Hp → Z M.T → Prop := fun s v F H z => EV G σ F H z v s
def RelO {M : MI} (G : Gx) (σ : St) : S → V → Hp → Hp → Z M.T → Prop := fun s v F _ _ => EO G σ F v s
def RelB {M : MI} (_ : Gx) (_ : St) : Bool → Bool → Hp → Hp → Z M.T → Prop := fun b c _ _ _ => c = b
def RelA {M : MI} (G : Gx) (σ : St) : List S → List V → Hp → Hp → Z M.T → Prop := fun ss vs F _ _ => Paired (fun v s => EO G σ F v s) vs ss
def RelI {M : MI} (_ : Gx) (_ : St) : Option Int → Option Int → Hp → Hp → Z M.T → Prop := fun b c _ _ _ => c = b
def Cmp {α β : Type} (M : MI) (K : PySem.W.Frag) (xr : Str → Option Value) (W : WX) (t : St → Hp → (β → Hp → Prop) → Prop) (Rel : Gx → St → α → β → Hp → Hp → Z M.T → Prop) (f : Sm M α) : Prop :=
  ∀ (G : Gx) (σ : St) (H F : Hp) (z : Z M.T) (Q : β → Hp → Prop), G.K = K → G.xr = xr → Ok M G σ H F z → HitG M G W σ F (Rel G σ) (f z) Q → t σ H Q

section
variable {M : MI} {G : Gx} {W : WX} {σ : St} {H H' F F' : Hp} {z : Z M.T}
theorem HitG.mono {α β : Type} {R : α → β → Hp → Hp → Z M.T → Prop} {r : Rs α (Z M.T)} {Q : β → Hp → Prop} (h : HitG M G W σ F R r Q) (s : Same F F') : HitG M G W σ F' R r Q := by
  cases r with
  | ok a z => exact fun b H' F1 s1 ok rr => h b H' F1 (s.trans s1) ok rr
  | ex x z => exact fun cls d H' F1 s1 ok xo => h cls d H' F1 (s.trans s1) ok xo
  | bad => exact h
theorem hit_bind {α β α' β' : Type} {R1 : α → β → Hp → Hp → Z M.T → Prop} {R2 : α' → β' → Hp → Hp → Z M.T → Prop} {r : Rs α (Z M.T)} {k : α → Z M.T → Rs α' (Z M.T)} {Q : β' → Hp → Prop} {Q1 : β → Hp → Prop}
    (h : HitG M G W σ F R2 (r.bind k) Q) (hk : ∀ a z1 b H1 F1, r = .ok a z1 → Same F F1 → Ok M G σ H1 F1 z1 → R1 a b F1 H1 z1 → HitG M G W σ F1 R2 (k a z1) Q → Q1 b H1) : HitG M G W σ F R1 r Q1 := by
  cases r with
  | ok a z => exact fun b H' F1 s1 ok rr => hk a z b H' F1 rfl s1 ok rr (HitG.mono h s1)
  | ex x z => exact h
  | bad => exact h

/-! ### operands -/
def opd (f : Sm M S) : Sm M S := fun z => (f z).bind fun s z1 => .ok (match s with | .l xs => .d (.lst xs) | s => s) z1
def escS (s : S) (z : Z M.T) : Rs S (Z M.T) := match s with
  | .d x => .ok (.d x) z
  | .l xs => .ok (.d (.lst xs)) z
  | .m j => .ok (.m j) z
  | .v i => match z.rho[i]? with
    | some (some (.l xs)) => .ok (.d (.lst xs)) { z with rho := z.rho.set i (some (.d (.lst xs))) }
    | some (some (.d x)) => .ok (.d x) z
    | _ => .bad
def escf (f : Sm M S) : Sm M S := fun z => (f z).bind escS
theorem EV.frz (ok : Ok M G σ H F z) {v : V} {xs : List D} (e : EV G σ F H z v (.l xs)) : ∃ F', Same F F' ∧ Ok M G σ H F' z ∧ Da G.K F' v (.lst xs) := by
  obtain ⟨a, vs, rfl, h1, h2, h3, h4, h5, h6⟩ := e
  exact ⟨upd F a (.lst vs), same_upd h3, ok.frz h1 h3 h4 h5 h6, .lst upd_same (h2.mono (same_upd h3))⟩
theorem cmp_opd {K : PySem.W.Frag} {xr : Str → Option Value} {t : TE} {f : Sm M S} (hf : Cmp M K xr W t RelE f) : Cmp M K xr W t RelO (opd f) := by
  intro G σ H F z Q hK hx ok h
  refine hf G σ H F z Q hK hx ok (hit_bind h fun s z1 v H1 F1 _ sm ok1 ev h1 => ?_)
  cases s with
  | d x => exact h1 v H1 F1 (Same.refl _) ok1 ev
  | l xs =>
    obtain ⟨F2, s2, ok2, da⟩ := EV.frz ok1 ev
    exact h1 v H1 F2 s2 ok2 da
  | v i => exact h1 v H1 F1 (Same.refl _) ok1 ev
  | m j => exact h1 v H1 F1 (Same.refl _) ok1 ev
/-- a slot's list is frozen for good -/
theorem Ok.frzSlot (ok : Ok M G σ H F z) {i : Nat} {xs : List D} {v : V} (h : z.rho[i]? = some (some (.l xs))) (hv : σ[i]? = some (some v)) :
    ∃ F', Same F F' ∧ Ok M G σ H F' { z with rho := z.rho.set i (some (.d (.lst xs))) } ∧ Da G.K F' v (.lst xs) := by
  obtain ⟨w, e, a, vs, rfl, h1, h2, h3, h4, h5⟩ := ok.slot i _ h
  rw [hv] at e
  cases e
  have hl : i < z.rho.length := (List.getElem?_eq_some_iff.mp h).1
  have ok1 : Ok M G (σ.set i (some .non)) H F { z with rho := z.rho.set i (some (.d .non)) } := ok.set (v := .non) (s := .d .non) Da.non (fun _ e => by cases e)
  have no : ¬ Owned (σ.set i (some .non)) { z with rho := z.rho.set i (some (.d .non)) } a := fun ⟨j, ys, e1, e2⟩ => by
    by_cases hj : j = i
    · subst hj
      have e1' : (z.rho.set j (some (.d .non)))[j]? = some (some (.l ys)) := e1
      rw [List.getElem?_set_self hl] at e1'
      cases e1'
    · have e1' : (z.rho.set i (some (.d .non)))[j]? = some (some (.l ys)) := e1
      rw [List.getElem?_set_ne (Ne.symm hj)] at e1' e2
      exact hj (ok.dist j i ys xs _ e1' h e2 hv)
  have ok2 := ok1.frz h1 h3 h4 h5 no
  have da : Da G.K (upd F a (.lst vs)) (.ref a) (.lst xs) := .lst upd_same (h2.mono (same_upd h3))
  have ok3 := ok2.set (i := i) (v := .ref a) (s := .d (.lst xs)) da (fun _ e => by cases e)
  have e1 : (σ.set i (some V.non)).set i (some (.ref a)) = σ := by
    rw [List.set_set]
    exact List.ext_getElem? fun n => by
      by_cases hn : n = i
      · subst hn
        rw [List.getElem?_set_self (by rw [← ok.len]; exact hl), hv]
      · rw [List.getElem?_set_ne (Ne.symm hn)]
  rw [e1] at ok3
  have e2 : ({ rho := (z.rho.set i (some (.d .non))).set i (some (.d (.lst xs))), m := z.m } : Z M.T) = { z with rho := z.rho.set i (some (.d (.lst xs))) } := by rw [List.set_set]
  exact ⟨_, same_upd h3, by rw [← e2]; exact ok3, da⟩
theorem cmp_esc {K : PySem.W.Frag} {xr : Str → Option Value} {t : TE} {f : Sm M S} (hf : Cmp M K xr W t RelE f) : Cmp M K xr W t RelO (escf f) := by
  intro G σ H F z Q hK hx ok h
  refine hf G σ H F z Q hK hx ok (hit_bind h fun s z1 v H1 F1 _ sm ok1 ev h1 => ?_)
  cases s with
  | d x => exact h1 v H1 F1 (Same.refl _) ok1 ev
  | l xs =>
    obtain ⟨F2, s2, ok2, da⟩ := EV.frz ok1 ev
    exact h1 v H1 F2 s2 ok2 da
  | m j => exact h1 v H1 F1 (Same.refl _) ok1 ev
  | v i =>
    have ev' : σ[i]? = some (some v) := ev
    simp only [escS] at h1
    split at h1
    · rename_i xs hs
      obtain ⟨F2, s2, ok2, da⟩ := ok1.frzSlot hs ev'
      exact h1 v H1 F2 s2 ok2 da
    · rename_i x hs
      obtain ⟨w, e, q⟩ := ok1.slot i _ hs
      rw [ev'] at e
      cases e
      exact h1 v H1 F1 (Same.refl _) ok1 q
    · exact h1.elim
/-- what an operand reads as -/
def rd {T : Type} (z : Z T) : S → Option D
  | .d x => some x
  | .l xs => some (.lst xs)
  | .v i => match z.rho[i]? with
    | some (some (.d x)) => some x
    | some (some (.l xs)) => some (.lst xs)
    | _ => none
  | .m _ => none
def Rv (K : PySem.W.Frag) (F H : Hp) (v : V) (x : D) : Prop := Da K F v x ∨ ∃ a vs xs, v = .ref a ∧ x = .lst xs ∧ H a = some (.lst vs) ∧ DaAll K F vs xs
theorem EO.rv (ok : Ok M G σ H F z) {v : V} {s : S} {x : D} (e : EO G σ F v s) (h : rd z s = some x) : Rv G.K F H v x := by
  cases s with
  | d y => cases h; exact .inl e
  | l _ => exact e.elim
  | m _ => cases h
  | v i =>
    have e' : σ[i]? = some (some v) := e
    simp only [rd] at h
    split at h
    · rename_i y hs
      cases h
      obtain ⟨w, e1, q⟩ := ok.slot i _ hs
      rw [e'] at e1
      cases e1
      exact .inl q
    · rename_i xs hs
      cases h
      obtain ⟨w, e1, a, vs, rfl, h1, h2, _⟩ := ok.slot i _ hs
      rw [e'] at e1
      cases e1
      exact .inr ⟨a, vs, xs, rfl, rfl, h1, h2⟩
    · cases h

/-! ### results of operations -/
inductive R where
  | d (x : D)
  /-- a tuple, an old one or a new one -/
  | t (xs : List D)
  | l (xs : List D)
def R.toS : R → S
  | .d x => .d x
  | .t xs => .d (.tup xs)
  | .l xs => .l xs
def Hit0 (K : PySem.W.Frag) (F H : Hp) (r : Option R) (Q : VK) : Prop := match r with
  | some (.d y) => ∀ v, Da K F v y → Q v H
  | some (.t ys) => (∀ v, Da K F v (.tup ys) → Q v H) ∧ ∀ p vs, H p = none → DaAll K F vs ys → Q (.ref p) (upd H p (.tup vs))
  | some (.l ys) => ∀ p vs, H p = none → DaAll K F vs ys → Q (.ref p) (upd H p (.lst vs))
  | none => False
def fin (o : Option R) : Sm M S := fun z => match o with
  | some r => .ok r.toS z
  | none => .bad
theorem fin_hit (ok : Ok M G σ H F z) {o : Option R} {Q : VK} (h : HitG M G W σ F (RelE G σ) (fin o z) Q) : Hit0 G.K F H o Q := by
  cases o with
  | none => exact h
  | some r =>
    cases r with
    | d y => exact fun v hv => h v H F (Same.refl _) ok hv
    | t ys => exact ⟨fun v hv => h v H F (Same.refl _) ok hv, fun p vs hp hv => h (.ref p) (upd H p (.tup vs)) (upd F p (.tup vs)) (same_upd (ok.freshF hp)) (ok.newF hp _ tupNT) (.tup (SqT.of upd_same) (hv.mono (same_upd (ok.freshF hp))))⟩
    | l ys => exact fun p vs hp hv => h (.ref p) (upd H p (.lst vs)) F (Same.refl _) (ok.new hp _) ⟨p, vs, rfl, upd_same, hv, ok.freshF hp, ok.freshP hp, ok.freshM hp, ok.freshO hp⟩
def Op2 (K : PySem.W.Frag) (r : R2) (g : D → D → Option R) : Prop := ∀ (F H : Hp) (x y : V) (a b : D) (Q : VK), SameX F H → Rv K F H x a → Rv K F H y b → Hit0 K F H (g a b) Q → r x y H Q
def Op1 (K : PySem.W.Frag) (r : V → Hp → VK → Prop) (g : D → Option R) : Prop := ∀ (F H : Hp) (x : V) (a : D) (Q : VK), SameX F H → Rv K F H x a → Hit0 K F H (g a) Q → r x H Q
def OpN (K : PySem.W.Frag) (r : List V → Hp → VK → Prop) (g : List D → Option R) : Prop := ∀ (F H : Hp) (xs : List V) (as : List D) (Q : VK), SameX F H → Paired (Rv K F H) xs as → Hit0 K F H (g as) Q → r xs H Q
def Op1N (K : PySem.W.Frag) (r : V → List V → Hp → VK → Prop) (g : D → List D → Option R) : Prop := ∀ (F H : Hp) (x : V) (xs : List V) (a : D) (as : List D) (Q : VK), SameX F H → Rv K F H x a → Paired (Rv K F H) xs as → Hit0 K F H (g a as) Q → r x xs H Q

/-! ### the judgements -/
def DE {ι : Type} (M : MI) (xr : Str → Option Value) (K : PySem.W.Frag) (X : ι → Cx) (W : WX) (e : Expr) (f : Sm M S) : Prop := ∃ t, (∀ i, PE (X i) e t) ∧ Cmp M K xr W t RelE f
def DT {ι : Type} (M : MI) (xr : Str → Option Value) (K : PySem.W.Frag) (X : ι → Cx) (W : WX) (e : Expr) (f : Sm M Bool) : Prop := ∃ t, (∀ i, PT (X i) e t) ∧ Cmp M K xr W t RelB f
def DA {ι : Type} (M : MI) (xr : Str → Option Value) (K : PySem.W.Frag) (X : ι → Cx) (W : WX) (es : List Expr) (f : Sm M (List S)) : Prop := ∃ t, (∀ i, PA (X i) es t) ∧ Cmp M K xr W t RelA f
def DO {ι : Type} (M : MI) (xr : Str → Option Value) (K : PySem.W.Frag) (X : ι → Cx) (W : WX) (e : Option Expr) (f : Sm M (Option Int)) : Prop := ∃ t, (∀ i, PO (X i) e t) ∧ Cmp M K xr W t RelI f

/-! ### mirrors -/
def eVar (i : Nat) : Sm M S := fun z => match z.rho[i]? with
  | some (some (.l _)) => .ok (.v i) z
  | some (some s) => .ok s z
  | _ => .bad
def eC (x : D) : Sm M S := fun z => .ok (.d x) z
def rdf {α : Type} (g : D → Option α) (s : S) (z : Z M.T) : Option α := (rd z s).bind g
def eBin (g : D → D → Option R) (f f' : Sm M S) : Sm M S := fun z => (opd f z).bind fun s z1 => (opd f' z1).bind fun s' z2 => fin ((rd z2 s).bind fun x => (rd z2 s').bind fun y => g x y) z2
def eUn (g : D → Option R) (f : Sm M S) : Sm M S := fun z => (opd f z).bind fun s z1 => fin ((rd z1 s).bind g) z1
def tOf (f : Sm M S) : Sm M Bool := fun z => (f z).bind fun s z1 => match s with
  | .d (.bl b) => .ok b z1
  | _ => .bad
def tTru (g : D → Option Bool) (f : Sm M S) : Sm M Bool := fun z => (opd f z).bind fun s z1 => Rs.opt ((rd z1 s).bind g) z1
def tAndM (f g : Sm M Bool) : Sm M Bool := fun z => (f z).bind fun b z1 => if b = true then g z1 else .ok false z1
def tOrM (f g : Sm M Bool) : Sm M Bool := fun z => (f z).bind fun b z1 => if b = true then .ok true z1 else g z1
def tNotM (f : Sm M Bool) : Sm M Bool := fun z => (f z).bind fun b z1 => .ok (!b) z1
def eAndM (f g : Sm M S) : Sm M S := fun z => (tOf f z).bind fun b z1 => if b = true then g z1 else .ok (.d (.bl false)) z1
def eOrM (f g : Sm M S) : Sm M S := fun z => (tOf f z).bind fun b z1 => if b = true then .ok (.d (.bl true)) z1 else g z1
def eNotM (f : Sm M S) : Sm M S := fun z => (tOf f z).bind fun b z1 => .ok (.d (.bl (!b))) z1
def eIf (c : Sm M Bool) (f g : Sm M S) : Sm M S := fun z => (c z).bind fun b z1 => if b = true then f z1 else g z1
def aNil : Sm M (List S) := fun z => .ok [] z
def aCons (f : Sm M S) (g : Sm M (List S)) : Sm M (List S) := fun z => (f z).bind fun s z1 => (g z1).bind fun ss z2 => .ok (s :: ss) z2
def dsOf : List S → Option (List D)
  | [] => some []
  | .d x :: r => (dsOf r).bind fun xs => some (x :: xs)
  | _ :: _ => none
def lim : Nat := 1000000
theorem lim_line : lim < sizeLine := by rw [sizeLine_eq]; decide
def eTup (g : Sm M (List S)) : Sm M S := fun z => (g z).bind fun ss z1 => match dsOf ss with
  | some ds => if ds.length ≤ lim then .ok (.d (.tup ds)) z1 else .bad
  | none => .bad
def eLst (g : Sm M (List S)) : Sm M S := fun z => (g z).bind fun ss z1 => match dsOf ss with
  | some ds => if ds.length ≤ lim then .ok (.l ds) z1 else .bad
  | none => .bad
def rds {T : Type} (z : Z T) : List S → Option (List D)
  | [] => some []
  | s :: r => (rd z s).bind fun x => (rds z r).bind fun xs => some (x :: xs)
def eFn (g : List D → Option R) (f : Sm M (List S)) : Sm M S := fun z => (f z).bind fun ss z1 => fin ((rds z1 ss).bind g) z1
end
end G
namespace G
open PySem L2
section
variable {ι : Type} {M : MI} {xr : Str → Option Value} {X : ι → Cx} {W : WX} {K : PySem.W.Frag}

theorem cmp_var {i : Nat} : Cmp M K xr W (tVar i) RelE (eVar i) := by
  intro G σ H F z Q _ _ ok h
  unfold eVar at h
  split at h
  · rename_i xs hs
    obtain ⟨v, e, _⟩ := ok.slot i _ hs
    exact ⟨v, e, h v H F (Same.refl _) ok e⟩
  · rename_i s hn hs
    obtain ⟨v, e, q⟩ := ok.slot i _ hs
    refine ⟨v, e, h v H F (Same.refl _) ok ?_⟩
    cases s with
    | d x => exact q
    | l xs => exact (hn xs rfl).elim
    | v j => exact q.elim
    | m j => exact q
  · exact h.elim
theorem de_var (i : Nat) {x : Str} {pos : Pos} (hN : ∀ j, (X j).N[i]? = some x := by intro _; rfl) (hv : ∀ j, Vis (X j).env.scope x := by first | exact fun _ => Or.inl rfl | exact fun _ => Or.inr (Or.inl rfl) | exact fun _ => Or.inr (Or.inr rfl)) (hd : (x == ("__debug__" : Str)) = false := by decide)
    (hcd : (x == ("__classdict__" : Str)) = false := by decide) : DE M xr K X W (.Name x pos) (eVar i) := ⟨_, fun j => pe_var (hN j) (hv j) hd hcd, cmp_var⟩
theorem cmp_c {v : V} {d : D} (hd : ∀ F, Da K F v d) : Cmp M K xr W (tC v) RelE (eC d) := fun G σ H F z Q hK _ ok h => h v H F (Same.refl _) ok (by subst hK; exact hd F)
theorem de_int {i j pos} : DE M xr K X W (.Constant (.int i) j pos) (eC (.int i)) := ⟨_, fun _ => pe_int, cmp_c fun _ => .int i⟩
theorem de_str {i j pos} : DE M xr K X W (.Constant (.str i) j pos) (eC (.str i)) := ⟨_, fun _ => pe_str, cmp_c fun _ => .str _⟩
theorem de_bl {i j pos} : DE M xr K X W (.Constant (.bool i) j pos) (eC (.bl i)) := ⟨_, fun _ => pe_bl, cmp_c fun _ => .bl i⟩
theorem de_non {j pos} : DE M xr K X W (.Constant .none j pos) (eC .non) := ⟨_, fun _ => pe_non, cmp_c fun _ => .non⟩
theorem de_glob {x : Str} {v : V} {u : Value} {d : D} {pos : Pos} (hg : ∀ j, Gl (X j) x) (hm : ∀ j, (X j).mg x = some u) (r : RelV v u) (hd : ∀ F, Da K F v d) (hb : (x == ("__debug__" : Str)) = false := by decide) : DE M xr K X W (.Name x pos) (eC d) := ⟨_, fun j => pe_glob (hg j) (hm j) r hb, cmp_c hd⟩

/-! ### operators -/
theorem cmp_bin {r : R2} {g : D → D → Option R} {ta tb : TE} {f f' : Sm M S} (hd : Op2 K r g) (ha : Cmp M K xr W ta RelE f) (hb : Cmp M K xr W tb RelE f') : Cmp M K xr W (tOp r ta tb) RelE (eBin g f f') := by
  intro G σ H F z Q hK hx ok h
  refine cmp_opd ha G σ H F z _ hK hx ok (hit_bind h fun s z1 v H1 F1 _ sm1 ok1 e1 h1 => ?_)
  refine cmp_opd hb G σ H1 F1 z1 _ hK hx ok1 (hit_bind h1 fun s' z2 v' H2 F2 _ sm2 ok2 e2 h2 => ?_)
  have q := fin_hit ok2 h2
  subst hK
  cases ea : rd z2 s with
  | none => rw [ea] at q; exact q.elim
  | some x =>
    cases eb : rd z2 s' with
    | none => rw [ea, eb] at q; exact q.elim
    | some y =>
      rw [ea, eb] at q
      exact hd F2 H2 v v' x y Q ok2.sub (EO.rv ok2 (EO.mono sm2 e1) ea) (EO.rv ok2 e2 eb) q
theorem de_bin {op : Operator} {r : R2} {g : D → D → Option R} {a b : Expr} {f f' : Sm M S} {pos : Pos} (ho : ∀ j, OpR (X j) (binaryOp op) r) (hd : Op2 K r g) (ha : DE M xr K X W a f) (hb : DE M xr K X W b f') : DE M xr K X W (.BinOp a op b pos) (eBin g f f') := by
  obtain ⟨ta, pa, ca⟩ := ha
  obtain ⟨tb, pb, cb⟩ := hb
  exact ⟨_, fun j => pe_op (ho j) (pa j) (pb j), cmp_bin hd ca cb⟩
theorem de_cmp {op : CmpOp} {r : R2} {g : D → D → Option R} {a b : Expr} {f f' : Sm M S} {pos : Pos} (ho : ∀ j, OpR (X j) (compareOp op) r) (hd : Op2 K r g) (ha : DE M xr K X W a f) (hb : DE M xr K X W b f') (hm : behindInMarks op b = false) : DE M xr K X W (.Compare a [op] [b] pos) (eBin g f f') := by
  obtain ⟨ta, pa, ca⟩ := ha
  obtain ⟨tb, pb, cb⟩ := hb
  exact ⟨_, fun j => pe_cmpR (ho j) (pa j) (pb j) hm, cmp_bin hd ca cb⟩
theorem cmp_tOf {t : TE} {f : Sm M S} (h : Cmp M K xr W t RelE f) : Cmp M K xr W (tTest t) RelB (tOf f) := by
  intro G σ H F z Q hK hx ok hh
  refine h G σ H F z _ hK hx ok (hit_bind hh fun s z1 v H1 F1 _ sm1 ok1 e1 h1 => ?_)
  cases s with
  | d x =>
    cases x with
    | bl b =>
      cases (show Da G.K F1 v (.bl b) from e1)
      exact ⟨b, rfl, h1 b H1 F1 (Same.refl _) ok1 rfl⟩
    | _ => exact h1.elim
  | _ => exact h1.elim
theorem dt_cmp {op : CmpOp} {r : R2} {g : D → D → Option R} {a b : Expr} {f f' : Sm M S} {pos : Pos} (ho : ∀ j, OpR (X j) (compareOp op) r) (hd : Op2 K r g) (ha : DE M xr K X W a f) (hb : DE M xr K X W b f') (hm : behindInMarks op b = false) : DT M xr K X W (.Compare a [op] [b] pos) (tOf (eBin g f f')) := by
  obtain ⟨ta, pa, ca⟩ := ha
  obtain ⟨tb, pb, cb⟩ := hb
  exact ⟨_, fun j => pt_cmpR (ho j) (pa j) (pb j) hm, cmp_tOf (cmp_bin hd ca cb)⟩
/-- an expression that gives a bool, as a test -/
theorem dt_val {e : Expr} {f : Sm M S} (h : DE M xr K X W e f) (he : ∀ j whole, isTrue e (X j).env whole = (do let v ← whole; standAt e.pos; holding [v] (truthy v)) := by intro _ _; rfl) : DT M xr K X W e (tOf f) := by
  obtain ⟨t, p, c⟩ := h
  exact ⟨_, fun j => pt_val (p j) (he j), cmp_tOf c⟩
theorem cmp_and {t u : TT} {f g : Sm M Bool} (h : Cmp M K xr W t RelB f) (h' : Cmp M K xr W u RelB g) : Cmp M K xr W (tAnd t u) RelB (tAndM f g) := by
  intro G σ H F z Q hK hx ok hh
  refine h G σ H F z _ hK hx ok (hit_bind hh fun b z1 c H1 F1 _ sm1 ok1 e1 h1 => ?_)
  cases (show c = b from e1)
  cases b with
  | true => exact h' G σ H1 F1 z1 Q hK hx ok1 h1
  | false => exact h1 false H1 F1 (Same.refl _) ok1 rfl
theorem cmp_or {t u : TT} {f g : Sm M Bool} (h : Cmp M K xr W t RelB f) (h' : Cmp M K xr W u RelB g) : Cmp M K xr W (tOr t u) RelB (tOrM f g) := by
  intro G σ H F z Q hK hx ok hh
  refine h G σ H F z _ hK hx ok (hit_bind hh fun b z1 c H1 F1 _ sm1 ok1 e1 h1 => ?_)
  cases (show c = b from e1)
  cases b with
  | false => exact h' G σ H1 F1 z1 Q hK hx ok1 h1
  | true => exact h1 true H1 F1 (Same.refl _) ok1 rfl
def DW {ι : Type} (M : MI) (xr : Str → Option Value) (K : PySem.W.Frag) (X : ι → Cx) (W : WX) (e : Expr) (f : Sm M Bool) : Prop := ∃ t, (∀ j, PW (X j) e t) ∧ Cmp M K xr W t RelB f
theorem dw_and1 {a : Expr} {f : Sm M Bool} {pos : Pos} (h : DT M xr K X W a f) : DW M xr K X W (.BoolOp .And [a] pos) f := by
  obtain ⟨t, p, c⟩ := h
  exact ⟨_, fun j => pw_and1 (p j), c⟩
theorem dw_or1 {a : Expr} {f : Sm M Bool} {pos : Pos} (h : DT M xr K X W a f) : DW M xr K X W (.BoolOp .Or [a] pos) f := by
  obtain ⟨t, p, c⟩ := h
  exact ⟨_, fun j => pw_or1 (p j), c⟩
theorem dw_and {a b : Expr} {r : List Expr} {f g : Sm M Bool} {pos : Pos} (h : DT M xr K X W a f) (h' : DW M xr K X W (.BoolOp .And (b :: r) pos) g) : DW M xr K X W (.BoolOp .And (a :: b :: r) pos) (tAndM f g) := by
  obtain ⟨t, p, c⟩ := h
  obtain ⟨t', p', c'⟩ := h'
  exact ⟨_, fun j => pw_and (p j) (p' j), cmp_and c c'⟩
theorem dw_or {a b : Expr} {r : List Expr} {f g : Sm M Bool} {pos : Pos} (h : DT M xr K X W a f) (h' : DW M xr K X W (.BoolOp .Or (b :: r) pos) g) : DW M xr K X W (.BoolOp .Or (a :: b :: r) pos) (tOrM f g) := by
  obtain ⟨t, p, c⟩ := h
  obtain ⟨t', p', c'⟩ := h'
  exact ⟨_, fun j => pw_or (p j) (p' j), cmp_or c c'⟩
theorem dt_w {e : Expr} {f : Sm M Bool} (h : DW M xr K X W e f) : DT M xr K X W e f := by
  obtain ⟨t, p, c⟩ := h
  exact ⟨_, fun j => (p j).pt, c⟩
theorem dt_not {a : Expr} {f : Sm M Bool} {pos : Pos} (h : DT M xr K X W a f) : DT M xr K X W (.UnaryOp .Not a pos) (tNotM f) := by
  obtain ⟨t, p, c⟩ := h
  refine ⟨_, fun j => pt_not (p j), fun G σ H F z Q hK hx ok hh => ?_⟩
  refine c G σ H F z _ hK hx ok (hit_bind hh fun b z1 c H1 F1 _ sm1 ok1 e1 h1 => ?_)
  cases (show c = b from e1)
  exact h1 _ H1 F1 (Same.refl _) ok1 rfl
/-! ### and, or, not as values (all but the last are bools) -/
theorem de_one {op} {a : Expr} {f : Sm M S} {pos : Pos} (h : DE M xr K X W a f) : DE M xr K X W (.BoolOp op [a] pos) f := by
  obtain ⟨t, p, c⟩ := h
  exact ⟨_, fun j => pe_one (p j), c⟩
theorem de_and {a b : Expr} {r : List Expr} {f g : Sm M S} {pos : Pos} (h : DE M xr K X W a f) (h' : DE M xr K X W (.BoolOp .And (b :: r) pos) g) : DE M xr K X W (.BoolOp .And (a :: b :: r) pos) (eAndM f g) := by
  obtain ⟨t, p, c⟩ := h
  obtain ⟨t', p', c'⟩ := h'
  refine ⟨_, fun j => pe_and (p j) (p' j), fun G σ H F z Q hK hx ok hh => ?_⟩
  refine cmp_tOf c G σ H F z (fun b H1 => if b = true then t' σ H1 Q else Q (.bl false) H1) hK hx ok (hit_bind hh fun b z1 c H1 F1 _ sm1 ok1 e1 h1 => ?_)
  cases (show c = b from e1)
  cases b with
  | true => exact c' G σ H1 F1 z1 Q hK hx ok1 h1
  | false => exact h1 (.bl false) H1 F1 (Same.refl _) ok1 (Da.bl false)
theorem de_or {a b : Expr} {r : List Expr} {f g : Sm M S} {pos : Pos} (h : DE M xr K X W a f) (h' : DE M xr K X W (.BoolOp .Or (b :: r) pos) g) : DE M xr K X W (.BoolOp .Or (a :: b :: r) pos) (eOrM f g) := by
  obtain ⟨t, p, c⟩ := h
  obtain ⟨t', p', c'⟩ := h'
  refine ⟨_, fun j => pe_or (p j) (p' j), fun G σ H F z Q hK hx ok hh => ?_⟩
  refine cmp_tOf c G σ H F z (fun b H1 => if b = true then Q (.bl true) H1 else t' σ H1 Q) hK hx ok (hit_bind hh fun b z1 c H1 F1 _ sm1 ok1 e1 h1 => ?_)
  cases (show c = b from e1)
  cases b with
  | false => exact c' G σ H1 F1 z1 Q hK hx ok1 h1
  | true => exact h1 (.bl true) H1 F1 (Same.refl _) ok1 (Da.bl true)
theorem de_not {a : Expr} {f : Sm M S} {pos : Pos} (h : DE M xr K X W a f) : DE M xr K X W (.UnaryOp .Not a pos) (eNotM f) := by
  obtain ⟨t, p, c⟩ := h
  refine ⟨_, fun j => pe_not (p j), fun G σ H F z Q hK hx ok hh => ?_⟩
  refine cmp_tOf c G σ H F z (fun b H1 => Q (.bl (!b)) H1) hK hx ok (hit_bind hh fun b z1 c H1 F1 _ sm1 ok1 e1 h1 => ?_)
  cases (show c = b from e1)
  exact h1 (.bl (!b)) H1 F1 (Same.refl _) ok1 (Da.bl _)
theorem de_if {c a b : Expr} {fc : Sm M Bool} {f g : Sm M S} {pos : Pos} (hc : DT M xr K X W c fc) (h : DE M xr K X W a f) (h' : DE M xr K X W b g) : DE M xr K X W (.IfExp c a b pos) (eIf fc f g) := by
  obtain ⟨t, p, c0⟩ := hc
  obtain ⟨t1, p1, c1⟩ := h
  obtain ⟨t2, p2, c2⟩ := h'
  refine ⟨_, fun j => pe_ifExp (p j) (p1 j) (p2 j), fun G σ H F z Q hK hx ok hh => ?_⟩
  refine c0 G σ H F z _ hK hx ok (hit_bind hh fun b z1 c H1 F1 _ sm1 ok1 e1 h1 => ?_)
  cases (show c = b from e1)
  cases b with
  | true => exact c1 G σ H1 F1 z1 Q hK hx ok1 h1
  | false => exact c2 G σ H1 F1 z1 Q hK hx ok1 h1

/-! ### argument lists, displays -/
theorem da_nil : DA M xr K X W [] aNil := ⟨_, fun _ => pa_nil, fun G σ H F z Q _ _ ok h => h [] H F (Same.refl _) ok .nil⟩
theorem paired_mono {G : Gx} {σ : St} {F F' : Hp} (h : Same F F') : ∀ {vs : List V} {ss : List S}, Paired (fun v s => EO G σ F v s) vs ss → Paired (fun v s => EO G σ F' v s) vs ss
  | _, _, .nil => .nil
  | _, _, .cons a b => .cons (EO.mono h a) (paired_mono h b)
theorem cmp_cons {te : TE} {t : TA} {f : Sm M S} {g : Sm M (List S)} (c : Cmp M K xr W te RelO f) (c' : Cmp M K xr W t RelA g) : Cmp M K xr W (tCons te t) RelA (aCons f g) := by
  intro G σ H F z Q hK hx ok hh
  refine c G σ H F z _ hK hx ok (hit_bind hh fun s z1 v H1 F1 _ sm1 ok1 e1 h1 => ?_)
  refine c' G σ H1 F1 z1 _ hK hx ok1 (hit_bind h1 fun ss z2 vs H2 F2 _ sm2 ok2 e2 h2 => ?_)
  exact h2 (v :: vs) H2 F2 (Same.refl _) ok2 (.cons (EO.mono sm2 e1) e2)
/-- an argument that is only read -/
theorem da_rd {e : Expr} {es : List Expr} {f : Sm M S} {g : Sm M (List S)} (h : DE M xr K X W e f) (h' : DA M xr K X W es g) (hs : ∀ j, starEach (e :: es) (X j).env = (false, eval e (X j).env) :: starEach es (X j).env := by intro _; rfl) : DA M xr K X W (e :: es) (aCons (opd f) g) := by
  obtain ⟨t, p, c⟩ := h
  obtain ⟨t', p', c'⟩ := h'
  exact ⟨_, fun j => pa_cons (p j) (p' j) (hs j), cmp_cons (cmp_opd c) c'⟩
/-- an argument that is kept -/
theorem da_es {e : Expr} {es : List Expr} {f : Sm M S} {g : Sm M (List S)} (h : DE M xr K X W e f) (h' : DA M xr K X W es g) (hs : ∀ j, starEach (e :: es) (X j).env = (false, eval e (X j).env) :: starEach es (X j).env := by intro _; rfl) : DA M xr K X W (e :: es) (aCons (escf f) g) := by
  obtain ⟨t, p, c⟩ := h
  obtain ⟨t', p', c'⟩ := h'
  exact ⟨_, fun j => pa_cons (p j) (p' j) (hs j), cmp_cons (cmp_esc c) c'⟩
theorem paired_ds {G : Gx} {σ : St} {F : Hp} : ∀ {vs : List V} {ss : List S} {ds : List D}, Paired (fun v s => EO G σ F v s) vs ss → dsOf ss = some ds → DaAll G.K F vs ds
  | _, _, _, .nil, h => by cases h; exact .nil
  | _, s :: ss, ds, .cons a b, h => by
    cases s with
    | d x =>
      unfold dsOf at h
      cases e : dsOf ss with
      | none => rw [e] at h; cases h
      | some xs =>
        rw [e] at h
        cases h
        exact .cons a (paired_ds b e)
    | _ => cases h
theorem de_tup {es : List Expr} {g : Sm M (List S)} {x1 pos} (h : DA M xr K X W es g) : DE M xr K X W (.Tuple es x1 pos) (eTup g) := by
  obtain ⟨t, p, c⟩ := h
  refine ⟨_, fun j => pe_tup (p j), fun G σ H F z Q hK hx ok hh => ?_⟩
  refine c G σ H F z _ hK hx ok (hit_bind hh fun ss z1 vs H1 F1 _ sm1 ok1 e1 h1 => ?_)
  cases e : dsOf ss with
  | none => rw [e] at h1; exact h1.elim
  | some ds =>
    rw [e] at h1
    have da := paired_ds e1 e
    by_cases hl : ds.length ≤ lim
    · simp only [if_pos hl] at h1
      refine ⟨by rw [da.length]; exact Nat.le_trans hl (Nat.le_of_lt lim_line), fun p hp => ?_⟩
      exact h1 (.ref p) (upd H1 p (.tup vs)) (upd F1 p (.tup vs)) (same_upd (ok1.freshF hp)) (ok1.newF hp _ tupNT) (.tup (SqT.of upd_same) (da.mono (same_upd (ok1.freshF hp))))
    · simp only [if_neg hl] at h1
      exact h1.elim
theorem de_lst {es : List Expr} {g : Sm M (List S)} {pos} (h : DA M xr K X W es g) : DE M xr K X W (.List es pos) (eLst g) := by
  obtain ⟨t, p, c⟩ := h
  refine ⟨_, fun j => pe_lst (p j), fun G σ H F z Q hK hx ok hh => ?_⟩
  refine c G σ H F z _ hK hx ok (hit_bind hh fun ss z1 vs H1 F1 _ sm1 ok1 e1 h1 => ?_)
  cases e : dsOf ss with
  | none => rw [e] at h1; exact h1.elim
  | some ds =>
    rw [e] at h1
    have da := paired_ds e1 e
    by_cases hl : ds.length ≤ lim
    · simp only [if_pos hl] at h1
      refine ⟨by rw [da.length]; exact Nat.le_trans hl (Nat.le_of_lt lim_line), fun p hp => ?_⟩
      exact h1 (.ref p) (upd H1 p (.lst vs)) F1 (Same.refl _) (ok1.new hp _) ⟨p, vs, rfl, upd_same, da, ok1.freshF hp, ok1.freshP hp, ok1.freshM hp, ok1.freshO hp⟩
    · simp only [if_neg hl] at h1
      exact h1.elim

/-! ### built-in functions and classes by name -/
theorem paired_rv {G : Gx} {σ : St} {H F : Hp} {z : Z M.T} (ok : Ok M G σ H F z) : ∀ {vs : List V} {ss : List S} {ds : List D}, Paired (fun v s => EO G σ F v s) vs ss → rds z ss = some ds → Paired (Rv G.K F H) vs ds
  | _, _, _, .nil, h => by cases h; exact .nil
  | _, s :: ss, ds, .cons a b, h => by
    unfold rds at h
    cases e : rd z s with
    | none => rw [e] at h; cases h
    | some x =>
      cases e2 : rds z ss with
      | none => rw [e, e2] at h; cases h
      | some xs =>
        rw [e, e2] at h
        cases h
        exact .cons (EO.rv ok a e) (paired_rv ok b e2)
theorem cmp_fn {r : List V → Hp → VK → Prop} {g : List D → Option R} {t : TA} {f : Sm M (List S)} (hd : OpN K r g) (c : Cmp M K xr W t RelA f) : Cmp M K xr W (tCB r t) RelE (eFn g f) := by
  intro G σ H F z Q hK hx ok hh
  refine c G σ H F z _ hK hx ok (hit_bind hh fun ss z1 vs H1 F1 _ sm1 ok1 e1 h1 => ?_)
  have q := fin_hit ok1 h1
  subst hK
  cases e : rds z1 ss with
  | none => rw [e] at q; exact q.elim
  | some ds =>
    rw [e] at q
    exact hd F1 H1 vs ds Q ok1.sub (paired_rv ok1 e1 e) q
theorem de_callB {x : Str} {id : String} {r : List V → Hp → VK → Prop} {g : List D → Option R} {e : Expr} {es : List Expr} {f : Sm M (List S)} {p pos : Pos} (hc : ∀ j, CallR (X j) (.builtin id) r) (hd : OpN K r g) (hg : ∀ j, Gl (X j) x) (hm : ∀ j, (X j).mg x = none) (hv : bootBuiltins x = some (.builtin id))
    (h : DA M xr K X W (e :: es) f) (hn : x ≠ "__name__" := by decide) (hdb : (x == ("__debug__" : Str)) = false := by decide)
    (he : ∀ j, starEach (e :: es) (X j).env = (false, eval e (X j).env) :: starEach es (X j).env := by intro _; rfl) (hpl : ∀ j, (backTo pos (starEach es (X j).env)).any (·.1) = false := by intro _; rfl) : DE M xr K X W (.Call (.Name x p) (e :: es) [] pos) (eFn g f) := by
  obtain ⟨t, pa, c⟩ := h
  exact ⟨_, fun j => pe_callB (hc j) (hg j) (hm j) hv (pa j) hn hdb (he j) (hpl j), cmp_fn hd c⟩
theorem de_callTy {x : Str} {T : String} {r : List V → Hp → VK → Prop} {g : List D → Option R} {e : Expr} {es : List Expr} {f : Sm M (List S)} {p pos : Pos} (hc : ∀ j, CallR (X j) (.type T) r) (hd : OpN K r g) (hg : ∀ j, Gl (X j) x) (hm : ∀ j, (X j).mg x = none) (hv : bootBuiltins x = some (.type T))
    (h : DA M xr K X W (e :: es) f) (hn : x ≠ "__name__" := by decide) (hdb : (x == ("__debug__" : Str)) = false := by decide)
    (he : ∀ j, starEach (e :: es) (X j).env = (false, eval e (X j).env) :: starEach es (X j).env := by intro _; rfl) (hpl : ∀ j, (backTo pos (starEach es (X j).env)).any (·.1) = false := by intro _; rfl) : DE M xr K X W (.Call (.Name x p) (e :: es) [] pos) (eFn g f) := by
  obtain ⟨t, pa, c⟩ := h
  exact ⟨_, fun j => pe_callTy (hc j) (hg j) (hm j) hv (pa j) hn hdb (he j) (hpl j), cmp_fn hd c⟩

/-! ### subscripts -/
theorem de_ix {r : R2} {g : D → D → Option R} {a b : Expr} {f f' : Sm M S} {pos : Pos} (ho : ∀ j, IxR (X j) r) (hd : Op2 K r g) (ha : DE M xr K X W a f) (hb : DE M xr K X W b f') (hs : PlainIx b := by exact fun _ _ => rfl) : DE M xr K X W (.Subscript a b pos) (eBin g f f') := by
  obtain ⟨ta, pa, ca⟩ := ha
  obtain ⟨tb, pb, cb⟩ := hb
  exact ⟨_, fun j => pe_ix (ho j) (pa j) (pb j) hs, cmp_bin hd ca cb⟩
theorem do_none : DO M xr K X W none (fun z => .ok none z) := ⟨_, fun _ => po_none, fun G σ H F z Q _ _ ok h => h none H F (Same.refl _) ok rfl⟩
def oInt (f : Sm M S) : Sm M (Option Int) := fun z => (opd f z).bind fun s z1 => match s with
  | .d (.int i) => .ok (some i) z1
  | _ => .bad
theorem do_some {e : Expr} {f : Sm M S} (h : DE M xr K X W e f) : DO M xr K X W (some e) (oInt f) := by
  obtain ⟨t, p, c⟩ := h
  refine ⟨_, fun j => po_some (p j), fun G σ H F z Q hK hx ok hh => ?_⟩
  refine cmp_opd c G σ H F z _ hK hx ok (hit_bind hh fun s z1 v H1 F1 _ sm1 ok1 e1 h1 => ?_)
  cases s with
  | d x =>
    cases x with
    | int i =>
      cases (show Da G.K F1 v (.int i) from e1)
      exact ⟨i, rfl, h1 (some i) H1 F1 (Same.refl _) ok1 rfl⟩
    | _ => exact h1.elim
  | _ => exact h1.elim
def eSl (g : D → Option Int → Option Int → Option R) (f : Sm M S) (lo hi : Sm M (Option Int)) : Sm M S := fun z => (opd f z).bind fun s z1 => (lo z1).bind fun a z2 => (hi z2).bind fun b z3 => fin ((rd z3 s).bind fun x => g x a b) z3
def OpS (K : PySem.W.Frag) (r : V → Option Int → Option Int → Hp → VK → Prop) (g : D → Option Int → Option Int → Option R) : Prop := ∀ (F H : Hp) (x : V) (a : D) (lo hi : Option Int) (Q : VK), SameX F H → Rv K F H x a → Hit0 K F H (g a lo hi) Q → r x lo hi H Q
theorem de_slice {r : V → Option Int → Option Int → Hp → VK → Prop} {g : D → Option Int → Option Int → Option R} {e : Expr} {lo hi : Option Expr} {f : Sm M S} {fl fh : Sm M (Option Int)} {p2 pos : Pos} (hr : ∀ j, SlR (X j) r) (hd : OpS K r g) (h : DE M xr K X W e f) (hl : DO M xr K X W lo fl) (hh : DO M xr K X W hi fh) :
    DE M xr K X W (.Subscript e (.Slice lo hi none p2) pos) (eSl g f fl fh) := by
  obtain ⟨t, p, c⟩ := h
  obtain ⟨tl, pl, cl⟩ := hl
  obtain ⟨th, ph, ch⟩ := hh
  refine ⟨_, fun j => pe_slice (hr j) (p j) (pl j) (ph j), fun G σ H F z Q hK hx ok hh => ?_⟩
  refine cmp_opd c G σ H F z _ hK hx ok (hit_bind hh fun s z1 v H1 F1 _ sm1 ok1 e1 h1 => ?_)
  refine cl G σ H1 F1 z1 _ hK hx ok1 (hit_bind h1 fun a z2 a' H2 F2 _ sm2 ok2 e2 h2 => ?_)
  refine ch G σ H2 F2 z2 _ hK hx ok2 (hit_bind h2 fun b z3 b' H3 F3 _ sm3 ok3 e3 h3 => ?_)
  cases (show a' = a from e2)
  cases (show b' = b from e3)
  have q := fin_hit ok3 h3
  cases e : rd z3 s with
  | none => rw [e] at q; exact q.elim
  | some x =>
    rw [e] at q
    have hd' := hd F3 H3 v x a b Q
    rw [← hK] at hd'
    exact hd' ok3.sub (EO.rv ok3 (EO.mono (sm2.trans sm3) e1) e) q
/-! ### one operand: unary minus, isinstance .. -/
theorem cmp_un {r : V → Hp → VK → Prop} {g : D → Option R} {t : TE} {f : Sm M S} (hd : Op1 K r g) (c : Cmp M K xr W t RelE f) : Cmp M K xr W (tUn r t) RelE (eUn g f) := by
  intro G σ H F z Q hK hx ok hh
  refine cmp_opd c G σ H F z _ hK hx ok (hit_bind hh fun s z1 v H1 F1 _ sm1 ok1 e1 h1 => ?_)
  have q := fin_hit ok1 h1
  cases e : rd z1 s with
  | none => rw [e] at q; exact q.elim
  | some x =>
    rw [e] at q
    have hd' := hd F1 H1 v x Q
    rw [← hK] at hd'
    exact hd' ok1.sub (EO.rv ok1 e1 e) q
theorem de_un {op : UnaryOp} {r : V → Hp → VK → Prop} {g : D → Option R} {a : Expr} {f : Sm M S} {pos : Pos} (ho : ∀ j, UnR (X j) (unaryOp op) r) (hd : Op1 K r g) (h : DE M xr K X W a f) : DE M xr K X W (.UnaryOp op a pos) (eUn g f) := by
  obtain ⟨t, p, c⟩ := h
  exact ⟨_, fun j => pe_un (ho j) (p j), cmp_un hd c⟩
end
end G
namespace G
open PySem L2
theorem de_emp {ι : Type} {M : MI} {xr : Str → Option Value} {K : PySem.W.Frag} {X : ι → Cx} {W : WX} {pos : Pos} : DE M xr K X W (.Dict [] [] pos) (eC .emp) := by
  refine ⟨_, fun j => pe_dnewK, fun G σ H F z Q hK hx ok hh => fun p hp => ?_⟩
  exact hh (.ref p) (upd H p (.dK [])) (upd F p (.dK [])) (same_upd (ok.freshF hp)) (ok.newF hp _ (fun _ e => by cases e)) (.emp upd_same)
end G
namespace G
open PySem L2

inductive Out where
  | nx
  | rt (s : S)
  | bk
  | ct
structure RetOk (M : MI) (G : Gx) (F H : Hp) (t : M.T) (v : V) (s : S) : Prop where
  sub : SameX F H
  mach : M.ok G.K F H G.ms t
  msF : ∀ a ∈ G.ms, F a = none
  msH : ∀ a ∈ G.ms, H a ≠ none
  fr : ∀ b o, G.P b = some o → H b = some o ∧ F b = G.Fp b
  tg : ∀ a ps, F a = some (.tbl ps) → H a ≠ none ∧ G.P a = none
  val : SV G F H v s
def HitS (M : MI) (G : Gx) (W : WX) (F : Hp) (r : Rs Out (Z M.T)) (D : Ends) : Prop := match r with
  | .ok .nx z => ∀ σ H F', Same F F' → Ok M G σ H F' z → D.nx σ H
  | .ok .bk z => ∀ σ H F', Same F F' → Ok M G σ H F' z → D.bk σ H
  | .ok .ct z => ∀ σ H F', Same F F' → Ok M G σ H F' z → D.ct σ H
  | .ok (.rt s) z => ∀ v H F', Same F F' → RetOk M G F' H z.m v s → D.rt v H
  | .ex x z => ∀ cls d σ H F', Same F F' → Ok M G σ H F' z → XOk G F' H x cls d → W cls d σ H
  | .bad => False
def SR (M : MI) (K : PySem.W.Frag) (xr : Str → Option Value) (W : WX) (t : TS) (f : Sm M Out) : Prop :=
  ∀ (G : Gx) (σ : St) (H F : Hp) (z : Z M.T) (D : Ends), G.K = K → G.xr = xr → Ok M G σ H F z → HitS M G W F (f z) D → t D σ H
def DS {ι : Type} (M : MI) (xr : Str → Option Value) (K : PySem.W.Frag) (X : ι → Cx) (W : WX) (st : Stmt) (f : Sm M Out) : Prop := ∃ t, (∀ j, PS (X j) st t) ∧ SR M K xr W t f
def DSs {ι : Type} (M : MI) (xr : Str → Option Value) (K : PySem.W.Frag) (X : ι → Cx) (W : WX) (st : List Stmt) (f : Sm M Out) : Prop := ∃ t, (∀ j, PSs (X j) st t) ∧ SR M K xr W t f

section
variable {M : MI} {G : Gx} {W : WX} {σ : St} {H H' F F' : Hp} {z : Z M.T} {D : Ends}
theorem HitS.mono {r : Rs Out (Z M.T)} (h : HitS M G W F r D) (s : Same F F') : HitS M G W F' r D := by
  cases r with
  | ok o z =>
    cases o with
    | nx => exact fun σ H F1 s1 ok => h σ H F1 (s.trans s1) ok
    | bk => exact fun σ H F1 s1 ok => h σ H F1 (s.trans s1) ok
    | ct => exact fun σ H F1 s1 ok => h σ H F1 (s.trans s1) ok
    | rt q => exact fun v H F1 s1 ok => h v H F1 (s.trans s1) ok
  | ex x z => exact fun cls d σ H F1 s1 ok xo => h cls d σ H F1 (s.trans s1) ok xo
  | bad => exact h
/-- an expression ahead of a statement's end -/
theorem hits_bind {α β : Type} {R1 : α → β → Hp → Hp → Z M.T → Prop} {r : Rs α (Z M.T)} {k : α → Z M.T → Rs Out (Z M.T)} {Q1 : β → Hp → Prop}
    (h : HitS M G W F (r.bind k) D) (hk : ∀ a z1 b H1 F1, r = .ok a z1 → Same F F1 → Ok M G σ H1 F1 z1 → R1 a b F1 H1 z1 → HitS M G W F1 (k a z1) D → Q1 b H1) : HitG M G W σ F R1 r Q1 := by
  cases r with
  | ok a z => exact fun b H' F1 s1 ok rr => hk a z b H' F1 rfl s1 ok rr (HitS.mono h s1)
  | ex x z => exact fun cls d H' F1 s1 ok xo => h cls d σ H' F1 s1 ok xo
  | bad => exact h
end

section
variable {ι : Type} {M : MI} {xr : Str → Option Value} {X : ι → Cx} {W : WX} {K : PySem.W.Frag}
/-! ### blocks -/
def sNil : Sm M Out := fun z => .ok .nx z
def sSeq (f g : Sm M Out) : Sm M Out := fun z => (f z).bind fun o z1 => match o with
  | .nx => g z1
  | o => .ok o z1
theorem dss_nil : DSs M xr K X W [] sNil := ⟨_, fun _ => pss_nil, fun G σ H F z D _ _ ok h => h σ H F (Same.refl _) ok⟩
theorem dss_one {st : Stmt} {f : Sm M Out} (h : DS M xr K X W st f) : DSs M xr K X W [st] f := by
  obtain ⟨t, p, c⟩ := h
  exact ⟨_, fun j => pss_one (p j), c⟩
theorem dss_cons {st : Stmt} {r : List Stmt} {f g : Sm M Out} (h : DS M xr K X W st f) (h' : DSs M xr K X W r g) : DSs M xr K X W (st :: r) (sSeq f g) := by
  obtain ⟨t, p, c⟩ := h
  obtain ⟨t', p', c'⟩ := h'
  refine ⟨_, fun j => pss_cons (p j) (p' j), fun G σ H F z D hK hx ok hh => ?_⟩
  refine c G σ H F z { D with nx := t' D } hK hx ok ?_
  unfold sSeq at hh
  cases e : f z with
  | ok o z1 =>
    rw [e] at hh
    cases o with
    | nx => exact fun σ1 H1 F1 s1 ok1 => c' G σ1 H1 F1 z1 D hK hx ok1 (HitS.mono hh s1)
    | bk => exact hh
    | ct => exact hh
    | rt q => exact hh
  | ex x z1 => rw [e] at hh; exact hh
  | bad => rw [e] at hh; exact hh
theorem ds_pass {pos : Pos} : DS M xr K X W (.Pass pos) sNil := ⟨_, fun _ => ps_pass, fun G σ H F z D _ _ ok h => h σ H F (Same.refl _) ok⟩
theorem ds_doc {x j pos pos'} : DS M xr K X W (.Expr (.Constant (.str x) j pos) pos') sNil := ⟨_, fun _ => ps_doc, fun G σ H F z D _ _ ok h => h σ H F (Same.refl _) ok⟩
theorem ds_break {pos : Pos} : DS M xr K X W (.Break pos) (fun z => .ok .bk z) := ⟨_, fun _ => ps_break, fun G σ H F z D _ _ ok h => h σ H F (Same.refl _) ok⟩
theorem ds_continue {pos : Pos} : DS M xr K X W (.Continue pos) (fun z => .ok .ct z) := ⟨_, fun _ => ps_continue, fun G σ H F z D _ _ ok h => h σ H F (Same.refl _) ok⟩
/-! ### stores -/
/-- a value that is stored: a second name of a slot's list freezes it -/
def una (f : Sm M S) : Sm M S := fun z => (f z).bind fun s z1 => match s with
  | .v i => escS (.v i) z1
  | s => .ok s z1
def RelU {M : MI} (G : Gx) (σ : St) : S → V → Hp → Hp → Z M.T → Prop := fun s v F H z => SV G F H v s ∧ ∀ xs, s = .l xs → ∀ a, v = .ref a → ¬ Owned σ z a
theorem cmp_una {t : TE} {f : Sm M S} (hf : Cmp M K xr W t RelE f) : Cmp M K xr W t RelU (una f) := by
  intro G σ H F z Q hK hx ok h
  refine hf G σ H F z Q hK hx ok (hit_bind h fun s z1 v H1 F1 _ sm ok1 ev h1 => ?_)
  cases s with
  | d x => exact h1 v H1 F1 (Same.refl _) ok1 ⟨ev, fun _ e => by cases e⟩
  | l xs =>
    obtain ⟨a, vs, rfl, q1, q2, q3, q4, q5, q6⟩ := ev
    exact h1 _ H1 F1 (Same.refl _) ok1 ⟨⟨a, vs, rfl, q1, q2, q3, q4, q5⟩, fun _ _ b e => by cases e; exact q6⟩
  | m j => exact h1 v H1 F1 (Same.refl _) ok1 ⟨ev, fun _ e => by cases e⟩
  | v i =>
    have ev' : σ[i]? = some (some v) := ev
    simp only [escS] at h1
    split at h1
    · rename_i xs hs
      obtain ⟨F2, s2, ok2, da⟩ := ok1.frzSlot hs ev'
      exact h1 v H1 F2 s2 ok2 ⟨da, fun _ e => by cases e⟩
    · rename_i x hs
      obtain ⟨w, e, q⟩ := ok1.slot i _ hs
      rw [ev'] at e
      cases e
      exact h1 v H1 F1 (Same.refl _) ok1 ⟨q, fun _ e => by cases e⟩
    · exact h1.elim
def sSet (i : Nat) (f : Sm M S) : Sm M Out := fun z => (una f z).bind fun s z1 => .ok .nx { z1 with rho := z1.rho.set i (some s) }
theorem sr_set {i : Nat} {te : TE} {f : Sm M S} (c : Cmp M K xr W te RelE f) : SR M K xr W (tAsg te (gName i)) (sSet i f) := by
  intro G σ H F z D hK hx ok hh
  refine cmp_una c G σ H F z _ hK hx ok (hits_bind hh fun s z1 v H1 F1 _ sm ok1 ev h1 => ?_)
  exact h1 _ H1 F1 (Same.refl _) (ok1.set ev.1 ev.2)
theorem ds_set {i : Nat} {x : Str} {e : Expr} {f : Sm M S} {pos pos' : Pos} (hN : ∀ j, (X j).N.Nodup) (hi : ∀ j, (X j).N[i]? = some x) (hx : ∀ j, Loc (X j).env.scope x) (h : DE M xr K X W e f) (hs : ∀ j, swapsWith e (some (.Name x pos')) pos.line (X j).env = pure false := by intro _; rfl) (hf : ∀ j, (X j).fn x = true ∨ (X j).env.scope.names.lookup x = some .local := by first | exact fun _ => .inl rfl | exact fun _ => .inr rfl) :
    DS M xr K X W (.Assign [.Name x pos'] e pos) (sSet i f) := by
  obtain ⟨t, p, c⟩ := h
  exact ⟨_, fun j => ps_set (hN j) (hi j) (hx j) (p j) (hs j) (hf j), sr_set c⟩
/-! ### targets -/
/-- the slots but ts are as they were -/
def But (ts : List Nat) (σ σ' : St) : Prop := σ'.length = σ.length ∧ ∀ n, n ∉ ts → σ'[n]? = σ[n]?
theorem But.refl {ts : List Nat} {σ : St} : But ts σ σ := ⟨rfl, fun _ _ => rfl⟩
theorem But.trans {ts us : List Nat} {σ σ' σ'' : St} (a : But ts σ σ') (b : But us σ' σ'') : But (ts ++ us) σ σ'' := ⟨b.1.trans a.1, fun n hn => (b.2 n (fun h => hn (List.mem_append_right _ h))).trans (a.2 n (fun h => hn (List.mem_append_left _ h)))⟩
def GR (M : MI) (K : PySem.W.Frag) (ts : List Nat) (g : TG) (k : D → Z M.T → Option (Z M.T)) : Prop := ∀ (G : Gx) (σ : St) (H F : Hp) (z : Z M.T) (v : V) (x : D) (Q : St → Hp → Prop), G.K = K → Ok M G σ H F z → Da K F v x →
  (match k x z with | some z' => ∀ σ', But ts σ σ' → Ok M G σ' H F z' → Q σ' H | none => False) → g v σ H Q
def GRs (M : MI) (K : PySem.W.Frag) (ts : List Nat) (g : TGs) (k : List D → Z M.T → Option (Z M.T)) : Prop := ∀ (G : Gx) (σ : St) (H F : Hp) (z : Z M.T) (vs : List V) (xs : List D) (Q : St → Hp → Prop), G.K = K → Ok M G σ H F z → DaAll K F vs xs →
  (match k xs z with | some z' => ∀ σ', But ts σ σ' → Ok M G σ' H F z' → Q σ' H | none => False) → g vs σ H Q
def DG {ι : Type} (M : MI) (K : PySem.W.Frag) (X : ι → Cx) (ts : List Nat) (tg : Expr) (k : D → Z M.T → Option (Z M.T)) : Prop := ∃ g, (∀ j, PG (X j) tg g) ∧ GR M K ts g k
def DGs {ι : Type} (M : MI) (K : PySem.W.Frag) (X : ι → Cx) (ts : List Nat) (tg : List Expr) (k : List D → Z M.T → Option (Z M.T)) : Prop := ∃ g, (∀ j, PGs (X j) tg g) ∧ GRs M K ts g k
def kName (i : Nat) : D → Z M.T → Option (Z M.T) := fun x z => some { z with rho := z.rho.set i (some (.d x)) }
def ksNil : List D → Z M.T → Option (Z M.T) := fun xs z => match xs with
  | [] => some z
  | _ => none
def ksCons (k : D → Z M.T → Option (Z M.T)) (ks : List D → Z M.T → Option (Z M.T)) : List D → Z M.T → Option (Z M.T) := fun xs z => match xs with
  | x :: r => (k x z).bind fun z1 => ks r z1
  | [] => none
def kTup (n : Nat) (ks : List D → Z M.T → Option (Z M.T)) : D → Z M.T → Option (Z M.T) := fun x z => match x with
  | .tup xs => if xs.length = n then ks xs z else none
  | _ => none
theorem gr_name {i : Nat} : GR M K [i] (gName i) (kName i) := fun G σ H F z v x Q hK ok da h => h _ ⟨List.length_set, fun n hn => List.getElem?_set_ne (fun e => hn (by rw [← e]; exact List.mem_cons_self))⟩ (ok.set (s := .d x) (by subst hK; exact da) (fun _ e => by cases e))
theorem dg_name {i : Nat} {x : Str} {pos : Pos} (hN : ∀ j, (X j).N.Nodup) (hi : ∀ j, (X j).N[i]? = some x) (hx : ∀ j, Loc (X j).env.scope x) (hf : ∀ j, (X j).fn x = true ∨ (X j).env.scope.names.lookup x = some .local := by first | exact fun _ => .inl rfl | exact fun _ => .inr rfl) : DG M K X [i] (.Name x pos) (kName i) := ⟨_, fun j => pg_name (hN j) (hi j) (hx j) (hf j), gr_name⟩
theorem dgs_nil : DGs M K X [] [] ksNil := ⟨_, fun _ => pgs_nil, fun G σ H F z vs xs Q _ ok da h => by
  cases da with
  | nil => exact ⟨rfl, h σ But.refl ok⟩
  | cons _ _ => exact h.elim⟩
theorem dgs_cons {e : Expr} {es : List Expr} {k : D → Z M.T → Option (Z M.T)} {ks : List D → Z M.T → Option (Z M.T)} {ts us : List Nat} (h1 : DG M K X ts e k) (h2 : DGs M K X us es ks) (hs : ∀ j, (assignEach (e :: es) (X j).env).map (·.2) = assign e (X j).env :: (assignEach es (X j).env).map (·.2) := by intro _; rfl) : DGs M K X (ts ++ us) (e :: es) (ksCons k ks) := by
  obtain ⟨g, p, c⟩ := h1
  obtain ⟨g', p', c'⟩ := h2
  refine ⟨_, fun j => pgs_cons (p j) (p' j) (hs j), fun G σ H F z vs xs Q hK ok da h => ?_⟩
  cases da with
  | nil => exact h.elim
  | cons a b =>
    rename_i v vs d ds
    refine ⟨v, vs, rfl, c G σ H F z v d _ hK ok a ?_⟩
    unfold ksCons at h
    cases e : k d z with
    | none => simp only [e, Option.bind_none] at h
    | some z1 =>
      simp only [e, Option.bind_some] at h
      intro σ' b1 ok'
      refine c' G σ' H F z1 vs ds Q hK ok' b ?_
      cases e2 : ks ds z1 with
      | none => rw [e2] at h; exact h
      | some z2 => rw [e2] at h; exact fun σ2 b2 ok2 => h σ2 (b1.trans b2) ok2
theorem dg_tup {ts : List Nat} {es : List Expr} {k n : Nat} {ks : List D → Z M.T → Option (Z M.T)} {pos : Pos} (hK0 : ∀ j, (X j).K = K) (hc : ∀ j, (X j).calm = true) (h : DGs M K X ts es ks) (hn : ∀ j, (assignEach es (X j).env).length = n := by intro _; rfl) (hst : ∀ j, (assignEach es (X j).env).findIdx? (·.1) = none := by intro _; rfl) : DG M K X ts (.Tuple es k pos) (kTup n ks) := by
  obtain ⟨g, p, c⟩ := h
  refine ⟨gTup K n g, fun j => by rw [← hK0 j]; exact pg_tup (hc j) (p j) (hn j) (hst j), fun G σ H F z v x Q hK ok da h => ?_⟩
  cases x with
  | tup xs =>
    unfold kTup at h
    by_cases hl : xs.length = n
    · simp only [if_pos hl] at h
      cases da with
      | tup q r =>
        rename_i a vs
        exact ⟨a, vs, rfl, ok.sub.tup q, by rw [r.length]; exact hl, c G σ H F z vs xs Q hK ok r h⟩
    · simp only [if_neg hl] at h
  | _ => exact h.elim
def sAsg (f : Sm M S) (k : D → Z M.T → Option (Z M.T)) : Sm M Out := fun z => (escf f z).bind fun s z1 => match s with
  | .d x => Rs.opt ((k x z1).map fun z2 => (Out.nx, z2)) z1 |>.bind fun p _ => .ok p.1 p.2
  | _ => .bad
theorem ds_asg {ts : List Nat} {tg e : Expr} {f : Sm M S} {k : D → Z M.T → Option (Z M.T)} {pos : Pos} (h : DE M xr K X W e f) (hg : DG M K X ts tg k) (hs : ∀ j, swapsWithSole [tg] e pos.line (X j).env = pure false := by intro _; rfl) (hw : ∀ j, swappedStores [tg] e (X j).env = pure none := by intro _; rfl)
    (h1 : ∀ j, (assignEach [tg] (X j).env).map (·.2) = [assign tg (X j).env] := by intro _; rfl) : DS M xr K X W (.Assign [tg] e pos) (sAsg f k) := by
  obtain ⟨t, p, c⟩ := h
  obtain ⟨g, pg, cg⟩ := hg
  refine ⟨_, fun j => ps_asg (p j) (pg j) (hs j) (hw j) (h1 j), fun G σ H F z D hK hx ok hh => ?_⟩
  refine cmp_esc c G σ H F z _ hK hx ok (hits_bind hh fun s z1 v H1 F1 _ sm ok1 ev h2 => ?_)
  cases s with
  | d x =>
    refine cg G σ H1 F1 z1 v x D.nx hK ok1 (by rw [← hK]; exact ev) ?_
    cases e : k x z1 with
    | none => simp only [e] at h2; exact h2
    | some z2 =>
      simp only [e] at h2
      exact fun σ' _ ok' => h2 σ' H1 F1 (Same.refl _) ok'
  | _ => exact h2.elim
/-! ### the rest -/
def sRet (f : Sm M S) : Sm M Out := fun z => (f z).bind fun s z1 => match s with
  | .v i => (match z1.rho[i]? with
    | some (some (.l xs)) => .ok (.rt (.l xs)) z1
    | some (some (.d x)) => .ok (.rt (.d x)) z1
    | _ => .bad)
  | s => .ok (.rt s) z1
theorem Ok.ret {G : Gx} {σ : St} {H F : Hp} {z : Z M.T} (ok : Ok M G σ H F z) {v : V} {s : S} (h : SV G F H v s) : RetOk M G F H z.m v s := ⟨ok.sub, ok.mach, ok.msF, ok.msH, ok.fr, ok.tg, h⟩
theorem ds_ret {e : Expr} {f : Sm M S} {pos : Pos} (h : DE M xr K X W e f) : DS M xr K X W (.Return (some e) pos) (sRet f) := by
  obtain ⟨t, p, c⟩ := h
  refine ⟨_, fun j => ps_ret (p j), fun G σ H F z D hK hx ok hh => ?_⟩
  refine c G σ H F z _ hK hx ok (hits_bind hh fun s z1 v H1 F1 _ sm ok1 ev h2 => ?_)
  cases s with
  | d x => exact h2 v H1 F1 (Same.refl _) (ok1.ret (s := .d x) ev)
  | l xs =>
    obtain ⟨a, vs, rfl, q1, q2, q3, q4, q5, q6⟩ := ev
    exact h2 _ H1 F1 (Same.refl _) (ok1.ret (s := .l xs) ⟨a, vs, rfl, q1, q2, q3, q4, q5⟩)
  | m j => exact h2 v H1 F1 (Same.refl _) (ok1.ret (s := .m j) ev)
  | v i =>
    have ev' : σ[i]? = some (some v) := ev
    simp only at h2
    split at h2
    · rename_i xs hs
      obtain ⟨w, e, q⟩ := ok1.slot i _ hs
      rw [ev'] at e
      cases e
      exact h2 v H1 F1 (Same.refl _) (ok1.ret q)
    · rename_i x hs
      obtain ⟨w, e, q⟩ := ok1.slot i _ hs
      rw [ev'] at e
      cases e
      exact h2 v H1 F1 (Same.refl _) (ok1.ret q)
    · exact h2.elim
theorem ds_retN {pos : Pos} : DS M xr K X W (.Return none pos) (fun z => .ok (.rt (.d .non)) z) := ⟨_, fun _ => ps_retN, fun G σ H F z D _ _ ok h => h .non H F (Same.refl _) (ok.ret (s := .d .non) Da.non)⟩
def sExpr (f : Sm M S) : Sm M Out := fun z => (f z).bind fun _ z1 => .ok .nx z1
theorem ds_expr {e : Expr} {f : Sm M S} {pos : Pos} (h : DE M xr K X W e f) (hs : ∀ j, swapsWith e none pos.line (X j).env = pure false := by intro _; rfl) : DS M xr K X W (.Expr e pos) (sExpr f) := by
  obtain ⟨t, p, c⟩ := h
  refine ⟨_, fun j => ps_expr (p j) (hs j), fun G σ H F z D hK hx ok hh => ?_⟩
  exact c G σ H F z _ hK hx ok (hits_bind hh fun s z1 v H1 F1 _ sm ok1 ev h2 => h2 σ H1 F1 (Same.refl _) ok1)
def sIf (c : Sm M Bool) (f g : Sm M Out) : Sm M Out := fun z => (c z).bind fun b z1 => if b = true then f z1 else g z1
theorem ds_if {e : Expr} {a b : List Stmt} {c : Sm M Bool} {f g : Sm M Out} {pos : Pos} (hc : DT M xr K X W e c) (h : DSs M xr K X W a f) (h' : DSs M xr K X W b g) : DS M xr K X W (.If e a b pos) (sIf c f g) := by
  obtain ⟨t, p, c0⟩ := hc
  obtain ⟨t1, p1, c1⟩ := h
  obtain ⟨t2, p2, c2⟩ := h'
  refine ⟨_, fun j => ps_if (p j) (p1 j) (p2 j), fun G σ H F z D hK hx ok hh => ?_⟩
  refine c0 G σ H F z _ hK hx ok (hits_bind hh fun b z1 c H1 F1 _ sm ok1 e1 h1 => ?_)
  cases (show c = b from e1)
  cases b with
  | true => exact c1 G σ H1 F1 z1 D hK hx ok1 h1
  | false => exact c2 G σ H1 F1 z1 D hK hx ok1 h1
def sWhile (c : Sm M Bool) (b : Sm M Out) : Nat → Sm M Out
  | 0, _ => .bad
  | n + 1, z => (c z).bind fun t z1 => if t = true then (b z1).bind fun o z2 => (match o with
      | .nx => sWhile c b n z2
      | .ct => sWhile c b n z2
      | .bk => .ok .nx z2
      | .rt s => .ok (.rt s) z2) else .ok .nx z1
theorem ds_while {e : Expr} {body : List Stmt} {c : Sm M Bool} {f : Sm M Out} {pos : Pos} (n : Nat) (hp : ∀ j, PassesOwn (model (X j).prog (X j).w) (X j).A (X j).env (X j).xe) (hc : DT M xr K X W e c) (h : DSs M xr K X W body f) : DS M xr K X W (.While e body [] pos) (sWhile c f n) := by
  obtain ⟨t, p, c0⟩ := hc
  obtain ⟨t1, p1, c1⟩ := h
  refine ⟨_, fun j => ps_while (hp j) (p j) (p1 j), fun G σ H F z D hK hx ok hh => ?_⟩
  refine ⟨fun m σ H => ∃ F' z', Same F F' ∧ Ok M G σ H F' z' ∧ HitS M G W F' (sWhile c f m z') D, ⟨n, F, z, Same.refl _, ok, hh⟩, ?_⟩
  rintro m σ1 H1 ⟨F1, z1, s1, ok1, h1⟩
  cases m with
  | zero => exact h1.elim
  | succ m =>
    refine c0 G σ1 H1 F1 z1 _ hK hx ok1 (hits_bind h1 fun b z2 d H2 F2 _ sm ok2 e2 h2 => ?_)
    cases (show d = b from e2)
    cases b with
    | false => exact h2 σ1 H2 F2 (Same.refl _) ok2
    | true =>
      refine ⟨fun σ' H' => ∃ F' z', Same F F' ∧ Ok M G σ' H' F' z' ∧ HitS M G W F' (sWhile c f m z') D, fun σ' H' q => ⟨m, Nat.lt_succ_self m, q⟩, ?_⟩
      refine c1 G σ1 H2 F2 z2 _ hK hx ok2 ?_
      rw [if_pos rfl] at h2
      cases e : f z2 with
      | bad => rw [e] at h2; exact h2
      | ex x z3 => rw [e] at h2; exact h2
      | ok o z3 =>
        rw [e] at h2
        cases o with
        | nx => exact fun σ3 H3 F3 s3 ok3 => ⟨F3, z3, (s1.trans sm).trans s3, ok3, HitS.mono h2 s3⟩
        | ct => exact fun σ3 H3 F3 s3 ok3 => ⟨F3, z3, (s1.trans sm).trans s3, ok3, HitS.mono h2 s3⟩
        | bk => exact h2
        | rt q => exact h2
/-! ### for -/
def YD (K : PySem.W.Frag) (F : Hp) (ds : List D) : Nat → Hp → V → Hp → Prop := fun i H v H' => ∃ d, ds[i]? = some d ∧ ∀ F1, Same F F1 → SameX F1 H → (∀ a ps, F1 a = some (.tbl ps) → H a ≠ none) → ∃ F2, Same F1 F2 ∧ SameX F2 H' ∧ (∀ b o, H b = some o → H' b = some o ∧ F2 b = F1 b) ∧ (∀ a ps, F2 a = some (.tbl ps) → F1 a = some (.tbl ps)) ∧ Da K F2 v d
def Wk (K : PySem.W.Frag) (F : Hp) (J : It) (ds : List D) : Prop := Walk J ds.length (fun H => SameX F H) (YD K F ds)
def RelW {M : MI} (G : Gx) (_ : St) : List D → It → Hp → Hp → Z M.T → Prop := fun ds J F _ _ => Wk G.K F J ds
def DI {ι : Type} (M : MI) (xr : Str → Option Value) (K : PySem.W.Frag) (X : ι → Cx) (W : WX) (tg iter : Expr) (f : Sm M (List D)) : Prop := ∃ wi, (∀ j, PI (X j) tg iter wi) ∧ Cmp M K xr W wi RelW f
def forL (k : D → Z M.T → Option (Z M.T)) (b : Sm M Out) : List D → Sm M Out
  | [], z => .ok .nx z
  | d :: r, z => match k d z with
    | none => .bad
    | some z1 => (b z1).bind fun o z2 => match o with
      | .nx => forL k b r z2
      | .ct => forL k b r z2
      | .bk => .ok .nx z2
      | .rt s => .ok (.rt s) z2
def sFor (its : Sm M (List D)) (k : D → Z M.T → Option (Z M.T)) (b : Sm M Out) : Sm M Out := fun z => (its z).bind fun ds z1 => forL k b ds z1
theorem Ok.yd {G : Gx} {σ : St} {H H' F1 F2 : Hp} {z : Z M.T} (ok : Ok M G σ H F1 z) (s1 : Same F1 F2) (s2 : SameX F2 H') (k : ∀ b o, H b = some o → H' b = some o ∧ F2 b = F1 b) (kt : ∀ a ps, F2 a = some (.tbl ps) → F1 a = some (.tbl ps)) : Ok M G σ H' F2 z :=
  ok.step s1 (fun a ps e => ⟨kt a ps e, by
    cases q : H a with
    | none => exact ((ok.tg a ps (kt a ps e)).1 q).elim
    | some o => rw [(k a o q).1]⟩) s2 (fun a q => by
    obtain ⟨vs, e, e2, _⟩ := ok.ownH q
    obtain ⟨h1, h2⟩ := k a _ e
    exact ⟨by rw [h1, e], by rw [h2]; exact e2⟩) (fun a q => by
    cases e : H a with
    | none => exact (ok.msH a q e).elim
    | some o =>
      obtain ⟨h1, h2⟩ := k a _ e
      exact ⟨h1, by rw [h2]; exact ok.msF a q⟩) (fun b o q => by
    obtain ⟨h1, h2⟩ := ok.fr b o q
    obtain ⟨h3, h4⟩ := k b o h1
    exact ⟨h3, h4.trans h2⟩)
theorem ds_for {ts : List Nat} {tg iter : Expr} {body : List Stmt} {its : Sm M (List D)} {k : D → Z M.T → Option (Z M.T)} {f : Sm M Out} {pos : Pos} (hp : ∀ j, PassesOwn (model (X j).prog (X j).w) (X j).A (X j).env (X j).xe) (hc : ∀ j, (X j).calm = true) (hi : DI M xr K X W tg iter its) (hg : DG M K X ts tg k) (h : DSs M xr K X W body f)
    (hs : ∀ j x, foldedSetIterable iter (X j).env x = pure x := by intro _ _; rfl) : DS M xr K X W (.For tg iter body [] pos) (sFor its k f) := by
  obtain ⟨wi, pi, ci⟩ := hi
  obtain ⟨g, pg, cg⟩ := hg
  obtain ⟨t, p, c⟩ := h
  refine ⟨_, fun j => ps_for (hp j) (hc j) (pi j) (pg j) (p j) (hs j), fun G σ H F z D hK hx ok hh => ?_⟩
  refine ci G σ H F z _ hK hx ok (hits_bind hh fun ds z1 J H1 F1 _ sm ok1 w h1 => ?_)
  refine for_it (w : Wk G.K F1 J ds) (fun i σ' H' => ∃ F' z', Same F1 F' ∧ Ok M G σ' H' F' z' ∧ HitS M G W F' (forL k f (ds.drop i) z') D) ⟨F1, z1, Same.refl _, ok1, h1⟩ (fun i σ' H' _ ⟨F', z', s', ok', _⟩ => thenX s' ok'.sub) ?_ ?_
  · rintro i x σ2 H2 H3 hi ⟨F2, z2, s2, ok2, h2⟩ ⟨d, hd, q⟩
    obtain ⟨F3, s3, s4, kk, kt, da⟩ := q F2 s2 ok2.sub (fun a ps e => (ok2.tg a ps e).1)
    have ok3 := ok2.yd s3 s4 kk kt
    have ed : ds.drop i = d :: ds.drop (i + 1) := by
      rw [List.drop_eq_getElem_cons hi]
      have := List.getElem?_eq_getElem hi
      rw [hd] at this
      rw [← Option.some.inj this]
    rw [ed] at h2
    refine cg G σ2 H3 F3 z2 x d _ hK ok3 (by rw [← hK]; exact da) ?_
    unfold forL at h2
    cases e : k d z2 with
    | none => simp only [e] at h2; exact h2
    | some z3 =>
      simp only [e] at h2
      intro σ4 _ ok4
      refine c G σ4 H3 F3 z3 _ hK hx ok4 ?_
      cases e : f z3 with
      | bad => rw [e] at h2; exact h2
      | ex x z3 => rw [e] at h2; exact HitS.mono (F := F2) (r := .ex x z3) h2 s3
      | ok o z4 =>
        rw [e] at h2
        cases o with
        | nx => exact fun σ5 H5 F5 s5 ok5 => ⟨F5, z4, (s2.trans s3).trans s5, ok5, HitS.mono h2 (s3.trans s5)⟩
        | ct => exact fun σ5 H5 F5 s5 ok5 => ⟨F5, z4, (s2.trans s3).trans s5, ok5, HitS.mono h2 (s3.trans s5)⟩
        | bk => exact fun σ5 H5 F5 s5 ok5 => h2 σ5 H5 F5 (s3.trans s5) ok5
        | rt q => exact fun v H5 F5 s5 ok5 => h2 v H5 F5 (s3.trans s5) ok5
  · rintro σ2 H2 ⟨F2, z2, s2, ok2, h2⟩
    rw [List.drop_length] at h2
    exact h2 σ2 H2 F2 (Same.refl _) ok2
end
end G
namespace G
open PySem L2
/-! ### slots forgotten and restored -/
def wipeR (rho : List (Option S)) : List Nat → List (Option S)
  | [] => rho
  | v :: vs => (wipeR rho vs).set v none
def restR (rho0 rho : List (Option S)) : List Nat → List (Option S)
  | [] => rho
  | v :: vs => (restR rho0 rho vs).set v (rho0[v]?.getD none)
theorem wipeR_length (rho : List (Option S)) : ∀ vs, (wipeR rho vs).length = rho.length
  | [] => rfl
  | v :: vs => by unfold wipeR; rw [List.length_set, wipeR_length rho vs]
theorem restR_length (rho0 rho : List (Option S)) : ∀ vs, (restR rho0 rho vs).length = rho.length
  | [] => rfl
  | v :: vs => by unfold restR; rw [List.length_set, restR_length rho0 rho vs]
theorem wipeR_out (rho : List (Option S)) : ∀ (vs : List Nat) (n : Nat), n ∉ vs → (wipeR rho vs)[n]? = rho[n]?
  | [], _, _ => rfl
  | v :: vs, n, h => by
    unfold wipeR
    rw [List.getElem?_set_ne (fun e => h (by rw [← e]; exact List.mem_cons_self)), wipeR_out rho vs n (fun q => h (List.mem_cons_of_mem _ q))]
theorem wipeR_in (rho : List (Option S)) : ∀ (vs : List Nat) (n : Nat) (s : S), n ∈ vs → (wipeR rho vs)[n]? ≠ some (some s)
  | [], _, _, h => by cases h
  | v :: vs, n, s, h => by
    unfold wipeR
    by_cases e : n = v
    · subst e
      by_cases hl : n < (wipeR rho vs).length
      · rw [List.getElem?_set_self hl]
        intro q
        cases q
      · rw [List.getElem?_eq_none (by rw [List.length_set]; omega)]
        intro q
        cases q
    · rw [List.getElem?_set_ne (Ne.symm e)]
      exact wipeR_in rho vs n s ((List.mem_cons.mp h).resolve_left e)
theorem restR_out (rho0 rho : List (Option S)) : ∀ (vs : List Nat) (n : Nat), n ∉ vs → (restR rho0 rho vs)[n]? = rho[n]?
  | [], _, _ => rfl
  | v :: vs, n, h => by
    unfold restR
    rw [List.getElem?_set_ne (fun e => h (by rw [← e]; exact List.mem_cons_self)), restR_out rho0 rho vs n (fun q => h (List.mem_cons_of_mem _ q))]
theorem restR_in (rho0 rho : List (Option S)) : ∀ (vs : List Nat) (n : Nat) (s : S), n ∈ vs → (restR rho0 rho vs)[n]? = some (some s) → rho0[n]? = some (some s)
  | [], _, _, h, _ => by cases h
  | v :: vs, n, s, h, e1 => by
    unfold restR at e1
    by_cases e : n = v
    · subst e
      by_cases hl : n < (restR rho0 rho vs).length
      · rw [List.getElem?_set_self hl] at e1
        cases q : rho0[n]? with
        | none => rw [q] at e1; cases e1
        | some o => rw [q] at e1; exact e1
      · rw [List.getElem?_eq_none (by rw [List.length_set]; omega)] at e1
        cases e1
    · rw [List.getElem?_set_ne (Ne.symm e)] at e1
      exact restR_in rho0 rho vs n s ((List.mem_cons.mp h).resolve_left e) e1
theorem wipe_out (σ : St) : ∀ (vs : List Nat) (n : Nat), n ∉ vs → (wipe σ vs)[n]? = σ[n]?
  | [], _, _ => rfl
  | v :: vs, n, h => by
    unfold wipe
    rw [List.getElem?_set_ne (fun e => h (by rw [← e]; exact List.mem_cons_self)), wipe_out σ vs n (fun q => h (List.mem_cons_of_mem _ q))]
theorem wipe_in (σ : St) : ∀ (vs : List Nat) (n : Nat), n ∈ vs → n < σ.length → (wipe σ vs)[n]? = some none
  | [], _, h, _ => by cases h
  | v :: vs, n, h, hl => by
    unfold wipe
    by_cases e : n = v
    · subst e
      exact List.getElem?_set_self (by rw [wipe_length]; exact hl)
    · rw [List.getElem?_set_ne (Ne.symm e)]
      exact wipe_in σ vs n ((List.mem_cons.mp h).resolve_left e) hl
theorem wipe_but {σ σ' : St} {ts vs : List Nat} (b : But ts (wipe σ vs) σ') (h : ∀ n ∈ ts, n ∈ vs) : wipe σ' vs = wipe σ vs := by
  have hl : σ'.length = σ.length := b.1.trans (wipe_length σ vs)
  refine List.ext_getElem? fun n => ?_
  by_cases hn : n ∈ vs
  · by_cases q : n < σ.length
    · rw [wipe_in σ vs n hn q, wipe_in σ' vs n hn (by omega)]
    · rw [List.getElem?_eq_none (by rw [wipe_length]; omega), List.getElem?_eq_none (by rw [wipe_length]; omega)]
  · rw [wipe_out σ' vs n hn, b.2 n (fun q => hn (h n q)), wipe_out σ vs n hn]
section
variable {M : MI} {G : Gx} {W : WX} {σ : St} {H H' F F' : Hp} {z : Z M.T}
def wipeZ (z : Z M.T) (vs : List Nat) : Z M.T := { z with rho := wipeR z.rho vs }
theorem Ok.wipe (ok : Ok M G σ H F z) (vs : List Nat) : Ok M G (L2.wipe σ vs) H F (wipeZ z vs) where
  sub := ok.sub
  len := by
    show (wipeR z.rho vs).length = _
    rw [wipeR_length, wipe_length]
    exact ok.len
  slot := fun i s e => by
    have e' : (wipeR z.rho vs)[i]? = some (some s) := e
    by_cases h : i ∈ vs
    · exact (wipeR_in z.rho vs i s h e').elim
    · rw [wipeR_out _ _ _ h] at e'
      obtain ⟨v, h1, h2⟩ := ok.slot i s e'
      exact ⟨v, by rw [wipe_out _ _ _ h]; exact h1, h2⟩
  dist := fun i j xs ys v e1 e2 e3 e4 => by
    have e1' : (wipeR z.rho vs)[i]? = some (some (.l xs)) := e1
    have e2' : (wipeR z.rho vs)[j]? = some (some (.l ys)) := e2
    by_cases h : i ∈ vs
    · exact (wipeR_in z.rho vs i _ h e1').elim
    · by_cases h' : j ∈ vs
      · exact (wipeR_in z.rho vs j _ h' e2').elim
      · rw [wipeR_out _ _ _ h] at e1'
        rw [wipeR_out _ _ _ h'] at e2'
        rw [wipe_out _ _ _ h] at e3
        rw [wipe_out _ _ _ h'] at e4
        exact ok.dist i j xs ys v e1' e2' e3 e4
  mach := ok.mach
  msF := ok.msF
  msP := ok.msP
  msH := ok.msH
  fr := ok.fr
  tg := ok.tg
def noOwn (rho : List (Option S)) (vs : List Nat) : Bool := vs.all fun i => match rho[i]? with
  | some (some (.l _)) => false
  | _ => true
theorem Ok.rest {z1 : Z M.T} {H1 F1 : Hp} (ok : Ok M G σ H F z) {vs : List Nat} (hn : noOwn z.rho vs = true) (sm : Same F F1) (ok1 : Ok M G (L2.wipe σ vs) H1 F1 z1) : Ok M G σ H1 F1 { z1 with rho := restR z.rho z1.rho vs } := by
  have no : ∀ n ∈ vs, ∀ xs, z.rho[n]? ≠ some (some (.l xs)) := fun n hm xs e => by
    have q := List.all_eq_true.mp hn n hm
    rw [e] at q
    cases q
  refine ⟨ok1.sub, ?_, fun i s e => ?_, fun i j xs ys v e1 e2 e3 e4 => ?_, ok1.mach, ok1.msF, ok1.msP, ok1.msH, ok1.fr, ok1.tg⟩
  · show (restR z.rho z1.rho vs).length = _
    rw [restR_length, ok1.len, wipe_length]
  · have e' : (restR z.rho z1.rho vs)[i]? = some (some s) := e
    by_cases h : i ∈ vs
    · have q := restR_in z.rho z1.rho vs i s h e'
      obtain ⟨v, h1, h2⟩ := ok.slot i s q
      refine ⟨v, h1, ?_⟩
      cases s with
      | d x => exact Da.mono sm h2
      | l xs => exact (no i h xs q).elim
      | v _ => exact h2
      | m j => exact h2
    · rw [restR_out _ _ _ _ h] at e'
      obtain ⟨v, h1, h2⟩ := ok1.slot i s e'
      rw [wipe_out _ _ _ h] at h1
      exact ⟨v, h1, h2⟩
  · have e1' : (restR z.rho z1.rho vs)[i]? = some (some (.l xs)) := e1
    have e2' : (restR z.rho z1.rho vs)[j]? = some (some (.l ys)) := e2
    by_cases h : i ∈ vs
    · exact (no i h xs (restR_in z.rho z1.rho vs i _ h e1')).elim
    · by_cases h' : j ∈ vs
      · exact (no j h' ys (restR_in z.rho z1.rho vs j _ h' e2')).elim
      · rw [restR_out _ _ _ _ h] at e1'
        rw [restR_out _ _ _ _ h'] at e2'
        exact ok1.dist i j xs ys v e1' e2' (by rw [wipe_out _ _ _ h]; exact e3) (by rw [wipe_out _ _ _ h']; exact e4)
/-- a list under way is guarded -/
def Gx.prot (G : Gx) (D : Addr) (vs : List V) : Gx := { G with P := upd G.P D (.lst vs), Fp := fun b => if b = D then none else G.Fp b }
theorem Ok.prot {D : Addr} {vs : List V} (ok : Ok M G σ H F z) (hD : H D = some (.lst vs)) (hF : F D = none) (hm : D ∉ G.ms) (ho : ¬ Owned σ z D) : Ok M (G.prot D vs) σ H F z := by
  refine ⟨ok.sub, ok.len, fun i s e => ?_, ok.dist, ok.mach, ok.msF, fun a ha => ?_, ok.msH, fun b o q => ?_, fun a ps e => ⟨(ok.tg a ps e).1, (upd_ne (ne_of_none e hF)).trans (ok.tg a ps e).2⟩⟩
  · obtain ⟨v, h1, h2⟩ := ok.slot i s e
    refine ⟨v, h1, ?_⟩
    cases s with
    | d x => exact h2
    | l xs =>
      obtain ⟨a, ws, rfl, q1, q2, q3, q4, q5⟩ := h2
      have n : a ≠ D := fun e2 => ho (e2 ▸ ⟨i, xs, e, h1⟩)
      exact ⟨a, ws, rfl, q1, q2, q3, (upd_ne n).trans q4, q5⟩
    | v _ => exact h2
    | m j => exact h2
  · have n : a ≠ D := fun e => hm (e ▸ ha)
    exact (upd_ne n).trans (ok.msP a ha)
  · have q' : upd G.P D (.lst vs) b = some o := q
    show H b = some o ∧ F b = (if b = D then none else G.Fp b)
    by_cases e : b = D
    · subst e
      rw [upd_same] at q'
      cases q'
      rw [if_pos rfl]
      exact ⟨hD, hF⟩
    · rw [upd_ne e] at q'
      rw [if_neg e]
      exact ok.fr b o q'
theorem Ok.unprot {D : Addr} {vs : List V} (ok : Ok M (G.prot D vs) σ H F z) (hP : G.P D = none) : Ok M G σ H F z ∧ H D = some (.lst vs) ∧ F D = none ∧ ¬ Owned σ z D := by
  have hd := ok.fr D (.lst vs) upd_same
  have hF : F D = none := hd.2.trans (if_pos rfl)
  have no : ¬ Owned σ z D := fun q => by
    obtain ⟨_, _, _, e, _⟩ := ok.ownH q
    have e' : upd G.P D (.lst vs) D = none := e
    rw [upd_same] at e'
    cases e'
  refine ⟨⟨ok.sub, ok.len, fun i s e => ?_, ok.dist, ok.mach, ok.msF, fun a ha => ?_, ok.msH, fun b o q => ?_, fun a ps e => ⟨(ok.tg a ps e).1, (upd_ne (ne_of_none e hF)).symm.trans (ok.tg a ps e).2⟩⟩, hd.1, hF, no⟩
  · obtain ⟨v, h1, h2⟩ := ok.slot i s e
    refine ⟨v, h1, ?_⟩
    cases s with
    | d x => exact h2
    | l xs =>
      obtain ⟨a, ws, rfl, q1, q2, q3, q4, q5⟩ := h2
      have n : a ≠ D := fun e2 => no (e2 ▸ ⟨i, xs, e, h1⟩)
      have q4' : upd G.P D (.lst vs) a = none := q4
      rw [upd_ne n] at q4'
      exact ⟨a, ws, rfl, q1, q2, q3, q4', q5⟩
    | v _ => exact h2
    | m j => exact h2
  · have q : upd G.P D (.lst vs) a = none := ok.msP a ha
    by_cases e : a = D
    · rw [e]; exact hP
    · rw [upd_ne e] at q
      exact q
  · have n : b ≠ D := fun e => by rw [e, hP] at q; cases q
    have q' : (G.prot D vs).P b = some o := (upd_ne n).trans q
    obtain ⟨h1, h2⟩ := ok.fr b o q'
    have h2' : F b = (if b = D then none else G.Fp b) := h2
    rw [if_neg n] at h2'
    exact ⟨h1, h2'⟩
/-- the guarded list itself is changed -/
theorem Ok.updD {D : Addr} {o o' : HO} (ok : Ok M G σ H F z) (hD : H D = some o) (hF : F D = none) (hm : D ∉ G.ms) (hP : G.P D = none) (ho : ¬ Owned σ z D) : Ok M G σ (upd H D o') F z :=
  ok.step (Same.refl F) (tgk_new hF) (same_updR ok.sub hF) (fun a q => by
    have n : a ≠ D := fun e => ho (e ▸ q)
    exact ⟨upd_ne n, (ok.ownH q).choose_spec.2.1⟩) (fun a q => by
    have n : a ≠ D := fun e => hm (e ▸ q)
    exact ⟨upd_ne n, ok.msF a q⟩) (fun b u q => by
    have n : b ≠ D := fun e => by rw [e, hP] at q; cases q
    obtain ⟨h1, h2⟩ := ok.fr b u q
    exact ⟨(upd_ne n).trans h1, h2⟩)

/-! ### comprehensions -/
def nox {α ζ : Type} (r : Rs α ζ) : Rs α ζ := match r with
  | .ex _ _ => .bad
  | r => r
def lcL (k : D → Z M.T → Option (Z M.T)) (t : Sm M Bool) (e : Sm M S) (vs : List Nat) : List D → List D → Z M.T → Rs (List D) (Z M.T)
  | [], acc, z => .ok acc z
  | d :: r, acc, z => match k d z with
    | none => .bad
    | some z1 => (nox (t z1)).bind fun b z2 => if b = true then (nox (escf e z2)).bind fun s z3 => (match s with
        | .d y => if acc.length < lim then lcL k t e vs r (acc ++ [y]) (wipeZ z3 vs) else .bad
        | _ => .bad) else lcL k t e vs r acc (wipeZ z2 vs)
def eLc (its : Sm M (List D)) (k : D → Z M.T → Option (Z M.T)) (t : Sm M Bool) (e : Sm M S) (vs : List Nat) : Sm M S := fun z => (its z).bind fun ds z1 => if noOwn z1.rho vs = true then
    (lcL k t e vs ds [] (wipeZ z1 vs)).bind fun acc z2 => .ok (.l acc) { z2 with rho := restR z1.rho z2.rho vs }
  else .bad
abbrev W0 : WX := fun _ _ _ _ => False
theorem cmp_lc {K : PySem.W.Frag} {xr : Str → Option Value} {wi : TI} {g : TG} {tt : TT} {te : TE} {vs ts : List Nat} {its : Sm M (List D)} {k : D → Z M.T → Option (Z M.T)} {t : Sm M Bool} {e : Sm M S} (hv : ∀ n ∈ ts, n ∈ vs) (ci : Cmp M K xr W wi RelW its) (cg : GR M K ts g k)
    (ct : Cmp M K xr W0 tt RelB t) (ce : Cmp M K xr W0 te RelE e) : Cmp M K xr W (tLc wi g tt te vs) RelE (eLc its k t e vs) := by
  intro G σ H F z Q hK hx ok hh
  refine ci G σ H F z _ hK hx ok (hit_bind hh fun ds z1 J H1 F1 _ sm ok1 w h1 => ?_)
  intro L hL
  have hn : noOwn z1.rho vs = true := by
    by_cases q : noOwn z1.rho vs = true
    · exact q
    · rw [if_neg q] at h1; exact h1.elim
  rw [if_pos hn] at h1
  have okw : Ok M G (L2.wipe σ vs) H1 F1 (wipeZ z1 vs) := ok1.wipe vs
  have hP : G.P L = none := ok1.freshP hL
  have hm : L ∉ G.ms := ok1.freshM hL
  refine lc_it (w : Wk G.K F1 J ds) (fun i H' => ∃ F' z' acc avs, Same F1 F' ∧ Ok M G (L2.wipe σ vs) H' F' z' ∧ H' L = some (.lst avs) ∧ DaAll G.K F' avs acc ∧ F' L = none ∧ ¬ Owned (L2.wipe σ vs) z' L ∧
      HitG M G W σ F' (RelE G σ) ((lcL k t e vs (ds.drop i) acc z').bind fun acc z2 => .ok (.l acc) { z2 with rho := restR z1.rho z2.rho vs }) Q)
    ⟨F1, wipeZ z1 vs, [], [], Same.refl _, okw.new hL _, upd_same, .nil, ok1.freshF hL, okw.freshO hL, h1⟩ (fun i H' _ ⟨F', z', _, _, s', ok', _⟩ => thenX s' ok'.sub) ?_ ?_
  · rintro i x H2 H3 hi ⟨F2, z2, acc, avs, s2, ok2, hl2, da2, hf2, no2, h2⟩ ⟨d, hd, q⟩
    obtain ⟨F3, s3, s4, kk, kt, da⟩ := q F2 s2 ok2.sub (fun a ps e => (ok2.tg a ps e).1)
    have ok3 := ok2.yd s3 s4 kk kt
    have hl3 : H3 L = some (.lst avs) := (kk L _ hl2).1
    have hf3 : F3 L = none := (kk L _ hl2).2.trans hf2
    have ed : ds.drop i = d :: ds.drop (i + 1) := by
      rw [List.drop_eq_getElem_cons hi]
      have := List.getElem?_eq_getElem hi
      rw [hd] at this
      rw [← Option.some.inj this]
    rw [ed] at h2
    have okp := ok3.prot hl3 hf3 hm no2
    refine cg (G.prot L avs) _ H3 F3 z2 x d _ hK okp (by rw [← hK]; exact da) ?_
    unfold lcL at h2
    cases e1 : k d z2 with
    | none => simp only [e1] at h2; exact h2.elim
    | some z3 =>
      simp only [e1] at h2
      intro σ4 b4 ok4
      have ew : L2.wipe σ4 vs = L2.wipe σ vs := wipe_but b4 hv
      refine ⟨ew, ?_⟩
      refine ct (G.prot L avs) σ4 H3 F3 z3 _ hK hx ok4 ?_
      cases e2 : t z3 with
      | bad => simp only [e2, nox, Rs.bind] at h2; exact h2
      | ex x zz => simp only [e2, nox, Rs.bind] at h2; exact h2.elim
      | ok b z4 =>
        simp only [e2, nox, Rs.bind] at h2
        intro b' H5 F5 s5 ok5 eb
        cases (show b' = b from eb)
        cases b with
        | false =>
          rw [if_neg Bool.false_ne_true] at h2
          rw [if_neg Bool.false_ne_true]
          obtain ⟨q1, q2, q3, q4⟩ := ok5.unprot hP
          have ok6 := q1.wipe vs
          rw [ew] at ok6
          refine ⟨F5, wipeZ z4 vs, acc, avs, (s2.trans s3).trans s5, ok6, q2, da2.mono (s3.trans s5), q3, ?_, HitG.mono h2 (s3.trans s5)⟩
          rintro ⟨j, xs, o1, o2⟩
          have o1' : (wipeR z4.rho vs)[j]? = some (some (.l xs)) := o1
          by_cases qj : j ∈ vs
          · exact wipeR_in _ _ _ _ qj o1'
          · rw [wipeR_out _ _ _ qj] at o1'
            rw [← ew, wipe_out _ _ _ qj] at o2
            exact q4 ⟨j, xs, o1', o2⟩
        | true =>
          rw [if_pos rfl] at h2
          rw [if_pos rfl]
          refine cmp_esc ce (G.prot L avs) σ4 H5 F5 z4 _ hK hx ok5 ?_
          cases e3 : escf e z4 with
          | bad => simp only [e3, nox, Rs.bind] at h2; exact h2
          | ex x zz => simp only [e3, nox, Rs.bind] at h2; exact h2.elim
          | ok s z5 =>
            simp only [e3, nox, Rs.bind] at h2
            intro v H6 F6 s6 ok6 ev
            cases s with
            | d y =>
              simp only at h2
              have hlim : acc.length < lim := by
                by_cases q : acc.length < lim
                · exact q
                · rw [if_neg q] at h2; exact h2.elim
              rw [if_pos hlim] at h2
              obtain ⟨q1, q2, q3, q4⟩ := ok6.unprot hP
              have s26 := (s3.trans s5).trans s6
              refine ⟨avs, q2, by rw [da2.length]; exact Nat.lt_trans hlim lim_line, F6, wipeZ z5 vs, acc ++ [y], avs ++ [v], s2.trans s26, ?_, upd_same, (da2.mono s26).append (.cons ev .nil), q3, ?_, HitG.mono h2 s26⟩
              · have ok7 := (q1.updD (o' := .lst (avs ++ [v])) q2 q3 hm hP q4).wipe vs
                rw [ew] at ok7
                exact ok7
              · rintro ⟨j, xs, o1, o2⟩
                have o1' : (wipeR z5.rho vs)[j]? = some (some (.l xs)) := o1
                by_cases qj : j ∈ vs
                · exact wipeR_in _ _ _ _ qj o1'
                · rw [wipeR_out _ _ _ qj] at o1'
                  rw [← ew, wipe_out _ _ _ qj] at o2
                  exact q4 ⟨j, xs, o1', o2⟩
            | _ => exact h2.elim
  · rintro H2 ⟨F2, z2, acc, avs, s2, ok2, hl2, da2, hf2, no2, h2⟩
    rw [List.drop_length] at h2
    refine h2 (.ref L) H2 F2 (Same.refl _) (ok1.rest hn s2 ok2) ⟨L, avs, rfl, hl2, da2, hf2, hP, hm, ?_⟩
    rintro ⟨j, xs, o1, o2⟩
    have o1' : (restR z1.rho z2.rho vs)[j]? = some (some (.l xs)) := o1
    by_cases qj : j ∈ vs
    · have q := restR_in _ _ _ _ _ qj o1'
      have q2 := List.all_eq_true.mp hn j qj
      rw [q] at q2
      cases q2
    · rw [restR_out _ _ _ _ qj] at o1'
      exact no2 ⟨j, xs, o1', by rw [wipe_out _ _ _ qj]; exact o2⟩
end
section
variable {ι : Type} {M : MI} {xr : Str → Option Value} {K : PySem.W.Frag} {X : ι → Cx} {W : WX}
structure BP where
  s : Shared
  H : Hp
  C : Addr
  cl : List (Str × Addr)
  fp : List Addr
abbrev Blk {ι : Type} (X : ι → Cx) (scope : Scope) : ι × BP → Cx := fun p => (X p.1).blk p.2.s p.2.H scope (compEnvC scope p.2.cl p.2.C (X p.1).env) p.2.fp
def DTs {ι : Type} (M : MI) (xr : Str → Option Value) (K : PySem.W.Frag) (X : ι → Cx) (W : WX) (es : List Expr) (f : Sm M Bool) : Prop := ∃ t, (∀ j, PTs (X j) es t) ∧ Cmp M K xr W t RelB f
theorem dts_nil : DTs M xr K X W [] (fun z => .ok true z) := ⟨_, fun _ => pts_nil, fun G σ H F z Q _ _ ok h => h true H F (Same.refl _) ok rfl⟩
theorem dts_one {e : Expr} {f : Sm M Bool} (h : DT M xr K X W e f) : DTs M xr K X W [e] f := by
  obtain ⟨t, p, c⟩ := h
  exact ⟨_, fun j => pts_one (p j), c⟩
end
end G
/-! Promises of defs that are asked only where no repr is under way. -/
namespace G
open PySem L2 PySem.Spec PyProof.Rows
structure FnG (P : Program) (w : World) (K : PySem.W.Frag) (mg : Str → Option Value) (base : Heap) (CX : CXT) (n : Nat) (f : Addr) (fd : FuncData) (ps : List Str) (sp : Sp) : Prop where
  len : ∀ ws H Q E, sp ws H Q E → ws.length = ps.length
  run : ∀ (B : Around) (out : List Env) (s : Shared) (H : Hp) (args : Args) (us : List Value) (ws : List V) (Q : VK) (E : XK), Room n B → B.guards = some [] → Env0 P w K mg base B out s H → BindsTo s fd args (ps.zip us) → Vals ws us → sp ws H Q E → codeAny (model P w) B (.call (.ref f) args) (CR CX out P w H s Q E) s
theorem fnG {CX : CXT} {P : Program} {w : World} {K : PySem.W.Frag} {mg : Str → Option Value} {base : Heap} {n : Nat} {f : Addr} {nm qual : Str} {pa : Arguments} {bd : List Stmt} {sc : Scope} {dV kV doc pm cdv ct oc : Value} {an od : Option Addr}
    {osl : Array (Option Value)} {N ps : List Str} {sp : Sp} (lk : K.lookup f = some ⟨oc, od, .func (PySem.W.fnOf nm qual pa bd sc dV kV doc pm an cdv ct), osl⟩) (hc : PySem.W.codeIn K cdv qual = true) (Sc : FnScope N ps sc) (len : ∀ ws H Q E, sp ws H Q E → ws.length = ps.length)
    (body : ∀ (B : Around) (out : List Env) (s : Shared) (H : Hp) (ws : List V) (Q : VK) (E : XK), Room n (B.deeper (envOfC qual sc s.heap.objs.size f cdv)) → B.guards = some [] → sp ws H Q E → ∃ t, PSs (cxOf CX P w K mg base N qual sc f cdv B out s H E) bd t ∧ t { nx := fun _ H' => Q .non H', rt := Q } (start N ws) H) :
    FnG P w K mg base CX (n + 1) f (PySem.W.fnOf nm qual pa bd sc dV kV doc pm an cdv ct) ps sp := by
  constructor
  · exact len
  intro B out s H args us ws Q E hr hg e0 hb rv hsp
  have inK : K.In s.heap := e0.mod.kin.keeps fun c o e => (e0.bs c o e).1
  have nl : s.heap.NoLimit := e0.mod.nolimit.keeps fun c o e => (e0.bs c o e).1
  have kinds : ∀ y ∈ ps.zip us, sc.names.lookup y.1 = some .local ∨ (sc.names.lookup y.1 = some .cell ∧ ((cellsFrom (s.heap.objs.size + 1) sc.names []).lookup y.1).isSome = true) := by
    rintro ⟨m, u⟩ hy
    rcases Sc.par m (List.of_mem_zip hy).1 with q | q
    · exact Or.inl q
    · exact Or.inr ⟨q, PySem.W.cellsFrom_some _ _ _ (.inl q)⟩
  apply codeAny_call_function hr.depth (inK _ _ lk) rfl Sc.co Sc.gen rfl (PySem.W.codeRec_of inK hc)
  apply hb
  apply wpAny_newFunctionEnv_cells Sc.kind kinds
  intro env he s1 x
  subst he
  refine And.intro (nl.keeps x.toInCall.keep) (codeAny_func ?_)
  obtain ⟨t, pt, ht⟩ := body B out s H ws Q E (hr.deeper _) hg hsp
  have I0 : Inv (cxOf CX P w K mg base N qual sc f cdv B out s H E) [] (start N ws) H s1 := inv_start Sc hr.hd e0 (len _ _ _ _ hsp) rv x
  refine wpAny_mono (pt.run [] s1 (start N ws) H _ I0 ht) ?_ (fun e s' hs => hs)
  intro fl s' hs
  have done : ∀ {σ1 : L2.St} {H1 : Hp} {v : V} {u : Value}, Inv (cxOf CX P w K mg base N qual sc f cdv B out s H E) [] σ1 H1 s' → RelV v u → Q v H1 → CE out P w H s Q u s' := fun {σ1 H1 v u} J r q => ⟨v, H1, J.os, J.bare, J.base, J.hok, r, q⟩
  match fl, hs with
  | .ret u, ⟨v, σ1, H1, J, r, q⟩ => exact done J r q
  | .next, ⟨σ1, H1, J, q⟩ => exact done (v := V.non) (u := Value.none) J rfl q
  | .brk, ⟨_, _, _, q⟩ => exact q.elim
  | .cont, ⟨_, _, _, q⟩ => exact q.elim
section
variable {X : Cx} {CX : CXT} {n : Nat} {f : Addr} {fd : FuncData} {ps : List Str} {sp : Sp} {dvs : List V} {ds : List Value} {E : L2.St → XK} {x : Str} {p pos : Pos} {e : Expr} {es : List Expr} {t : TA}
theorem run_fnG {pins : List (Addr × Obj)} {σ : L2.St} {H : Hp} {s : Shared} {Q : VK} {us : List Value} {ws : List V} (F : FnG X.prog X.w X.K X.mg X.base CX n f fd ps sp) (hr : Room n X.A) (hg : X.A.guards = some []) (hb : Binds X.K fd ps ds) (hd : Vals dvs ds) (hx : PassesAt CX X σ (E σ)) (I : Inv X pins σ H s) (r : Vals ws us) (h : sp (ws ++ dvs) H Q (E σ)) :
    wpAny (model X.prog X.w) X.A (call (.ref f) us) (EP X pins σ Q) X.xe s := by
  have rr : Vals (ws ++ dvs) (us ++ ds) := r.append hd
  have ll : (us ++ ds).length = ps.length := rr.length.symm.trans (F.len _ _ _ _ h)
  apply wpAny_call
  apply codeAny_mono (F.run X.A X.stack s H ⟨us, []⟩ (us ++ ds) (ws ++ dvs) Q (E σ) hr hg I.env0 (hb s us I.kIn ll) rr h)
  intro rs s' hq
  match rs, hq with
  | .error e, hq => exact hx pins H s e s' I hq
  | .ok (.ret u), hq => exact I.after hq
  | .ok .next, hq => exact hq.elim
  | .ok .brk, hq => exact hq.elim
  | .ok .cont, hq => exact hq.elim
theorem pe_callG (F : FnG X.prog X.w X.K X.mg X.base CX n f fd ps sp) (hr : Room n X.A) (hgu : X.A.guards = some []) (hg : Gl X x) (hm : X.mg x = some (.ref f)) (hk : PySem.W.keepIn X.K (.ref f) = true) (hb : Binds X.K fd ps ds) (hd : Vals dvs ds) (hx : ∀ σ, PassesAt CX X σ (E σ)) (ha : PA X (e :: es) t)
    (hdb : (x == ("__debug__" : Str)) = false) (he : starEach (e :: es) X.env = (false, eval e X.env) :: starEach es X.env) (hpl : (backTo pos (starEach es X.env)).any (·.1) = false) : PE X (.Call (.Name x p) (e :: es) [] pos) (fun σ H Q => t σ H fun ws H1 => sp (ws ++ dvs) H1 Q (E σ)) := by
  constructor
  intro pins s σ H Q I h
  apply wpAny_Call_Name_kw
  apply ld_glob I hg hm _ hdb
  apply PySem.W.callWith_K (h₀ := X.base) I.ok.mod.kin hk _ he hpl
  exact thn (ha.run pos pins s σ H _ I h) fun us s1 ⟨ws, H1, I1, r, q⟩ => ⟨I1.kIn, run_fnG F hr hgu hb hd (hx σ) I1 r q⟩
theorem pe_call0G (F : FnG X.prog X.w X.K X.mg X.base CX n f fd ps sp) (hr : Room n X.A) (hgu : X.A.guards = some []) (hg : Gl X x) (hm : X.mg x = some (.ref f)) (hk : PySem.W.keepIn X.K (.ref f) = true) (hb : Binds X.K fd ps ds) (hd : Vals dvs ds) (hx : ∀ σ, PassesAt CX X σ (E σ)) (hdb : (x == ("__debug__" : Str)) = false) : PE X (.Call (.Name x p) [] [] pos) (fun σ H Q => sp dvs H Q (E σ)) := by
  constructor
  intro pins s σ H Q I h
  apply wpAny_Call_Name_kw
  apply ld_glob I hg hm _ hdb
  exact PySem.W.callWith_K0 I.kIn hk (run_fnG (us := []) (ws := []) (E := E) F hr hgu hb hd (hx σ) I .nil h)
end
end G
namespace G
open PySem L2 PySem.Spec PyProof.Rows
/-- the law's own call, where its promise is asked at the caller alone -/
theorem lawG {P : Program} {w : World} {K : PySem.W.Frag} {mg mb : Str → Option Value} {CX : CXT} {n : Nat} {fa a : Addr} {fd : FuncData} {x : Str} {sp : Sp} {s1 : Shared} {us : List Value} {ns : List Int} (inK : K.In s1.heap) (gs : s1.heap.Ns mainGlobals mg) (bs : s1.heap.Ns builtinsNs mb)
    (boot : ∀ x : Str, x ≠ "__name__" → mb x = bootBuiltins x) (nl : s1.heap.NoLimit) (ge : s1.gens = #[]) (oa : s1.heap.get? a = some { cls := .type "list", data := .seq us.toArray }) (hi : IntsAre us ns) (hl : ns.length ≤ sizeLine) (hr : Room n callerA)
    (F : ∀ bh : Heap, K.In bh → bh.Ns mainGlobals mg → FnG P w K mg bh CX n fa fd [x] sp) (hbd : ∀ (s : Shared) (u : Value), BindsTo s fd ⟨[u], []⟩ [(x, u)])
    (hsp : ∀ H : Hp, Only H → SqL K H a (ns.map V.int) → sp [.ref a] H (fun v _ => v = .bl true) fun _ _ _ => False) (noX : ∀ H e s', CX [] H s1 (fun _ _ _ => False) e s' → False) :
    codeAny (model P w) callerA (.call (.ref fa) ⟨[.ref a], []⟩) (fun r s' => r = .ok (.ret (.bool true)) ∧ OldK s1.heap s'.heap ∧ s'.os = s1.os ∧ AllBare s'.gens) s1 := by
  have vals := vals_ints hi
  have lens := hi.length
  have main : ∀ H : Hp, Only H → SqL K H a (ns.map V.int) → HOk P w H s1.heap → (∀ c, H c ≠ none → c = a) → (H a ≠ none → K.lookup a = none) → codeAny (model P w) callerA (.call (.ref fa) ⟨[.ref a], []⟩) (fun r s' => r = .ok (.ret (.bool true)) ∧ OldK s1.heap s'.heap ∧ s'.os = s1.os ∧ AllBare s'.gens) s1 := by
    intro H only sq hok at1 notK
    have keep : ∀ {c : Addr} {o : Obj}, s1.heap.get? c = some o → H c = none → (hidT s1.heap H).get? c = some o := fun e z => hidT_get e z
    have noDict : ∀ {c : Addr} {o : Obj} {es : Array DictEntry} {ep : Nat}, s1.heap.get? c = some o → o.data = .dict es ep → H c = none := by
      intro c o es ep e d
      rcases hq : H c with _ | u
      · rfl
      · have hc : c = a := at1 c (by rw [hq]; exact Option.some_ne_none u)
        rw [hc, oa] at e
        cases e
        exact Data.noConfusion (show Data.seq us.toArray _ = Data.dict es ep from d)
    have nsOf : ∀ {c : Addr} {m : Str → Option Value}, s1.heap.Ns c m → (hidT s1.heap H).Ns c m := fun ⟨o, es, ep, e, d, r⟩ => ⟨o, es, ep, keep e (noDict e d), d, r⟩
    have inB : K.In (hidT s1.heap H) := by
      intro c o e
      refine keep (inK c o e) ?_
      rcases hq : H c with _ | u
      · rfl
      · have hc : c = a := at1 c (by rw [hq]; exact Option.some_ne_none u)
        rw [hc, notK (by rw [← hc, hq]; exact Option.some_ne_none u)] at e
        cases e
    have md : Mod K mg (hidT s1.heap H) := ⟨inB, nsOf gs, ⟨mb, nsOf bs, boot⟩, by obtain ⟨mc, q1, q2⟩ := nl; exact ⟨mc, nsOf q1, q2⟩⟩
    have env : Env0 P w K mg (hidT s1.heap H) callerA [] s1 H := ⟨rfl, md, fun c o e => of_hidT e, Nat.le_of_eq (hidT_size _ _), trivial, fun c hc => (List.not_mem_nil (show c ∈ ([] : List Addr) from hc)).elim, hok, .of_eq ge⟩
    apply codeAny_mono ((F _ inB (nsOf gs)).run callerA [] s1 H ⟨[.ref a], []⟩ [.ref a] [.ref a] _ _ hr rfl env (hbd s1 (.ref a)) (.cons rfl .nil) (hsp H only sq))
    intro r s' h
    match r, h with
    | .error e, h => exact (noX H e s' h).elim
    | .ok .next, h => exact h.elim
    | .ok .brk, h => exact h.elim
    | .ok .cont, h => exact h.elim
    | .ok (.ret u), h =>
      obtain ⟨v, H', os, bare, un, hok', rv, q⟩ := h
      cases (show v = .bl true from q)
      cases (show u = Value.bool true from rv)
      refine ⟨rfl, OldK.of_keep ?_, os, bare⟩
      intro c o e
      rcases hq : H c with _ | u
      · exact un.keep c o e hq (fun z => (List.not_mem_nil (show c ∈ ([] : List Addr) from z)).elim) (List.not_mem_nil)
      · rcases only c with z | ⟨ob, xs, z⟩
        · exact absurd (hq.symm.trans z) (Option.some_ne_none u)
        · obtain ⟨q1, _⟩ := hok c _ z
          obtain ⟨q2, _⟩ := hok' c _ (un.frzs c ob _ z)
          have : o = ob := Option.some.inj (e.symm.trans q1)
          rw [this]
          exact q2
  rcases hk : K.lookup a with _ | o
  · refine main (fun c => if c = a then some (.frz { cls := .type "list", data := .seq us.toArray } (.lst (ns.map V.int))) else none) ?_ (.inl (.inr ⟨{ cls := .type "list", data := .seq us.toArray }, if_pos rfl⟩)) ?_ ?_ (fun _ => hk)
    · intro c
      by_cases hc : c = a
      · exact Or.inr ⟨_, _, if_pos hc⟩
      · exact Or.inl (if_neg hc)
    · intro c u z
      by_cases hc : c = a
      · cases (if_pos hc).symm.trans z
        rw [hc]
        exact ⟨oa, by rw [List.length_map]; exact hl, us, _, vals, oa⟩
      · cases (if_neg hc).symm.trans z
    · intro c z
      by_cases hc : c = a
      · exact hc
      · exact absurd (if_neg hc) z
  · have e := inK a o hk
    rw [oa] at e
    cases e
    exact main (fun _ => none) (fun _ => .inl rfl) (.inr ⟨_, us.toArray, _, hk, rfl, rfl, rfl, by rw [List.size_toArray, lens]; exact hl, by simpa using vals⟩) (fun c u z => by cases (show (none : Option HO) = some u from z)) (fun c z => absurd rfl z) (fun z => absurd rfl z)
theorem walkG {l : PySem.W.OpenLaw} {m n : Nat} {q : Program} {loose : List Str} {XP : (Str → Option Value) → Heap → Prop} {YP : World → Heap → Prop} {d : DefRec} {K : Params → PySem.W.Frag} {CX : World → CXT} {sp : World → Sp} {x : Str} (hm : l.most = some m) (hm2 : m ≤ sizeLine) (hdf : d.params.defaults = []) (hr : Room n callerA) (hY : ∀ (w : World) (h : Heap), YP w h → (K w.params).In h)
    (F : ∀ (w : World) (mg : Str → Option Value) (fa : Addr) (h : Heap), (K w.params).In h → h.Ns mainGlobals mg → mg d.name = some (.ref fa) → ∃ fd : FuncData, (∀ (s : Shared) (u : Value), BindsTo s fd ⟨[u], []⟩ [(x, u)]) ∧ ∀ bh : Heap, (K w.params).In bh → bh.Ns mainGlobals mg → FnG l.prog w (K w.params) mg bh (CX w) n fa fd [x] (sp w))
    (hsp : ∀ (w : World) (H : Hp) (a : Addr) (ns : List Int), ns.length ≤ m → (∀ z ∈ ns, Builtin.Int.intBits z ≤ 1048576) → Only H → SqL (K w.params) H a (ns.map V.int) → sp w [.ref a] H (fun v _ => v = .bl true) fun _ _ _ => False)
    (noX : ∀ (w : World) (H : Hp) (s : Shared) (e : Value) (s' : Shared), CX w [] H s (fun _ _ _ => False) e s' → False) : PySem.W.WalkO q loose XP YP l.row.toRowW d [] (fun f vs => PySem.call f vs) := by
  apply Att.attach_callB hm hdf
  intro w s0 s1 mg mb fa o pm cd doc a us ns gr Y ho hd hcd hmg oa hi hlen hbits hg
  have inK := hY w _ Y
  obtain ⟨fd, hb, hF⟩ := F w mg fa _ inK gr.T.g hmg
  exact lawG inK gr.T.g gr.T.b gr.T.builtins gr.T.nolimit hg oa hi (Nat.le_trans hlen hm2) hr hF hb (fun H hO hS => hsp w H a ns hlen hbits hO hS) (fun H e s' => noX w H s1 e s')
end G
namespace G
open PySem L2
section
variable {ι : Type} {M : MI} {xr : Str → Option Value} {K : PySem.W.Frag} {X : ι → Cx} {W : WX}
/-! ### comprehensions, the rules -/
theorem de_lc {elt tg iter : Expr} {ifs : List Expr} {scope : Scope} {own : List (Str × Nat)} {pos : Pos} {ts : List Nat} {its : Sm M (List D)} {k : D → Z M.T → Option (Z M.T)} {t : Sm M Bool} {e : Sm M S} (hc : ∀ j, (X j).calm = true) (hN : ∀ j, (X j).N.Nodup) (ok : ∀ j, BlkOk (X j).N (X j).env.scope scope own)
    (hi : DI M xr K X W tg iter its) (hg : DG M K (Blk X scope) ts tg k) (ht : DTs M xr K (Blk X scope) W0 ifs t) (he : DE M xr K (Blk X scope) W0 elt e) (hv : ∀ n ∈ ts, n ∈ own.map (·.2) := by decide) (hs : ∀ j x, foldedSetIterable iter (X j).env x = pure x := by intro _ _; rfl) :
    DE M xr K X W (.ListComp elt [⟨tg, iter, ifs, 0⟩] scope pos) (eLc its k t e (own.map (·.2))) := by
  obtain ⟨wi, pi, ci⟩ := hi
  obtain ⟨g, pg, cg⟩ := hg
  obtain ⟨tt, pt, ct⟩ := ht
  obtain ⟨te, pe, ce⟩ := he
  exact ⟨_, fun j => pe_lc (hc j) (hN j) (pi j) (ok j) (fun s H C cl fp => pg (j, ⟨s, H, C, cl, fp⟩)) (fun s H C cl fp => pt (j, ⟨s, H, C, cl, fp⟩)) (fun s H C cl fp => pe (j, ⟨s, H, C, cl, fp⟩)) (hs j), cmp_lc hv ci cg ct ce⟩
theorem ds_setLc {i : Nat} {y : Str} {py : Pos} {elt tg iter : Expr} {ifs : List Expr} {scope : Scope} {own : List (Str × Nat)} {pos spos : Pos} {ts : List Nat} {its : Sm M (List D)} {k : D → Z M.T → Option (Z M.T)} {t : Sm M Bool} {e : Sm M S} (hc : ∀ j, (X j).calm = true) (hN : ∀ j, (X j).N.Nodup) (hy : ∀ j, (X j).N[i]? = some y) (hyl : ∀ j, (X j).env.scope.names.lookup y = some .local)
    (hsw : ∀ j, swapsWith (.ListComp elt [⟨tg, iter, ifs, 0⟩] scope pos) (some (.Name y py)) spos.line (X j).env = pure true) (ok : ∀ j, BlkOk (X j).N (X j).env.scope scope own)
    (hi : DI M xr K X W tg iter its) (hg : DG M K (Blk X scope) ts tg k) (ht : DTs M xr K (Blk X scope) W0 ifs t) (he : DE M xr K (Blk X scope) W0 elt e) (hv : ∀ n ∈ ts, n ∈ own.map (·.2) := by decide) (hs : ∀ j x, foldedSetIterable iter (X j).env x = pure x := by intro _ _; rfl) :
    DS M xr K X W (.Assign [.Name y py] (.ListComp elt [⟨tg, iter, ifs, 0⟩] scope pos) spos) (sSet i (eLc its k t e (own.map (·.2)))) := by
  obtain ⟨wi, pi, ci⟩ := hi
  obtain ⟨g, pg, cg⟩ := hg
  obtain ⟨tt, pt, ct⟩ := ht
  obtain ⟨te, pe, ce⟩ := he
  exact ⟨_, fun j => ps_setLc (hc j) (hN j) (hy j) (hyl j) (hsw j) (pi j) (ok j) (fun s H C cl fp => pg (j, ⟨s, H, C, cl, fp⟩)) (fun s H C cl fp => pt (j, ⟨s, H, C, cl, fp⟩)) (fun s H C cl fp => pe (j, ⟨s, H, C, cl, fp⟩)) (hs j), sr_set (cmp_lc hv ci cg ct ce)⟩

/-! ### a slot's own list, changed -/
theorem Ok.setL {G : Gx} {σ : St} {H F : Hp} {z : Z M.T} (ok : Ok M G σ H F z) {i : Nat} {xs ys : List D} {a : Addr} {ws : List V} (h : z.rho[i]? = some (some (.l xs))) (ha : σ[i]? = some (some (.ref a))) (hd : DaAll G.K F ws ys) : Ok M G σ (upd H a (.lst ws)) F { z with rho := z.rho.set i (some (.l ys)) } := by
  obtain ⟨v, e, b, vs, rfl, h1, h2, h3, h4, h5⟩ := ok.slot i _ h
  rw [ha] at e
  cases e
  have hl : i < z.rho.length := (List.getElem?_eq_some_iff.mp h).1
  have old : ∀ j s, (z.rho.set i (some (S.l ys)))[j]? = some (some s) → (j = i ∧ s = .l ys) ∨ (j ≠ i ∧ z.rho[j]? = some (some s)) := fun j s q => by
    by_cases hj : j = i
    · subst hj
      rw [List.getElem?_set_self hl] at q
      cases q
      exact .inl ⟨rfl, rfl⟩
    · rw [List.getElem?_set_ne (Ne.symm hj)] at q
      exact .inr ⟨hj, q⟩
  refine ⟨same_updR ok.sub h3, by simp [ok.len], fun j s q => ?_, fun j k as bs v e1 e2 e3 e4 => ?_, M.mono (Same.refl F) (tgk_new h3) (fun c hc => upd_ne (fun e => h5 (e ▸ hc))) ok.mach, ok.msF, ok.msP, fun c hc => ?_, fun c o q => ?_, fun c ps e => ⟨by rw [upd_ne (ne_of_none e h3)]; exact (ok.tg c ps e).1, (ok.tg c ps e).2⟩⟩
  · rcases old j s q with ⟨rfl, rfl⟩ | ⟨hj, q⟩
    · exact ⟨.ref a, ha, a, ws, rfl, upd_same, hd, h3, h4, h5⟩
    · obtain ⟨v, e1, e2⟩ := ok.slot j s q
      refine ⟨v, e1, ?_⟩
      cases s with
      | d x => exact e2
      | l as =>
        obtain ⟨c, vs', rfl, q1, q2, q3, q4, q5⟩ := e2
        have n : c ≠ a := fun e => hj (ok.dist j i as xs _ q h e1 (by rw [e]; exact ha))
        exact ⟨c, vs', rfl, (upd_ne n).trans q1, q2, q3, q4, q5⟩
      | v _ => exact e2
      | m j => exact e2
  · have r : ∀ n cs, (z.rho.set i (some (S.l ys)))[n]? = some (some (S.l cs)) → ∃ ds, z.rho[n]? = some (some (S.l ds)) := fun n cs q => by
      rcases old n _ q with ⟨rfl, _⟩ | ⟨_, q⟩
      · exact ⟨xs, h⟩
      · exact ⟨_, q⟩
    obtain ⟨as', e1'⟩ := r j as e1
    obtain ⟨bs', e2'⟩ := r k bs e2
    exact ok.dist j k as' bs' v e1' e2' e3 e4
  · show upd H a (.lst ws) c ≠ none
    have n : c ≠ a := fun e => h5 (e ▸ hc)
    rw [upd_ne n]
    exact ok.msH c hc
  · have n : c ≠ a := fun e => by rw [e, h4] at q; cases q
    obtain ⟨q1, q2⟩ := ok.fr c o q
    exact ⟨(upd_ne n).trans q1, q2⟩
def ownAt {T : Type} (z : Z T) (i : Nat) : Option (List D) := match z.rho[i]? with
  | some (some (.l xs)) => some xs
  | _ => none
theorem ownAt_some {T : Type} {z : Z T} {i : Nat} {xs : List D} (h : ownAt z i = some xs) : z.rho[i]? = some (some (.l xs)) := by
  unfold ownAt at h
  split at h
  · rename_i ys e
    cases h
    exact e
  · cases h
def eApp (i : Nat) (g : Sm M S) : Sm M S := fun z => match ownAt z i with
  | none => .bad
  | some _ => (escf g z).bind fun s z1 => match ownAt z1 i, s with
    | some xs, .d y => if xs.length < lim then .ok (.d .non) { z1 with rho := z1.rho.set i (some (.l (xs ++ [y]))) } else .bad
    | _, _ => .bad
def eExt (i : Nat) (g : Sm M S) : Sm M S := fun z => match ownAt z i with
  | none => .bad
  | some _ => (opd g z).bind fun s z1 => match ownAt z1 i, rd z1 s with
    | some xs, some (.lst ys) => if xs.length + ys.length ≤ lim then .ok (.d .non) { z1 with rho := z1.rho.set i (some (.l (xs ++ ys))) } else .bad
    | _, _ => .bad
def ePop (i : Nat) : Sm M S := fun z => match ownAt z i with
  | none => .bad
  | some xs => match xs[xs.length - 1]? with
    | some y => .ok (.d y) { z with rho := z.rho.set i (some (.l xs.dropLast)) }
    | none => .bad
theorem tyV_own {K : PySem.W.Frag} {H : Hp} {a : Addr} {xs : List V} (h : H a = some (.lst xs)) : tyV K "list" (.ref a) H := .inl ⟨rfl, _, SqL.of h⟩
theorem Ok.at {G : Gx} {σ : St} {H F : Hp} {z : Z M.T} (ok : Ok M G σ H F z) {i : Nat} {xs : List D} (h : ownAt z i = some xs) : ∃ a vs, σ[i]? = some (some (.ref a)) ∧ H a = some (.lst vs) ∧ DaAll G.K F vs xs := by
  obtain ⟨v, e, a, vs, rfl, h1, h2, _⟩ := ok.slot i _ (ownAt_some h)
  exact ⟨a, vs, e, h1, h2⟩
theorem de_append {i : Nat} {x : Str} {pn apos cpos : Pos} {e : Expr} {g : Sm M S} (hK : ∀ j, (X j).K = K) (hN : ∀ j, (X j).N[i]? = some x) (hv : ∀ j, Vis (X j).env.scope x) (hd : (x == ("__debug__" : Str)) = false) (hcd : (x == ("__classdict__" : Str)) = false) (h : DE M xr K X W e g)
    (hbase : ∀ j, attributeBase (.Name x pn) "append" (X j).env (eval (.Name x pn) (X j).env) = eval (.Name x pn) (X j).env := by intro _; rfl)
    (hfew : ∀ j, ((backTo cpos (starEach [e] (X j).env)).all (fun x => !x.1) && (backToKw cpos (keywordEach [] (X j).env)).all (fun x => x.1.isSome) && decide (([e] : List Expr).length + ([] : List Keyword).length + (if ([] : List Keyword).isEmpty then 0 else 1) < 30)) = true := by intro _; rfl)
    (hline : (apos.endLine == cpos.line) = true := by rfl) (hs : ∀ j, starEach [e] (X j).env = (false, eval e (X j).env) :: starEach [] (X j).env := by intro _; rfl) (hplain : ∀ j, (backTo cpos (starEach [] (X j).env)).any (·.1) = false := by intro _; rfl) :
    DE M xr K X W (.Call (.Attribute (.Name x pn) "append" apos) [e] [] cpos) (eApp i g) := by
  obtain ⟨t, p, c⟩ := h
  refine ⟨tBM K "list" rAppend (tVar i) (tCons t tNil), fun j => ?_, fun G σ H F z Q hGK hx ok hh => ?_⟩
  · rw [← hK j]
    exact pe_bm PySem.F.plainAttrs_list PySem.F.slot_list_append PySem.F.type_list_append mt_append (pe_var (hN j) (hv j) hd hcd) (pa_cons (p j) pa_nil (hs j)) (hbase j) (hfew j) hline (hs j) (hplain j)
  · unfold eApp at hh
    cases e0 : ownAt z i with
    | none => simp only [e0] at hh; exact hh.elim
    | some ys =>
      simp only [e0] at hh
      obtain ⟨a, vs, hσ, ha, _⟩ := ok.at e0
      refine ⟨.ref a, hσ, tyV_own ha, ?_⟩
      refine cmp_esc c G σ H F z _ hGK hx ok (hit_bind hh fun s z1 v H1 F1 _ sm ok1 ev h1 => ?_)
      cases e1 : ownAt z1 i with
      | none => simp only [e1] at h1; exact h1.elim
      | some xs =>
        simp only [e1] at h1
        cases s with
        | d y =>
          simp only at h1
          by_cases hl : xs.length < lim
          · rw [if_pos hl] at h1
            obtain ⟨b, ws, hσ1, hb, hdw⟩ := ok1.at e1
            rw [hσ] at hσ1
            cases hσ1
            refine ⟨a, ws, v, rfl, rfl, hb, by rw [hdw.length]; exact Nat.lt_trans hl lim_line, ?_⟩
            exact h1 .non _ F1 (Same.refl _) (ok1.setL (ownAt_some e1) hσ (hdw.append (.cons ev .nil))) Da.non
          · rw [if_neg hl] at h1; exact h1.elim
        | _ => exact h1.elim
theorem Rv.lst {K : PySem.W.Frag} {F H : Hp} (s : SameX F H) {v : V} {xs : List D} (h : Rv K F H v (.lst xs)) : ∃ a vs, v = .ref a ∧ H a = some (.lst vs) ∧ DaAll K F vs xs := by
  rcases h with h | ⟨a, vs, ys, rfl, e, h1, h2⟩
  · cases h with
    | lst q r => exact ⟨_, _, rfl, s.lst q, r⟩
  · cases e
    exact ⟨a, vs, rfl, h1, h2⟩
theorem de_extend {i : Nat} {x : Str} {pn apos cpos : Pos} {e : Expr} {g : Sm M S} (hK : ∀ j, (X j).K = K) (hN : ∀ j, (X j).N[i]? = some x) (hv : ∀ j, Vis (X j).env.scope x) (hd : (x == ("__debug__" : Str)) = false) (hcd : (x == ("__classdict__" : Str)) = false) (h : DE M xr K X W e g)
    (hbase : ∀ j, attributeBase (.Name x pn) "extend" (X j).env (eval (.Name x pn) (X j).env) = eval (.Name x pn) (X j).env := by intro _; rfl)
    (hfew : ∀ j, ((backTo cpos (starEach [e] (X j).env)).all (fun x => !x.1) && (backToKw cpos (keywordEach [] (X j).env)).all (fun x => x.1.isSome) && decide (([e] : List Expr).length + ([] : List Keyword).length + (if ([] : List Keyword).isEmpty then 0 else 1) < 30)) = true := by intro _; rfl)
    (hline : (apos.endLine == cpos.line) = true := by rfl) (hs : ∀ j, starEach [e] (X j).env = (false, eval e (X j).env) :: starEach [] (X j).env := by intro _; rfl) (hplain : ∀ j, (backTo cpos (starEach [] (X j).env)).any (·.1) = false := by intro _; rfl) :
    DE M xr K X W (.Call (.Attribute (.Name x pn) "extend" apos) [e] [] cpos) (eExt i g) := by
  obtain ⟨t, p, c⟩ := h
  refine ⟨tBM K "list" rExtend (tVar i) (tCons t tNil), fun j => ?_, fun G σ H F z Q hGK hx ok hh => ?_⟩
  · rw [← hK j]
    exact pe_bm PySem.F.plainAttrs_list PySem.F.slot_list_extend PySem.F.type_list_extend mt_extend (pe_var (hN j) (hv j) hd hcd) (pa_cons (p j) pa_nil (hs j)) (hbase j) (hfew j) hline (hs j) (hplain j)
  · unfold eExt at hh
    cases e0 : ownAt z i with
    | none => simp only [e0] at hh; exact hh.elim
    | some ys =>
      simp only [e0] at hh
      obtain ⟨a, vs, hσ, ha, _⟩ := ok.at e0
      refine ⟨.ref a, hσ, tyV_own ha, ?_⟩
      refine cmp_opd c G σ H F z _ hGK hx ok (hit_bind hh fun s z1 v H1 F1 _ sm ok1 ev h1 => ?_)
      cases e1 : ownAt z1 i with
      | none => simp only [e1] at h1; exact h1.elim
      | some xs =>
        cases e2 : rd z1 s with
        | none => simp only [e1, e2] at h1; exact h1.elim
        | some y =>
          cases y with
          | lst zs =>
            simp only [e1, e2] at h1
            by_cases hl : xs.length + zs.length ≤ lim
            · rw [if_pos hl] at h1
              obtain ⟨b, ws, hσ1, hb, hdw⟩ := ok1.at e1
              rw [hσ] at hσ1
              cases hσ1
              obtain ⟨c2, us, rfl, hc2, hdu⟩ := (EO.rv ok1 ev e2).lst ok1.sub
              refine ⟨a, c2, ws, us, rfl, rfl, hb, hc2, by rw [hdw.length, hdu.length]; exact Nat.le_trans hl (Nat.le_of_lt lim_line), ?_⟩
              exact h1 .non _ F1 (Same.refl _) (ok1.setL (ownAt_some e1) hσ (hdw.append hdu)) Da.non
            · rw [if_neg hl] at h1; exact h1.elim
          | _ => simp only [e1, e2] at h1; exact h1.elim
theorem de_pop {i : Nat} {x : Str} {pn apos cpos : Pos} (hK : ∀ j, (X j).K = K) (hN : ∀ j, (X j).N[i]? = some x) (hv : ∀ j, Vis (X j).env.scope x) (hd : (x == ("__debug__" : Str)) = false) (hcd : (x == ("__classdict__" : Str)) = false)
    (hbase : ∀ j, attributeBase (.Name x pn) "pop" (X j).env (eval (.Name x pn) (X j).env) = eval (.Name x pn) (X j).env := by intro _; rfl) (hline : (apos.endLine == cpos.line) = true := by rfl) :
    DE M xr K X W (.Call (.Attribute (.Name x pn) "pop" apos) [] [] cpos) (ePop i) := by
  refine ⟨tBM0 K "list" rPop (tVar i), fun j => ?_, fun G σ H F z Q hGK hx ok hh => ?_⟩
  · rw [← hK j]
    exact pe_bm0 PySem.F.plainAttrs_list PySem.F.slot_list_pop PySem.F.type_list_pop mt_pop (pe_var (hN j) (hv j) hd hcd) (hbase j) hline
  · unfold ePop at hh
    cases e0 : ownAt z i with
    | none => simp only [e0] at hh; exact hh.elim
    | some xs =>
      simp only [e0] at hh
      obtain ⟨a, vs, hσ, ha, hda⟩ := ok.at e0
      cases e1 : xs[xs.length - 1]? with
      | none => simp only [e1] at hh; exact hh.elim
      | some y =>
        simp only [e1] at hh
        obtain ⟨v, hv1, hv2⟩ := hda.get e1
        refine ⟨.ref a, hσ, tyV_own ha, a, vs, v, rfl, rfl, ha, by rw [hda.length]; exact hv1, ?_⟩
        exact hh v _ F (Same.refl _) (ok.setL (ownAt_some e0) hσ hda.dropLast) hv2

/-! ### calls of the text's own defs -/
def AV (K : PySem.W.Frag) (F : Hp) (ms : List Addr) (v : V) : S → Prop
  | .d x => Da K F v x
  | .m j => ∃ a, ms[j]? = some a ∧ v = .ref a
  | _ => False
structure RetC (M : MI) (K : PySem.W.Frag) (ms : List Addr) (H F H' F' : Hp) (t : M.T) : Prop where
  sub : SameX F' H'
  mach : M.ok K F' H' ms t
  msx : ∀ a ∈ ms, F' a = none ∧ H' a ≠ none
  fr : ∀ b o, H b = some o → b ∉ ms → (∀ ps, F b ≠ some (.tbl ps)) → H' b = some o ∧ F' b = F b
  tg : ∀ a ps, F' a = some (.tbl ps) → H' a ≠ none ∧ (F a = some (.tbl ps) ∨ H a = none)
def RetV (K : PySem.W.Frag) (ms : List Addr) (H H' F' : Hp) (v : V) : S → Prop
  | .d x => Da K F' v x
  | .l xs => ∃ a vs, v = .ref a ∧ H' a = some (.lst vs) ∧ DaAll K F' vs xs ∧ F' a = none ∧ H a = none ∧ a ∉ ms
  | .m j => ∃ a, ms[j]? = some a ∧ v = .ref a
  | .v _ => False
def spM (M : MI) (K : PySem.W.Frag) (xr : Str → Option Value) (n : Nat) (mir : List S → M.T → Rs S M.T) : Sp := fun vs H Q E => vs.length = n ∧ ∃ (ms : List Addr) (F : Hp) (args : List S) (t : M.T), SameX F H ∧ M.ok K F H ms t ∧ (∀ a ∈ ms, F a = none ∧ H a ≠ none) ∧ (∀ a ps, F a = some (.tbl ps) → H a ≠ none) ∧ Paired (AV K F ms) vs args ∧
  match mir args t with
  | .ok s t' => ∀ v H' F', Same F F' → RetC M K ms H F H' F' t' → RetV K ms H H' F' v s → Q v H'
  | .ex x t' => ∀ cls d H' F', Same F F' → RetC M K ms H F H' F' t' → XOk ⟨K, xr, ms, H, F⟩ F' H' x cls d → E cls d H'
  | .bad => False
def okArg : S → Bool
  | .d _ => true
  | .m _ => true
  | _ => false
def eCall (c : List S → M.T → Rs S M.T) (g : Sm M (List S)) : Sm M S := fun z => (g z).bind fun ss z1 => if ss.all okArg = true then (match c ss z1.m with
  | .ok s t => .ok s { z1 with m := t }
  | .ex x t => .ex x { z1 with m := t }
  | .bad => .bad) else .bad
theorem paired_av {G : Gx} {σ : St} {F : Hp} : ∀ {vs : List V} {ss : List S}, Paired (fun v s => EO G σ F v s) vs ss → ss.all okArg = true → Paired (AV G.K F G.ms) vs ss
  | _, _, .nil, _ => .nil
  | _, s :: ss, .cons a b, h => by
    rw [List.all_cons, Bool.and_eq_true] at h
    refine .cons ?_ (paired_av b h.2)
    cases s with
    | d x => exact a
    | m j => exact a
    | l _ => cases h.1
    | v _ => cases h.1
theorem Ok.call {G : Gx} {σ : St} {H H' F F' : Hp} {z : Z M.T} {t : M.T} (ok : Ok M G σ H F z) (sm : Same F F') (r : RetC M G.K G.ms H F H' F' t) : Ok M G σ H' F' { z with m := t } where
  sub := r.sub
  len := ok.len
  slot := fun i s e => by
    obtain ⟨v, h1, h2⟩ := ok.slot i s e
    refine ⟨v, h1, ?_⟩
    cases s with
    | d x => exact Da.mono sm h2
    | l xs =>
      obtain ⟨a, vs, rfl, h3, h4, h5, h6, h7⟩ := h2
      obtain ⟨q1, q2⟩ := r.fr a _ h3 h7 (fun ps e => by rw [h5] at e; cases e)
      exact ⟨a, vs, rfl, q1, h4.mono sm, q2.trans h5, h6, h7⟩
    | v _ => exact h2
    | m j => exact h2
  dist := ok.dist
  mach := r.mach
  msF := fun a ha => (r.msx a ha).1
  msP := ok.msP
  msH := fun a ha => (r.msx a ha).2
  fr := fun b o q => by
    obtain ⟨h1, h2⟩ := ok.fr b o q
    have n : b ∉ G.ms := fun hb => by rw [ok.msP b hb] at q; cases q
    obtain ⟨h3, h4⟩ := r.fr b o h1 n (fun ps e => by rw [(ok.tg b ps e).2] at q; cases q)
    exact ⟨h3, h4.trans h2⟩
  tg := fun a ps e => by
    obtain ⟨h1, h2⟩ := r.tg a ps e
    refine ⟨h1, ?_⟩
    rcases h2 with h2 | h2
    · exact (ok.tg a ps h2).2
    · exact ok.freshP h2
theorem cmp_call {n : Nat} {t : TA} {g : Sm M (List S)} {c : List S → M.T → Rs S M.T} (cg : Cmp M K xr W t RelA g) (hn : ∀ z ss z1, g z = .ok ss z1 → ss.length = n) : Cmp M K xr W (tCallS (spM M K xr n c) (WE W) t) RelE (eCall c g) := by
  intro G σ H F z Q hK hx ok hh
  refine cg G σ H F z _ hK hx ok (hit_bind hh fun ss z1 vs H1 F1 eg sm ok1 ea h1 => ?_)
  by_cases hd : ss.all okArg = true
  · rw [if_pos hd] at h1
    have hv := paired_av ea hd
    refine ⟨hv.length.trans (hn z ss z1 eg), G.ms, F1, ss, z1.m, ok1.sub, by rw [← hK]; exact ok1.mach, fun a ha => ⟨ok1.msF a ha, ok1.msH a ha⟩, fun a ps e => (ok1.tg a ps e).1, by rw [← hK]; exact hv, ?_⟩
    subst hK hx
    cases e : c ss z1.m with
    | bad => rw [e] at h1; exact h1
    | ex x t' =>
      rw [e] at h1
      exact fun cls d H' F' s' r xo => h1 cls d H' F' s' (ok1.call s' r) xo
    | ok s t' =>
      rw [e] at h1
      intro v H' F' s' r rv
      refine h1 v H' F' s' (ok1.call s' r) ?_
      cases s with
      | d x => exact rv
      | m j => exact rv
      | v _ => exact rv.elim
      | l xs =>
        obtain ⟨a, us, rfl, q1, q2, q3, q4, q5⟩ := rv
        have hP : G.P a = none := ok1.freshP q4
        refine ⟨a, us, rfl, q1, q2, q3, hP, q5, fun ⟨i, ys, o1, o2⟩ => ?_⟩
        exact ok1.freshO q4 ⟨i, ys, o1, o2⟩
  · rw [if_neg hd] at h1; exact h1.elim
theorem len_nil {z : Z M.T} {ss : List S} {z1 : Z M.T} (h : (aNil : Sm M (List S)) z = .ok ss z1) : ss.length = 0 := by
  cases h
  rfl
theorem len_cons {f : Sm M S} {g : Sm M (List S)} {n : Nat} (hg : ∀ z ss z1, g z = .ok ss z1 → ss.length = n) : ∀ z ss z1, aCons f g z = .ok ss z1 → ss.length = n + 1 := fun z ss z1 h => by
  unfold aCons at h
  cases e : f z with
  | bad => rw [e] at h; cases h
  | ex x zz => rw [e] at h; cases h
  | ok s z2 =>
    rw [e] at h
    simp only [Rs.bind_ok] at h
    cases e2 : g z2 with
    | bad => rw [e2] at h; cases h
    | ex x zz => rw [e2] at h; cases h
    | ok ss' z3 =>
      rw [e2] at h
      cases h
      rw [List.length_cons, hg z2 ss' _ e2]
theorem pe_callF {X : Cx} {CX : CXT} {n : Nat} {f : Addr} {fd : FuncData} {ps : List Str} {sp : Sp} {E : St → XK} {x : Str} {p pos : Pos} {e : Expr} {es : List Expr} {t : TA} (F : FnG X.prog X.w X.K X.mg X.base CX n f fd ps sp) (hr : Room n X.A) (hgu : X.A.guards = some []) (hg : Gl X x) (hm : X.mg x = some (.ref f)) (hk : PySem.W.keepIn X.K (.ref f) = true) (hb : Binds X.K fd ps []) (hx : ∀ σ, PassesAt CX X σ (E σ)) (ha : PA X (e :: es) t)
    (hdb : (x == ("__debug__" : Str)) = false) (he : starEach (e :: es) X.env = (false, eval e X.env) :: starEach es X.env) (hpl : (backTo pos (starEach es X.env)).any (·.1) = false) : PE X (.Call (.Name x p) (e :: es) [] pos) (tCallS sp E t) := by
  have q := pe_callG (p := p) F hr hgu hg hm hk hb .nil hx ha hdb he hpl
  simp only [List.append_nil] at q
  exact q
theorem de_call {CX : CXT} {n k : Nat} {x : Str} {f : Addr} {fd : FuncData} {ps : List Str} {e : Expr} {es : List Expr} {g : Sm M (List S)} {c : List S → M.T → Rs S M.T} {p pos : Pos} (hF : ∀ j, FnG (X j).prog (X j).w (X j).K (X j).mg (X j).base CX k f fd ps (spM M K xr n c)) (hr : ∀ j, Room k (X j).A) (hgu : ∀ j, (X j).A.guards = some []) (hg : ∀ j, Gl (X j) x)
    (hm : ∀ j, (X j).mg x = some (.ref f)) (hk : ∀ j, PySem.W.keepIn (X j).K (.ref f) = true) (hb : ∀ j, Binds (X j).K fd ps []) (hx : ∀ j σ, PassesAt CX (X j) σ (WE W σ)) (ha : DA M xr K X W (e :: es) g) (hn : ∀ z ss z1, g z = .ok ss z1 → ss.length = n)
    (hdb : (x == ("__debug__" : Str)) = false := by decide) (he : ∀ j, starEach (e :: es) (X j).env = (false, eval e (X j).env) :: starEach es (X j).env := by intro _; rfl) (hpl : ∀ j, (backTo pos (starEach es (X j).env)).any (·.1) = false := by intro _; rfl) :
    DE M xr K X W (.Call (.Name x p) (e :: es) [] pos) (eCall c g) := by
  obtain ⟨t, pa, ca⟩ := ha
  exact ⟨_, fun j => pe_callF (hF j) (hr j) (hgu j) (hg j) (hm j) (hk j) (hb j) (hx j) (pa j) hdb (he j) (hpl j), cmp_call ca hn⟩
/-- defaults that fill up -/
def aDef (dd : List D) (g : Sm M (List S)) : Sm M (List S) := fun z => (g z).bind fun ss z1 => .ok (ss ++ dd.map S.d) z1
theorem paired_app {α β : Type} {R : α → β → Prop} : ∀ {as as' : List α} {bs bs' : List β}, Paired R as bs → Paired R as' bs' → Paired R (as ++ as') (bs ++ bs')
  | _, _, _, _, .nil, h => h
  | _, _, _, _, .cons r t, h => .cons r (paired_app t h)
theorem paired_dfl {G : Gx} {σ : St} {F : Hp} {v : V} {d : D} (h : Da G.K F v d) : Paired (fun v s => EO G σ F v s) [v] [S.d d] := .cons h .nil
theorem de_callD {CX : CXT} {n k : Nat} {x : Str} {f : Addr} {fd : FuncData} {ps : List Str} {e : Expr} {es : List Expr} {g : Sm M (List S)} {c : List S → M.T → Rs S M.T} {p pos : Pos} {dv : V} {dd : D} {ds : List Value} (hdd : ∀ F, Da K F dv dd) (hds : Vals [dv] ds) (hF : ∀ j, FnG (X j).prog (X j).w (X j).K (X j).mg (X j).base CX k f fd ps (spM M K xr n c)) (hr : ∀ j, Room k (X j).A) (hgu : ∀ j, (X j).A.guards = some []) (hg : ∀ j, Gl (X j) x)
    (hm : ∀ j, (X j).mg x = some (.ref f)) (hk : ∀ j, PySem.W.keepIn (X j).K (.ref f) = true) (hb : ∀ j, Binds (X j).K fd ps ds) (hx : ∀ j σ, PassesAt CX (X j) σ (WE W σ)) (ha : DA M xr K X W (e :: es) g) (hn : ∀ z ss z1, g z = .ok ss z1 → ss.length + 1 = n)
    (hdb : (x == ("__debug__" : Str)) = false := by decide) (he : ∀ j, starEach (e :: es) (X j).env = (false, eval e (X j).env) :: starEach es (X j).env := by intro _; rfl) (hpl : ∀ j, (backTo pos (starEach es (X j).env)).any (·.1) = false := by intro _; rfl) :
    DE M xr K X W (.Call (.Name x p) (e :: es) [] pos) (eCall c (aDef [dd] g)) := by
  obtain ⟨t, pa, ca⟩ := ha
  have cd : Cmp M K xr W (fun σ H Q => t σ H fun ws H1 => Q (ws ++ [dv]) H1) RelA (aDef [dd] g) := by
    intro G σ H F z Q hK hx ok hh
    refine ca G σ H F z _ hK hx ok (hit_bind hh fun ss z1 vs H1 F1 eg sm ok1 ea h1 => ?_)
    exact h1 _ H1 F1 (Same.refl _) ok1 (paired_app ea (paired_dfl (by rw [hK]; exact hdd F1)))
  refine ⟨_, fun j => pe_callG (E := WE W) (hF j) (hr j) (hgu j) (hg j) (hm j) (hk j) (hb j) hds (hx j) (pa j) hdb (he j) (hpl j), cmp_call cd (fun z ss z1 h => ?_)⟩
  unfold aDef at h
  cases eg : g z with
  | ok a z2 =>
    rw [eg] at h
    cases h
    rw [List.length_append, ← hn z a _ eg]
    rfl
  | ex _ _ => rw [eg] at h; cases h
  | bad => rw [eg] at h; cases h
theorem de_call0 {CX : CXT} {k : Nat} {x : Str} {f : Addr} {fd : FuncData} {ps : List Str} {c : List S → M.T → Rs S M.T} {p pos : Pos} (hF : ∀ j, FnG (X j).prog (X j).w (X j).K (X j).mg (X j).base CX k f fd ps (spM M K xr 0 c)) (hr : ∀ j, Room k (X j).A) (hgu : ∀ j, (X j).A.guards = some []) (hg : ∀ j, Gl (X j) x)
    (hm : ∀ j, (X j).mg x = some (.ref f)) (hk : ∀ j, PySem.W.keepIn (X j).K (.ref f) = true) (hb : ∀ j, Binds (X j).K fd ps []) (hx : ∀ j σ, PassesAt CX (X j) σ (WE W σ))
    (hdb : (x == ("__debug__" : Str)) = false := by decide) :
    DE M xr K X W (.Call (.Name x p) [] [] pos) (eCall c aNil) := by
  refine ⟨tCallS (spM M K xr 0 c) (WE W) tNil, fun j => ?_, cmp_call (fun G σ H F z Q _ _ ok h => h [] H F (Same.refl _) ok .nil) (fun _ _ _ h => len_nil h)⟩
  exact pe_call0G (hF j) (hr j) (hgu j) (hg j) (hm j) (hk j) (hb j) .nil (hx j) hdb
end
/-! ### a def -/
def fnM {M : MI} (n : Nat) (b : Sm M Out) : List S → M.T → Rs S M.T := fun args t => match b { rho := args.map some ++ List.replicate (n - args.length) none, m := t } with
  | .ok (.rt s) z => .ok s z.m
  | .ok .nx z => .ok (.d .non) z.m
  | .ok _ _ => .bad
  | .ex x z => .ex x z.m
  | .bad => .bad
theorem paired_get {α β : Type} {R : α → β → Prop} : ∀ {as : List α} {bs : List β} {i : Nat} {b : β}, Paired R as bs → bs[i]? = some b → ∃ a, as[i]? = some a ∧ R a b
  | _, _, _, _, .nil, e => by simp at e
  | _, _, 0, _, .cons r _, e => by simp at e; subst e; exact ⟨_, rfl, r⟩
  | _, _, i + 1, _, .cons _ t, e => by
    obtain ⟨a, h1, h2⟩ := paired_get (i := i) t (by simpa using e)
    exact ⟨a, by simpa using h1, h2⟩
open Classical in
/-- what a call must leave as it is -/
noncomputable def prP (ms : List Addr) (H F : Hp) : Hp := fun b => if b ∈ ms ∨ ∃ ps, F b = some (.tbl ps) then none else H b
theorem prP_in {ms : List Addr} {H F : Hp} {b : Addr} (h : b ∈ ms ∨ ∃ ps, F b = some (.tbl ps)) : prP ms H F b = none := if_pos h
theorem prP_out {ms : List Addr} {H F : Hp} {b : Addr} (h : ¬ (b ∈ ms ∨ ∃ ps, F b = some (.tbl ps))) : prP ms H F b = H b := if_neg h
theorem prP_of {ms : List Addr} {H F : Hp} {b : Addr} {o : HO} (h : prP ms H F b = some o) : ¬ (b ∈ ms ∨ ∃ ps, F b = some (.tbl ps)) ∧ H b = some o := by
  by_cases q : b ∈ ms ∨ ∃ ps, F b = some (.tbl ps)
  · rw [prP_in q] at h; cases h
  · rw [prP_out q] at h; exact ⟨q, h⟩
theorem start_ok {M : MI} {K : PySem.W.Frag} {xr : Str → Option Value} {N : List Str} {vs : List V} {H F : Hp} {ms : List Addr} {args : List S} {t : M.T} (sub : SameX F H) (mach : M.ok K F H ms t) (msx : ∀ a ∈ ms, F a = none ∧ H a ≠ none) (tgx : ∀ a ps, F a = some (.tbl ps) → H a ≠ none) (hv : Paired (AV K F ms) vs args) :
    Ok M ⟨K, xr, ms, prP ms H F, F⟩ (L2.start N vs) H F { rho := args.map some ++ List.replicate (N.length - args.length) none, m := t } := by
  have hl : vs.length = args.length := hv.length
  have key : ∀ (i : Nat) (s : S), (args.map some ++ List.replicate (N.length - args.length) none)[i]? = some (some s) → args[i]? = some s := fun i s e => by
    by_cases h : i < args.length
    · rw [List.getElem?_append_left (by simpa using h), List.getElem?_map] at e
      cases q : args[i]? with
      | none => rw [q] at e; cases e
      | some s' => rw [q] at e; cases e; rfl
    · rw [List.getElem?_append_right (by simpa using h), List.getElem?_replicate] at e
      split at e
      · cases e
      · cases e
  refine ⟨sub, ?_, fun i s e => ?_, fun i j xs ys v e1 _ _ _ => ?_, mach, fun a ha => (msx a ha).1, fun a ha => prP_in (.inl ha), fun a ha => (msx a ha).2, fun b o q => ⟨(prP_of q).2, rfl⟩, fun a ps e => ⟨tgx a ps e, prP_in (.inr ⟨ps, e⟩)⟩⟩
  · unfold L2.start
    simp [hl]
  · obtain ⟨v, h1, h2⟩ := paired_get hv (key i s e)
    refine ⟨v, ?_, ?_⟩
    · unfold L2.start
      have hi : i < vs.length := (List.getElem?_eq_some_iff.mp h1).1
      rw [List.getElem?_append_left (by simpa using hi), List.getElem?_map, h1]
      rfl
    · cases s with
      | d x => exact h2
      | l xs => exact h2.elim
      | v _ => exact h2.elim
      | m j => exact h2
  · obtain ⟨v, h1, h2⟩ := paired_get hv (key i _ e1)
    exact h2.elim
theorem fr_out {M : MI} {K : PySem.W.Frag} {xr : Str → Option Value} {ms : List Addr} {H F H' F' : Hp} (h : ∀ b o, (⟨K, xr, ms, prP ms H F, F⟩ : Gx).P b = some o → H' b = some o ∧ F' b = F b) : ∀ b o, H b = some o → b ∉ ms → (∀ ps, F b ≠ some (.tbl ps)) → H' b = some o ∧ F' b = F b := fun b o q n n2 => h b o (by show prP ms H F b = some o; rw [prP_out (fun e => e.elim n fun ⟨ps, e⟩ => n2 ps e)]; exact q)
theorem tg_out {M : MI} {K : PySem.W.Frag} {xr : Str → Option Value} {ms : List Addr} {H F H' F' : Hp} (sm : Same F F') (msx : ∀ a ∈ ms, F' a = none) (h : ∀ a ps, F' a = some (.tbl ps) → H' a ≠ none ∧ (⟨K, xr, ms, prP ms H F, F⟩ : Gx).P a = none) : ∀ a ps, F' a = some (.tbl ps) → H' a ≠ none ∧ (F a = some (.tbl ps) ∨ H a = none) := fun a ps e => by
  obtain ⟨h1, h2⟩ := h a ps e
  refine ⟨h1, ?_⟩
  have h2' : prP ms H F a = none := h2
  by_cases q : a ∈ ms ∨ ∃ ps, F a = some (.tbl ps)
  · rcases q with q | ⟨ps', q⟩
    · rw [msx a q] at e; cases e
    · have := sm a _ q
      rw [e] at this
      cases this
      exact .inl q
  · rw [prP_out q] at h2'
    exact .inr h2'
/-- .. where its code object is known: its body's mirror is its promise -/
theorem okMC {M : MI} {P : Program} {w : World} {K : PySem.W.Frag} {mg : Str → Option Value} {base : Heap} {xr : Str → Option Value} {x qual : Str} {st : Stmt} {f : Addr} {fd : FuncData} {dvs : List V} {N ps : List Str} {k : Nat} {b : Sm M Out} (Fn : FunD K x qual (defArgs st) (defBody st) (defScope st) dvs [] f fd) (Sc : FnScope N ps (defScope st))
    (hb : ∀ (cdv : Value), fd.code = cdv → ∀ (A : Around) (outer : List Env) (s : Shared) (H : Hp) (E : XK), Room k (A.deeper (PyProof.Rows.envOfC qual (defScope st) s.heap.objs.size f cdv)) → A.guards = some [] →
      DSs M xr K (fun _ : Unit => cxOf (L2.CX P w) P w K mg base N qual (defScope st) f cdv A outer s H E) (fun cls d _ H => E cls d H) (defBody st) b) :
    FnG P w K mg base (L2.CX P w) (k + 1) f fd ps (spM M K xr ps.length (fnM N.length b)) := by
  obtain ⟨oc, od, dV, kV, doc, pm, an, cdv, ct, osl, rfl, lk, hcd, _, _⟩ := Fn.ex
  refine fnG lk hcd Sc (fun vs H Q E h => h.1) (fun A outer s H vs Q E hr hgu h => ?_)
  obtain ⟨hl, ms, F, args, t, sub, mach, msx, tgx, hv, h⟩ := h
  obtain ⟨tb, p, c⟩   := hb cdv rfl A outer s H E hr hgu
  refine ⟨tb, p (), ?_⟩
  have ok := start_ok (xr := xr) (N := N) sub mach msx tgx hv
  refine c _ _ H F _ _ rfl rfl ok ?_
  unfold fnM at h
  cases e : b { rho := args.map some ++ List.replicate (N.length - args.length) none, m := t } with
  | bad => rw [e] at h; exact h
  | ex x z =>
    rw [e] at h
    exact fun cls d σ H' F' s' ok' xo => h cls d H' F' s' ⟨ok'.sub, ok'.mach, fun a ha => ⟨ok'.msF a ha, ok'.msH a ha⟩, fr_out (M := M) ok'.fr, tg_out (M := M) s' ok'.msF ok'.tg⟩ xo
  | ok o z =>
    rw [e] at h
    cases o with
    | bk => exact h.elim
    | ct => exact h.elim
    | nx => exact fun σ H' F' s' ok' => h .non H' F' s' ⟨ok'.sub, ok'.mach, fun a ha => ⟨ok'.msF a ha, ok'.msH a ha⟩, fr_out (M := M) ok'.fr, tg_out (M := M) s' ok'.msF ok'.tg⟩ Da.non
    | rt q =>
      intro v H' F' s' r
      refine h v H' F' s' ⟨r.sub, r.mach, fun a ha => ⟨r.msF a ha, r.msH a ha⟩, fr_out (M := M) r.fr, tg_out (M := M) s' r.msF r.tg⟩ ?_
      have val := r.val
      cases q with
      | d x => exact val
      | m j => exact val
      | v _ => exact val.elim
      | l xs =>
        obtain ⟨a, vs', rfl, q1, q2, q3, q4, q5⟩ := val
        have q4' : prP ms H F a = none := q4
        have q5' : a ∉ ms := q5
        rw [prP_out (fun e => e.elim q5' fun ⟨ps, e⟩ => by have := s' a _ e; rw [q3] at this; cases this)] at q4'
        exact ⟨a, vs', rfl, q1, q2, q3, q4', q5'⟩
/-- THE RULE for a def: its body's mirror is its promise -/
theorem okM {M : MI} {P : Program} {w : World} {K : PySem.W.Frag} {mg : Str → Option Value} {base : Heap} {xr : Str → Option Value} {x qual : Str} {st : Stmt} {f : Addr} {fd : FuncData} {dvs : List V} {N ps : List Str} {k : Nat} {b : Sm M Out} (Fn : FunD K x qual (defArgs st) (defBody st) (defScope st) dvs [] f fd) (Sc : FnScope N ps (defScope st))
    (hb : ∀ (cdv : Value) (A : Around) (outer : List Env) (s : Shared) (H : Hp) (E : XK), Room k (A.deeper (PyProof.Rows.envOfC qual (defScope st) s.heap.objs.size f cdv)) → A.guards = some [] →
      DSs M xr K (fun _ : Unit => cxOf (L2.CX P w) P w K mg base N qual (defScope st) f cdv A outer s H E) (fun cls d _ H => E cls d H) (defBody st) b) :
    FnG P w K mg base (L2.CX P w) (k + 1) f fd ps (spM M K xr ps.length (fnM N.length b)) := okMC Fn Sc fun cdv _ => hb cdv
end G
namespace G
open PySem L2
/-! ### what is read -/
section
variable {K : PySem.W.Frag} {F H : Hp} {v : V}
theorem Rv.da {x : D} (h : Rv K F H v x) (hn : ∀ xs, x ≠ .lst xs) : Da K F v x := by
  rcases h with h | ⟨a, vs, xs, _, e, _⟩
  · exact h
  · exact (hn xs e).elim
theorem Rv.int {i : Int} (h : Rv K F H v (.int i)) : v = .int i := by cases h.da (fun _ e => by cases e); rfl
theorem Rv.str {i : Str} (h : Rv K F H v (.str i)) : v = .str i := by cases h.da (fun _ e => by cases e); rfl
theorem Rv.bl {i : Bool} (h : Rv K F H v (.bl i)) : v = .bl i := by cases h.da (fun _ e => by cases e); rfl
theorem Rv.non (h : Rv K F H v .non) : v = .non := by cases h.da (fun _ e => by cases e); rfl
theorem Rv.tup (s : SameX F H) {xs : List D} (h : Rv K F H v (.tup xs)) : ∃ a vs, v = .ref a ∧ SqT K H a vs ∧ DaAll K F vs xs := by
  cases h.da (fun _ e => by cases e) with
  | tup q r => exact ⟨_, _, rfl, s.tup q, r⟩
theorem Rv.scr (s : SameX F H) {ns : List Int} (h : Rv K F H v (.scr ns)) : ∃ a, v = .ref a ∧ SqL K H a (ns.map V.int) := by
  cases h.da (fun _ e => by cases e) with
  | scr q => exact ⟨_, rfl, s.seq q⟩
theorem Rv.emp (s : SameX F H) (h : Rv K F H v .emp) : ∃ a, v = .ref a ∧ H a = some (.dK []) := by
  cases h.da (fun _ e => by cases e) with
  | emp q => exact ⟨_, rfl, s.emp q⟩
end
/-! ### ints -/
def dI (C : Int → Int → Bool) (g : Int → Int → D) : D → D → Option R := fun a b => match a, b with
  | .int i, .int j => if C i j = true then some (.d (g i j)) else none
  | _, _ => none
theorem op2_I {K : PySem.W.Frag} {Cp : Int → Int → Prop} {C : Int → Int → Bool} {g : Int → Int → V} {g' : Int → Int → D} (hC : ∀ i j, C i j = true → Cp i j) (hg : ∀ F i j, Da K F (g i j) (g' i j)) : Op2 K (rI Cp g) (dI C g') := by
  intro F H x y a b Q s ha hb h
  cases a with
  | int i =>
    cases b with
    | int j =>
      unfold dI at h
      by_cases hc : C i j = true
      · simp only [if_pos hc] at h
        exact ⟨i, j, ha.int, hb.int, hC i j hc, h _ (hg F i j)⟩
      · simp only [if_neg hc] at h
        exact h.elim
    | _ => exact h.elim
  | _ => exact h.elim
theorem op2_I0 {K : PySem.W.Frag} {g : Int → Int → V} {g' : Int → Int → D} (hg : ∀ F i j, Da K F (g i j) (g' i j)) : Op2 K (rI0 g) (dI (fun _ _ => true) g') := by
  intro F H x y a b Q s ha hb h
  cases a with
  | int i =>
    cases b with
    | int j => exact ⟨i, j, ha.int, hb.int, h _ (hg F i j)⟩
    | _ => exact h.elim
  | _ => exact h.elim
def dSub := dI (fun _ _ => true) fun i j => .int (i - j)
def dMul := dI (fun i j => decide ((-(2 ^ 64) < i ∧ i < 2 ^ 64) ∨ (-(2 ^ 64) < j ∧ j < 2 ^ 64))) fun i j => .int (i * j)
def dFdiv := dI (fun _ j => decide (0 < j ∧ j < 1073741824)) fun i j => .int (i / j)
def dMod := dI (fun _ j => decide (0 < j)) fun i j => .int (i % j)
def dPow := dI (fun i j => decide (0 ≤ j ∧ j ≤ 1000000 ∧ i.natAbs < 2 ^ 64)) fun i j => .int (i ^ j.toNat)
def dShl := dI (fun i j => decide (0 ≤ j ∧ j ≤ 1000000 ∧ i.natAbs < 2 ^ 64)) fun i j => .int (i * 2 ^ j.toNat)
def dShr := dI (fun _ j => decide (0 ≤ j)) fun i j => .int (i / 2 ^ j.toNat)
def dLt := dI (fun _ _ => true) fun i j => .bl (decide (i < j))
def dLe := dI (fun _ _ => true) fun i j => .bl (decide (i ≤ j))
def dGt := dI (fun _ _ => true) fun i j => .bl (decide (j < i))
def dGe := dI (fun _ _ => true) fun i j => .bl (decide (j ≤ i))
def dNeg : D → Option R := fun a => match a with
  | .int i => some (.d (.int (-i)))
  | _ => none
/-! ### + -/
def dAdd : D → D → Option R := fun a b => match a, b with
  | .int i, .int j => some (.d (.int (i + j)))
  | .str x, .str y => if x.length + y.length ≤ lim then some (.d (.str (x ++ y))) else none
  | .lst xs, .lst ys => if xs.length + ys.length ≤ lim then some (.l (xs ++ ys)) else none
  | .tup xs, .tup ys => if xs.length + ys.length ≤ lim then some (.t (xs ++ ys)) else none
  | _, _ => none
theorem limLe {n : Nat} (h : n ≤ lim) : n ≤ sizeLine := Nat.le_trans h (Nat.le_of_lt lim_line)
def rAddAll (K : PySem.W.Frag) : R2 := fun x y H Q => (rI0 fun i j => .int (i + j)) x y H Q ∨ (∃ i j, x = .str i ∧ y = .str j ∧ i.length + j.length ≤ sizeLine ∧ Q (.str (i ++ j)) H) ∨ rCat x y H Q ∨ rCatA K x y H Q
theorem opAdd {X : Cx} : OpR X (binaryOp .Add) (rAddAll X.K) := op_add.or (op_add_str.or (op_cat.or op_catA))
theorem op2_add {K : PySem.W.Frag} : Op2 K (rAddAll K) dAdd := by
  intro F H x y a b Q s ha hb h
  unfold dAdd at h
  split at h
  · exact .inl ⟨_, _, ha.int, hb.int, h _ (.int _)⟩
  · rename_i i j
    by_cases hl : i.length + j.length ≤ lim
    · rw [if_pos hl] at h
      exact .inr (.inl ⟨_, _, ha.str, hb.str, limLe hl, h _ (.str _)⟩)
    · rw [if_neg hl] at h; exact h.elim
  · rename_i xs ys
    by_cases hl : xs.length + ys.length ≤ lim
    · rw [if_pos hl] at h
      obtain ⟨a, vs, rfl, h1, h2⟩ := ha.lst s
      obtain ⟨b, ws, rfl, h3, h4⟩ := hb.lst s
      exact .inr (.inr (.inl ⟨a, b, vs, ws, rfl, rfl, h1, h3, by rw [h2.length, h4.length]; exact limLe hl, fun p hp => h p _ hp (h2.append h4)⟩))
    · rw [if_neg hl] at h; exact h.elim
  · rename_i xs ys
    by_cases hl : xs.length + ys.length ≤ lim
    · rw [if_pos hl] at h
      obtain ⟨a, vs, rfl, h1, h2⟩ := ha.tup s
      obtain ⟨b, ws, rfl, h3, h4⟩ := hb.tup s
      refine .inr (.inr (.inr ⟨a, b, vs, ws, rfl, rfl, h1, h3, by rw [h2.length, h4.length]; exact limLe hl, fun e => ?_, fun _ e => ?_, fun _ _ p hp => h.2 p _ hp (h2.append h4)⟩))
      · subst e
        cases h2
        exact h.1 _ (hb.da (fun _ e => by cases e))
      · subst e
        cases h4
        rw [List.append_nil] at h
        exact h.1 _ (ha.da (fun _ e => by cases e))
    · rw [if_neg hl] at h; exact h.elim
  · exact h.elim
/-! ### ==, != -/
mutual
def toPy : D → PyData
  | .non => .none
  | .bl b => .bool b
  | .int i => .int i
  | .str x => .str x
  | .tup xs => .tuple (toPys xs)
  | .lst xs => .list (toPys xs)
  | .scr ns => .list (ns.map PyData.int)
  | .emp => .str ⟨#[4294967295]⟩
  | .exc _ _ => .str ⟨#[4294967295]⟩
  | .o _ => .str ⟨#[4294967295]⟩
def toPys : List D → List PyData
  | [] => []
  | x :: r => toPy x :: toPys r
end
theorem dp_ints {K : PySem.W.Frag} {H : Hp} : ∀ ns : List Int, DpAll K H (ns.map V.int) (ns.map PyData.int)
  | [] => .nil
  | n :: r => .cons (.int n) (dp_ints r)
mutual
def lay : D → Bool
  | .str x => PyData.strOk x
  | .tup xs => lays xs
  | .lst xs => lays xs
  | .emp => false
  | .exc _ _ => false
  | .o _ => false
  | _ => true
def lays : List D → Bool
  | [] => true
  | x :: r => lay x && lays r
end
mutual
theorem Da.dp {K : PySem.W.Frag} {F H : Hp} (s : SameX F H) : ∀ {v : V} {d : D}, Da K F v d → lay d = true → Dp K H v (toPy d)
  | _, _, .non, _ => .non
  | _, _, .bl b, _ => .bl b
  | _, _, .int i, _ => .int i
  | _, _, .str x, _ => .str x
  | _, _, .tup q r, l => .tup (s.tup q) (DaAll.dp s r (by rwa [lay] at l))
  | _, _, .lst q r, l => .lst (SqL.of (s.lst q)) (DaAll.dp s r (by rwa [lay] at l))
  | _, _, .scr q, _ => .lst (s.seq q) (dp_ints _)
  | _, _, .emp q, l => by rw [lay] at l; cases l
  | _, _, .exc _ _, l => by rw [lay] at l; cases l
  | _, _, .o _, l => by rw [lay] at l; cases l
theorem DaAll.dp {K : PySem.W.Frag} {F H : Hp} (s : SameX F H) : ∀ {vs : List V} {ds : List D}, DaAll K F vs ds → lays ds = true → DpAll K H vs (toPys ds)
  | _, _, .nil, _ => .nil
  | _, _, .cons a b, l => by
    rw [lays, Bool.and_eq_true] at l
    exact .cons (Da.dp s a l.1) (DaAll.dp s b l.2)
end
theorem Rv.dp {K : PySem.W.Frag} {F H : Hp} (s : SameX F H) {v : V} {d : D} (h : Rv K F H v d) (l : lay d = true) : Dp K H v (toPy d) := by
  rcases h with h | ⟨a, vs, xs, rfl, rfl, h1, h2⟩
  · exact h.dp s l
  · exact .lst (SqL.of h1) (h2.dp s (by rwa [lay] at l))
mutual
def dep : D → Nat
  | .tup xs => deps xs + 1
  | .lst xs => deps xs + 1
  | .scr _ => 1
  | _ => 0
def deps : List D → Nat
  | [] => 0
  | x :: r => max (dep x) (deps r)
end
theorem lay_ints : ∀ ns : List Int, PyData.canLayAll0 (ns.map PyData.int) = true
  | [] => rfl
  | n :: r => by rw [List.map_cons, PyData.canLayAll0, lay_ints r, PyData.canLay0]; rfl
theorem dep_ints : ∀ ns : List Int, PyData.depthAll (ns.map PyData.int) = 0
  | [] => rfl
  | n :: r => by rw [List.map_cons, PyData.depthAll, dep_ints r, PyData.depth]; rfl
mutual
theorem canLay_toPy : ∀ d : D, (toPy d).canLay0 = lay d
  | .non => by simp [toPy, lay, PyData.canLay0]
  | .bl _ => by simp [toPy, lay, PyData.canLay0]
  | .int _ => by simp [toPy, lay, PyData.canLay0]
  | .str _ => by simp [toPy, lay, PyData.canLay0]
  | .tup xs => by rw [toPy, lay, PyData.canLay0, canLays_toPy xs]
  | .lst xs => by rw [toPy, lay, PyData.canLay0, canLays_toPy xs]
  | .scr ns => by rw [toPy, lay, PyData.canLay0, lay_ints]; all_goals (intros; simp_all)
  | .emp => by rw [toPy, lay, PyData.canLay0]; decide +kernel
  | .exc _ _ => by rw [toPy, lay, PyData.canLay0]; decide +kernel
  | .o _ => by rw [toPy, lay, PyData.canLay0]; decide +kernel
theorem canLays_toPy : ∀ ds : List D, PyData.canLayAll0 (toPys ds) = lays ds
  | [] => by simp [toPys, lays, PyData.canLayAll0]
  | d :: r => by rw [toPys, lays, PyData.canLayAll0, canLay_toPy d, canLays_toPy r]
end
mutual
theorem depth_toPy : ∀ d : D, (toPy d).depth = dep d
  | .non => by simp [toPy, dep, PyData.depth]
  | .bl _ => by simp [toPy, dep, PyData.depth]
  | .int _ => by simp [toPy, dep, PyData.depth]
  | .str _ => by simp [toPy, dep, PyData.depth]
  | .tup xs => by rw [toPy, dep, PyData.depth, depths_toPy xs]
  | .lst xs => by rw [toPy, dep, PyData.depth, depths_toPy xs]
  | .scr ns => by rw [toPy, dep, PyData.depth, dep_ints]
  | .emp => by simp [toPy, dep, PyData.depth]
  | .exc _ _ => by simp [toPy, dep, PyData.depth]
  | .o _ => by simp [toPy, dep, PyData.depth]
theorem depths_toPy : ∀ ds : List D, PyData.depthAll (toPys ds) = deps ds
  | [] => by simp [toPys, deps, PyData.depthAll]
  | d :: r => by rw [toPys, deps, PyData.depthAll, depth_toPy d, depths_toPy r]
end
def eqD (a b : D) : Bool := PyData.eqv (toPy a) (toPy b)
def eqOk (a b : D) : Bool := lay a && (lay b && decide (min (dep a) (dep b) ≤ 300))
def dEq : D → D → Option R := fun a b => if eqOk a b = true then some (.d (.bl (eqD a b))) else none
def dNe : D → D → Option R := fun a b => if eqOk a b = true then some (.d (.bl (!eqD a b))) else none
def rEqW (K : PySem.W.Frag) : R2 := fun x y H Q => ∃ d e, Dp K H x d ∧ Dp K H y e ∧ d.canLay0 = true ∧ e.canLay0 = true ∧ min d.depth e.depth ≤ 300 ∧ Q (.bl (PyData.eqv d e)) H
def rNeW (K : PySem.W.Frag) : R2 := fun x y H Q => ∃ d e, Dp K H x d ∧ Dp K H y e ∧ d.canLay0 = true ∧ e.canLay0 = true ∧ min d.depth e.depth ≤ 300 ∧ Q (.bl (!PyData.eqv d e)) H
theorem op_eqW {X : Cx} (hu : X.A.units + 300 < cLine) : OpR X (compareOp .Eq) (rEqW X.K) := by
  intro pins s σ H x y v u Q I rx ry h
  obtain ⟨d, e, hd, he, sd, se, hm, q⟩ := h
  obtain ⟨as, r1⟩ := Dp.reads I d x v hd rx
  obtain ⟨bs, r2⟩ := Dp.reads I e y u he ry
  exact SeqAt.compareEq_reads r1 r2 sd se (by omega) ⟨.bl _, H, I, rfl, q⟩
theorem op_neW {X : Cx} (hu : X.A.units + 300 < cLine) : OpR X (compareOp .NotEq) (rNeW X.K) := by
  intro pins s σ H x y v u Q I rx ry h
  obtain ⟨d, e, hd, he, sd, se, hm, q⟩ := h
  obtain ⟨as, r1⟩ := Dp.reads I d x v hd rx
  obtain ⟨bs, r2⟩ := Dp.reads I e y u he ry
  exact SeqAt.compareNe_reads r1 r2 sd se (by omega) ⟨.bl _, H, I, rfl, q⟩
theorem eqOk_of {a b : D} (h : eqOk a b = true) : (toPy a).canLay0 = true ∧ (toPy b).canLay0 = true ∧ min (toPy a).depth (toPy b).depth ≤ 300 := by
  unfold eqOk at h
  rw [Bool.and_eq_true, Bool.and_eq_true] at h
  rw [canLay_toPy, canLay_toPy, depth_toPy, depth_toPy]
  exact ⟨h.1, h.2.1, of_decide_eq_true h.2.2⟩
theorem op2_eq {K : PySem.W.Frag} : Op2 K (rEqW K) dEq := by
  intro F H x y a b Q s ha hb h
  unfold dEq at h
  by_cases hs : eqOk a b = true
  · rw [if_pos hs] at h
    obtain ⟨q1, q2, q3⟩ := eqOk_of hs
    exact ⟨_, _, ha.dp s (by rw [← canLay_toPy]; exact q1), hb.dp s (by rw [← canLay_toPy]; exact q2), q1, q2, q3, h _ (.bl _)⟩
  · rw [if_neg hs] at h; exact h.elim
theorem op2_ne {K : PySem.W.Frag} : Op2 K (rNeW K) dNe := by
  intro F H x y a b Q s ha hb h
  unfold dNe at h
  by_cases hs : eqOk a b = true
  · rw [if_pos hs] at h
    obtain ⟨q1, q2, q3⟩ := eqOk_of hs
    exact ⟨_, _, ha.dp s (by rw [← canLay_toPy]; exact q1), hb.dp s (by rw [← canLay_toPy]; exact q2), q1, q2, q3, h _ (.bl _)⟩
  · rw [if_neg hs] at h; exact h.elim
/-! ### is -/
def dIs : D → D → Option R := fun a b => match a, b with
  | .non, .non => some (.d (.bl true))
  | _, .non => some (.d (.bl false))
  | .bl x, .bl y => some (.d (.bl (decide (x = y))))
  | _, _ => none
def dIsNot : D → D → Option R := fun a b => match a, b with
  | .non, .non => some (.d (.bl false))
  | _, .non => some (.d (.bl true))
  | .bl x, .bl y => some (.d (.bl (!decide (x = y))))
  | _, _ => none
def rIsAll : R2 := fun x y H Q => (y = .non ∧ Q (.bl (decide (x = .non))) H) ∨ (∃ a b, x = .bl a ∧ y = .bl b ∧ Q (.bl (decide (a = b))) H)
def rIsNotAll : R2 := fun x y H Q => (y = .non ∧ Q (.bl (!decide (x = .non))) H) ∨ (∃ a b, x = .bl a ∧ y = .bl b ∧ Q (.bl (!decide (a = b))) H)
theorem opIs {X : Cx} : OpR X (compareOp .Is) rIsAll := op_isN.or op_is_bl
theorem opIsNot {X : Cx} : OpR X (compareOp .IsNot) rIsNotAll := op_notN.or op_isnot_bl
theorem Rv.notNon {K : PySem.W.Frag} {F H : Hp} {v : V} {d : D} (h : Rv K F H v d) (hd : d ≠ .non) : v ≠ .non := by
  rcases h with h | ⟨a, vs, xs, rfl, _, _, _⟩
  · cases h with
    | non => exact (hd rfl).elim
    | bl _ => intro e; cases e
    | int _ => intro e; cases e
    | str _ => intro e; cases e
    | tup _ _ => intro e; cases e
    | lst _ _ => intro e; cases e
    | scr _ => intro e; cases e
    | emp _ => intro e; cases e
    | exc _ _ => intro e; cases e
    | o _ => intro e; cases e
  · intro e; cases e
theorem op2_is {K : PySem.W.Frag} : Op2 K rIsAll dIs := by
  intro F H x y a b Q s ha hb h
  unfold dIs at h
  split at h
  · refine .inl ⟨hb.non, ?_⟩
    rw [ha.non]
    exact h _ (.bl true)
  · rename_i hn
    refine .inl ⟨hb.non, ?_⟩
    rw [decide_eq_false (ha.notNon hn)]
    exact h _ (.bl false)
  · exact .inr ⟨_, _, ha.bl, hb.bl, h _ (.bl _)⟩
  · exact h.elim
theorem op2_isNot {K : PySem.W.Frag} : Op2 K rIsNotAll dIsNot := by
  intro F H x y a b Q s ha hb h
  unfold dIsNot at h
  split at h
  · refine .inl ⟨hb.non, ?_⟩
    rw [ha.non]
    exact h _ (.bl false)
  · rename_i hn
    refine .inl ⟨hb.non, ?_⟩
    rw [decide_eq_false (ha.notNon hn)]
    exact h _ (.bl true)
  · exact .inr ⟨_, _, ha.bl, hb.bl, h _ (.bl _)⟩
  · exact h.elim
/-! ### in, not in -/
def flatD : D → Bool
  | .non => true
  | .bl _ => true
  | .int _ => true
  | .str _ => true
  | _ => false
def eqF : D → D → Bool
  | .non, .non => true
  | .bl a, .bl b => a == b
  | .bl a, .int b => (if a then 1 else 0) == b
  | .int a, .bl b => a == (if b then 1 else 0)
  | .int a, .int b => a == b
  | .str a, .str b => a == b
  | _, _ => false
def inD (x : D) (xs : List D) : Bool := xs.any fun y => eqF y x
def dInB : D → D → Option Bool := fun a b => match b with
  | .tup xs => if flatD a = true ∧ xs.all flatD = true then some (inD a xs) else none
  | .lst xs => if flatD a = true ∧ xs.all flatD = true then some (inD a xs) else none
  | .str z => (match a with
    | .str c => if c.cps.size = 1 then some (decide (c.cps.getD 0 0 ∈ z.cps.toList)) else none
    | _ => none)
  | _ => none
def dIn : D → D → Option R := fun a b => (dInB a b).map fun k => .d (.bl k)
def dNotIn : D → D → Option R := fun a b => (dInB a b).map fun k => .d (.bl (!k))
theorem da_flat {K : PySem.W.Frag} {F : Hp} {v : V} {d : D} (h : Da K F v d) (hf : flatD d = true) : flatV v = true := by
  cases h with
  | non => rfl
  | bl _ => rfl
  | int _ => rfl
  | str _ => rfl
  | tup _ _ => cases hf
  | lst _ _ => cases hf
  | scr _ => cases hf
  | emp _ => cases hf
  | exc _ _ => cases hf
  | o _ => cases hf
theorem da_eqF {K : PySem.W.Frag} {F : Hp} {v u : V} {d e : D} (h : Da K F v d) (h' : Da K F u e) (hf : flatD d = true) (hf' : flatD e = true) : eqV v u = eqF d e := by
  cases h with
  | non => cases h' <;> first | rfl | cases hf'
  | bl _ => cases h' <;> first | rfl | cases hf'
  | int _ => cases h' <;> first | rfl | cases hf'
  | str _ => cases h' <;> first | rfl | cases hf'
  | tup _ _ => cases hf
  | lst _ _ => cases hf
  | scr _ => cases hf
  | emp _ => cases hf
  | exc _ _ => cases hf
  | o _ => cases hf
theorem daAll_flat {K : PySem.W.Frag} {F : Hp} : ∀ {vs : List V} {ds : List D}, DaAll K F vs ds → ds.all flatD = true → vs.all flatV = true
  | _, _, .nil, _ => rfl
  | _, _, .cons a b, h => by
    rw [List.all_cons, Bool.and_eq_true] at h
    rw [List.all_cons, da_flat a h.1, daAll_flat b h.2]
    rfl
theorem daAll_in {K : PySem.W.Frag} {F : Hp} {x : V} {d : D} (hx : Da K F x d) (hf : flatD d = true) : ∀ {vs : List V} {ds : List D}, DaAll K F vs ds → ds.all flatD = true → inV x vs = inD d ds
  | _, _, .nil, _ => rfl
  | _, _, .cons a b, h => by
    rw [List.all_cons, Bool.and_eq_true] at h
    have ih := daAll_in hx hf b h.2
    unfold inV inD at ih ⊢
    rw [List.any_cons, List.any_cons, ih, da_eqF a hx h.1 hf]
theorem Rv.flat {K : PySem.W.Frag} {F H : Hp} {v : V} {d : D} (h : Rv K F H v d) (hf : flatD d = true) : Da K F v d := h.da (fun _ e => by rw [e] at hf; cases hf)
def rInAll (K : PySem.W.Frag) : R2 := fun x y H Q => rIn K false x y H Q ∨ ∃ (c : Nat) (z : Str), x = .str ⟨#[c]⟩ ∧ y = .str z ∧ Q (.bl (decide (c ∈ z.cps.toList))) H
def rNotInAll (K : PySem.W.Frag) : R2 := fun x y H Q => rIn K true x y H Q ∨ ∃ (c : Nat) (z : Str), x = .str ⟨#[c]⟩ ∧ y = .str z ∧ Q (.bl (!decide (c ∈ z.cps.toList))) H
theorem opIn {X : Cx} : OpR X (compareOp .In) (rInAll X.K) := op_in_seq.or op_in_sign
theorem opNotIn {X : Cx} : OpR X (compareOp .NotIn) (rNotInAll X.K) := op_notIn_seq.or op_notIn_sign
theorem one_sign {c : Str} (h : c.cps.size = 1) : c = ⟨#[c.cps.getD 0 0]⟩ := by
  obtain ⟨⟨l⟩⟩ := c
  match l, h with
  | [x], _ => rfl
theorem in_all {K : PySem.W.Frag} {neg : Bool} {F H : Hp} {x y : V} {a b : D} {Q : VK} {k : Bool} (s : SameX F H) (ha : Rv K F H x a) (hb : Rv K F H y b) (e : dInB a b = some k) (h : ∀ u, Da K F u (.bl (if neg then !k else k)) → Q u H) :
    rIn K neg x y H Q ∨ ∃ (c : Nat) (z : Str), x = .str ⟨#[c]⟩ ∧ y = .str z ∧ Q (.bl (if neg then !decide (c ∈ z.cps.toList) else decide (c ∈ z.cps.toList))) H := by
  unfold dInB at e
  split at e
  · rename_i xs
    by_cases hc : flatD a = true ∧ xs.all flatD = true
    · rw [if_pos hc] at e
      cases e
      obtain ⟨p, vs, rfl, h1, h2⟩ := hb.tup s
      have da := ha.flat hc.1
      refine .inl ⟨p, vs, rfl, .inr h1, da_flat da hc.1, daAll_flat h2 hc.2, ?_⟩
      rw [daAll_in da hc.1 h2 hc.2]
      exact h _ (.bl _)
    · rw [if_neg hc] at e; cases e
  · rename_i xs
    by_cases hc : flatD a = true ∧ xs.all flatD = true
    · rw [if_pos hc] at e
      cases e
      obtain ⟨p, vs, rfl, h1, h2⟩ := hb.lst s
      have da := ha.flat hc.1
      refine .inl ⟨p, vs, rfl, .inl (SqL.of h1), da_flat da hc.1, daAll_flat h2 hc.2, ?_⟩
      rw [daAll_in da hc.1 h2 hc.2]
      exact h _ (.bl _)
    · rw [if_neg hc] at e; cases e
  · rename_i z
    split at e
    · rename_i c
      by_cases hc : c.cps.size = 1
      · rw [if_pos hc] at e
        cases e
        refine .inr ⟨c.cps.getD 0 0, z, ?_, hb.str, h _ (.bl _)⟩
        rw [← one_sign hc]
        exact ha.str
      · rw [if_neg hc] at e; cases e
    · cases e
  · cases e
theorem op2_in {K : PySem.W.Frag} : Op2 K (rInAll K) dIn := by
  intro F H x y a b Q s ha hb h
  unfold dIn at h
  cases e : dInB a b with
  | none => rw [e] at h; exact h.elim
  | some k =>
    rw [e] at h
    exact in_all (neg := false) s ha hb e h
theorem op2_notIn {K : PySem.W.Frag} : Op2 K (rNotInAll K) dNotIn := by
  intro F H x y a b Q s ha hb h
  unfold dNotIn at h
  cases e : dInB a b with
  | none => rw [e] at h; exact h.elim
  | some k =>
    rw [e] at h
    exact in_all (neg := true) s ha hb e h
/-! ### subscripts, slices -/
theorem atI_da {K : PySem.W.Frag} {F : Hp} {vs : List V} {ds : List D} {i : Int} {d : D} (h : DaAll K F vs ds) (e : atI ds i = some d) : ∃ v, atI vs i = some v ∧ Da K F v d := by
  unfold atI at e ⊢
  rw [h.length]
  cases q : ixN ds.length i with
  | none => rw [q] at e; cases e
  | some j =>
    rw [q] at e
    exact h.get e
def dIx : D → D → Option R := fun a b => match a, b with
  | .tup xs, .int i => (atI xs i).map .d
  | .lst xs, .int i => (atI xs i).map .d
  | .scr ns, .int i => (atI ns i).map fun n => .d (.int n)
  | .str z, .int i => if z.length ≤ lim then (atI z.cps.toList i).map fun c => .d (.str ⟨#[c]⟩) else none
  | _, _ => none
theorem atI_map {α β : Type} (f : α → β) (xs : List α) (i : Int) : atI (xs.map f) i = (atI xs i).map f := by
  unfold atI
  rw [List.length_map]
  cases ixN xs.length i with
  | none => rfl
  | some j => exact List.getElem?_map
theorem op2_ix {K : PySem.W.Frag} : Op2 K (rIx K) dIx := by
  intro F H x y a b Q s ha hb h
  unfold dIx at h
  split at h
  · rename_i xs i
    cases e : atI xs i with
    | none => rw [e] at h; exact h.elim
    | some d =>
      rw [e] at h
      obtain ⟨p, vs, rfl, h1, h2⟩ := ha.tup s
      obtain ⟨v, h3, h4⟩ := atI_da h2 e
      exact .inr (.inl ⟨p, vs, i, v, rfl, hb.int, h1, h3, h _ h4⟩)
  · rename_i xs i
    cases e : atI xs i with
    | none => rw [e] at h; exact h.elim
    | some d =>
      rw [e] at h
      obtain ⟨p, vs, rfl, h1, h2⟩ := ha.lst s
      obtain ⟨v, h3, h4⟩ := atI_da h2 e
      exact .inl ⟨p, vs, i, v, rfl, hb.int, SqL.of h1, h3, h _ h4⟩
  · rename_i ns i
    cases e : atI ns i with
    | none => rw [e] at h; exact h.elim
    | some n =>
      rw [e] at h
      obtain ⟨p, rfl, h1⟩ := ha.scr s
      exact .inl ⟨p, _, i, .int n, rfl, hb.int, h1, by rw [atI_map, e]; rfl, h _ (.int n)⟩
  · rename_i z i
    by_cases hl : z.length ≤ lim
    · rw [if_pos hl] at h
      cases e : atI z.cps.toList i with
      | none => rw [e] at h; exact h.elim
      | some c =>
        rw [e] at h
        exact .inr (.inr ⟨z, i, c, ha.str, hb.int, limLe hl, e, h _ (.str _)⟩)
    · rw [if_neg hl] at h; exact h.elim
  · exact h.elim
def cutD {α : Type} (xs : List α) (lo hi : Option Int) : List α := (xs.drop (HT.sIx xs.length 0 lo)).take (HT.sIx xs.length xs.length hi - HT.sIx xs.length 0 lo)
theorem cut_da {K : PySem.W.Frag} {F : Hp} {vs : List V} {ds : List D} (h : DaAll K F vs ds) (lo hi : Option Int) : DaAll K F (cutV vs lo hi) (cutD ds lo hi) := by
  unfold cutV cutD
  rw [h.length]
  exact (h.drop _).take _
theorem cutV_ints (ns : List Int) (lo hi : Option Int) : cutV (ns.map V.int) lo hi = (cutD ns lo hi).map V.int := by
  unfold cutV cutD
  rw [List.length_map, List.map_take, List.map_drop]
def dSl : D → Option Int → Option Int → Option R := fun a lo hi => match a with
  | .tup xs => some (.t (cutD xs lo hi))
  | .lst xs => some (.l (cutD xs lo hi))
  | .scr ns => some (.l ((cutD ns lo hi).map D.int))
  | .str z => if z.length ≤ lim then some (.d (.str (cutS z lo hi))) else none
  | _ => none
def rSlAll (K : PySem.W.Frag) : V → Option Int → Option Int → Hp → VK → Prop := fun x lo hi H Q => rSlA K x lo hi H Q ∨ rSlL K x lo hi H Q ∨ rSlS x lo hi H Q
theorem slAll {X : Cx} : SlR X (rSlAll X.K) := sl_tupA.or (sl_list.or sl_str)
theorem ops_sl {K : PySem.W.Frag} : OpS K (rSlAll K) dSl := by
  intro F H x a lo hi Q s ha h
  unfold dSl at h
  split at h
  · rename_i xs
    obtain ⟨p, vs, rfl, h1, h2⟩ := ha.tup s
    refine .inl ⟨p, vs, rfl, h1, fun e => ?_, fun _ p hp => h.2 p _ hp (cut_da h2 lo hi)⟩
    have q : cutD xs lo hi = xs := by
      unfold cutD
      rw [← h2.length, e.1, e.2, List.drop_zero, Nat.sub_zero, h2.length, List.take_length]
    rw [q] at h
    exact h.1 _ (ha.da (fun _ e => by cases e))
  · obtain ⟨p, vs, rfl, h1, h2⟩ := ha.lst s
    exact .inr (.inl ⟨p, vs, rfl, SqL.of h1, fun p hp => h p _ hp (cut_da h2 lo hi)⟩)
  · rename_i ns
    obtain ⟨p, rfl, h1⟩ := ha.scr s
    refine .inr (.inl ⟨p, _, rfl, h1, fun p hp => h p _ hp ?_⟩)
    rw [cutV_ints]
    exact DaAll.ints _
  · rename_i z
    by_cases hl : z.length ≤ lim
    · rw [if_pos hl] at h
      exact .inr (.inr ⟨z, ha.str, limLe hl, h _ (.str _)⟩)
    · rw [if_neg hl] at h; exact h.elim
  · exact h.elim
end G
namespace G
open PySem L2
/-! ### built-in functions -/
def intsOf : List D → Option (List Int)
  | [] => some []
  | .int i :: r => (intsOf r).map (i :: ·)
  | _ :: _ => none
def blsOf : List D → Option (List Bool)
  | [] => some []
  | .bl i :: r => (blsOf r).map (i :: ·)
  | _ :: _ => none
theorem da_ints {K : PySem.W.Frag} {F : Hp} : ∀ {vs : List V} {ds : List D} {ns : List Int}, DaAll K F vs ds → intsOf ds = some ns → vs = ns.map V.int
  | _, _, _, .nil, e => by cases e; rfl
  | _, _, ns, .cons a b, e => by
    cases a with
    | int i =>
      rename_i ds
      unfold intsOf at e
      cases q : intsOf ds with
      | none => rw [q] at e; cases e
      | some ms =>
        rw [q] at e
        cases e
        rw [da_ints b q]
        rfl
    | _ => cases e
theorem da_bls {K : PySem.W.Frag} {F : Hp} : ∀ {vs : List V} {ds : List D} {ns : List Bool}, DaAll K F vs ds → blsOf ds = some ns → vs = ns.map V.bl
  | _, _, _, .nil, e => by cases e; rfl
  | _, _, ns, .cons a b, e => by
    cases a with
    | bl i =>
      rename_i ds
      unfold blsOf at e
      cases q : blsOf ds with
      | none => rw [q] at e; cases e
      | some ms =>
        rw [q] at e
        cases e
        rw [da_bls b q]
        rfl
    | _ => cases e
def maxL : List Int → Int
  | [] => 0
  | [x] => x
  | x :: r => if maxL r > x then maxL r else x
def minL : List Int → Int
  | [] => 0
  | [x] => x
  | x :: r => if minL r < x then minL r else x
theorem maxL_is : ∀ {ns : List Int}, ns ≠ [] → maxL ns ∈ ns ∧ ∀ y ∈ ns, y ≤ maxL ns
  | [], h => (h rfl).elim
  | [x], _ => ⟨List.mem_singleton.mpr rfl, fun y hy => by rw [List.mem_singleton.mp hy]; exact Int.le_refl _⟩
  | x :: y :: r, _ => by
    obtain ⟨h1, h2⟩ := maxL_is (ns := y :: r) (by intro e; cases e)
    show (if maxL (y :: r) > x then maxL (y :: r) else x) ∈ _ ∧ ∀ u ∈ _, u ≤ (if maxL (y :: r) > x then maxL (y :: r) else x)
    by_cases hc : maxL (y :: r) > x
    · rw [if_pos hc]
      exact ⟨List.mem_cons_of_mem _ h1, fun u hu => by
        rcases List.mem_cons.mp hu with rfl | hu
        · exact Int.le_of_lt hc
        · exact h2 u hu⟩
    · rw [if_neg hc]
      exact ⟨List.mem_cons_self, fun u hu => by
        rcases List.mem_cons.mp hu with rfl | hu
        · exact Int.le_refl _
        · exact Int.le_trans (h2 u hu) (Int.not_lt.mp hc)⟩
theorem minL_is : ∀ {ns : List Int}, ns ≠ [] → minL ns ∈ ns ∧ ∀ y ∈ ns, minL ns ≤ y
  | [], h => (h rfl).elim
  | [x], _ => ⟨List.mem_singleton.mpr rfl, fun y hy => by rw [List.mem_singleton.mp hy]; exact Int.le_refl _⟩
  | x :: y :: r, _ => by
    obtain ⟨h1, h2⟩ := minL_is (ns := y :: r) (by intro e; cases e)
    show (if minL (y :: r) < x then minL (y :: r) else x) ∈ _ ∧ ∀ u ∈ _, (if minL (y :: r) < x then minL (y :: r) else x) ≤ u
    by_cases hc : minL (y :: r) < x
    · rw [if_pos hc]
      exact ⟨List.mem_cons_of_mem _ h1, fun u hu => by
        rcases List.mem_cons.mp hu with rfl | hu
        · exact Int.le_of_lt hc
        · exact h2 u hu⟩
    · rw [if_neg hc]
      exact ⟨List.mem_cons_self, fun u hu => by
        rcases List.mem_cons.mp hu with rfl | hu
        · exact Int.le_refl _
        · exact Int.le_trans (Int.not_lt.mp hc) (h2 u hu)⟩
def fLen : List D → Option R := fun as => match as with
  | [.tup xs] => some (.d (.int xs.length))
  | [.lst xs] => some (.d (.int xs.length))
  | [.scr xs] => some (.d (.int xs.length))
  | [.str z] => if z.length ≤ lim then some (.d (.int z.length)) else none
  | _ => none
def fMax : List D → Option R := fun as => match as with
  | [.int i, .int j] => some (.d (.int (if j > i then j else i)))
  | [.lst xs] => (match intsOf xs with
    | some (n :: ns) => some (.d (.int (maxL (n :: ns))))
    | _ => none)
  | _ => none
def fMin : List D → Option R := fun as => match as with
  | [.int i, .int j] => some (.d (.int (if j < i then j else i)))
  | [.lst xs] => (match intsOf xs with
    | some (n :: ns) => some (.d (.int (minL (n :: ns))))
    | _ => none)
  | _ => none
def fSum : List D → Option R := fun as => match as with
  | [.lst xs] => (intsOf xs).map fun ns => .d (.int ns.sum)
  | _ => none
def fAll : List D → Option R := fun as => match as with
  | [.lst xs] => (blsOf xs).map fun ns => .d (.bl (ns.all id))
  | _ => none
def fAny : List D → Option R := fun as => match as with
  | [.lst xs] => (blsOf xs).map fun ns => .d (.bl (ns.any id))
  | _ => none
def fInt : List D → Option R := fun as => match as with
  | [.int i] => some (.d (.int i))
  | [.bl k] => some (.d (.int (if k then 1 else 0)))
  | _ => none
def fStr : List D → Option R := fun as => match as with
  | [.int i] => if i.natAbs.log2 < 1920 then some (.d (.str (toString i))) else none
  | _ => none
def fList : List D → Option R := fun as => match as with
  | [.tup xs] => some (.l xs)
  | [.lst xs] => some (.l xs)
  | [.scr ns] => some (.l (ns.map D.int))
  | _ => none
def fTuple : List D → Option R := fun as => match as with
  | [.tup xs] => some (.t xs)
  | [.lst xs] => some (.t xs)
  | _ => none
section
variable {K : PySem.W.Frag}
def rLenAll (K : PySem.W.Frag) : List V → Hp → VK → Prop := fun xs H Q => (∃ p ys, xs = [.ref p] ∧ (SqL K H p ys ∨ SqT K H p ys) ∧ Q (.int ys.length) H) ∨ ∃ z, xs = [.str z] ∧ z.length ≤ sizeLine ∧ Q (.int z.length) H
theorem lenAll {X : Cx} : CallR X (.builtin "len") (rLenAll X.K) := call_len_seq.or call_len_str
theorem p1 {P : V → D → Prop} {xs : List V} {a : D} (h : Paired P xs [a]) : ∃ x, xs = [x] ∧ P x a := by
  cases h with
  | cons r t => cases t; exact ⟨_, rfl, r⟩
theorem p2 {P : V → D → Prop} {xs : List V} {a b : D} (h : Paired P xs [a, b]) : ∃ x y, xs = [x, y] ∧ P x a ∧ P y b := by
  cases h with
  | cons r t =>
    obtain ⟨y, rfl, q⟩ := p1 t
    exact ⟨_, _, rfl, r, q⟩
theorem opn_len : OpN K (rLenAll K) fLen := by
  intro F H xs as Q s hp h
  unfold fLen at h
  split at h
  · obtain ⟨x, rfl, r⟩ := p1 hp
    obtain ⟨a, vs, rfl, h1, h2⟩ := r.tup s
    exact .inl ⟨a, vs, rfl, .inr h1, by rw [h2.length]; exact h _ (.int _)⟩
  · obtain ⟨x, rfl, r⟩ := p1 hp
    obtain ⟨a, vs, rfl, h1, h2⟩ := r.lst s
    exact .inl ⟨a, vs, rfl, .inl (SqL.of h1), by rw [h2.length]; exact h _ (.int _)⟩
  · obtain ⟨x, rfl, r⟩ := p1 hp
    obtain ⟨a, rfl, h1⟩ := r.scr s
    exact .inl ⟨a, _, rfl, .inl h1, by rw [List.length_map]; exact h _ (.int _)⟩
  · rename_i z
    obtain ⟨x, rfl, r⟩ := p1 hp
    by_cases hl : z.length ≤ lim
    · rw [if_pos hl] at h
      exact .inr ⟨z, by rw [r.str], limLe hl, h _ (.int _)⟩
    · rw [if_neg hl] at h; exact h.elim
  · exact h.elim
def rMaxAll (K : PySem.W.Frag) : List V → Hp → VK → Prop := fun xs H Q => (∃ i j, xs = [.int i, .int j] ∧ Q (.int (if j > i then j else i)) H) ∨ rMax K xs H Q
def rMinAll (K : PySem.W.Frag) : List V → Hp → VK → Prop := fun xs H Q => (∃ i j, xs = [.int i, .int j] ∧ Q (.int (if j < i then j else i)) H) ∨ rMin K xs H Q
theorem maxAll {X : Cx} (hc : X.calm = true) : CallR X (.builtin "max") (rMaxAll X.K) := (call_max2 hc).or (cr_max hc)
theorem minAll {X : Cx} (hc : X.calm = true) : CallR X (.builtin "min") (rMinAll X.K) := (call_min2 hc).or (cr_min hc)
theorem opn_max : OpN K (rMaxAll K) fMax := by
  intro F H xs as Q s hp h
  unfold fMax at h
  split at h
  · obtain ⟨x, y, rfl, r1, r2⟩ := p2 hp
    exact .inl ⟨_, _, by rw [r1.int, r2.int], h _ (.int _)⟩
  · rename_i ds
    obtain ⟨x, rfl, r⟩ := p1 hp
    obtain ⟨a, vs, rfl, h1, h2⟩ := r.lst s
    split at h
    · rename_i n ns e
      have q := da_ints h2 e
      subst q
      refine .inr ⟨a, n :: ns, rfl, SqL.of h1, Nat.succ_pos _, fun m hm hy => ?_⟩
      obtain ⟨g1, g2⟩ := maxL_is (ns := n :: ns) (by intro e; cases e)
      have em : m = maxL (n :: ns) := Int.le_antisymm (g2 m hm) (hy _ g1)
      rw [em]
      exact h _ (.int _)
    · exact h.elim
  · exact h.elim
theorem opn_min : OpN K (rMinAll K) fMin := by
  intro F H xs as Q s hp h
  unfold fMin at h
  split at h
  · obtain ⟨x, y, rfl, r1, r2⟩ := p2 hp
    exact .inl ⟨_, _, by rw [r1.int, r2.int], h _ (.int _)⟩
  · rename_i ds
    obtain ⟨x, rfl, r⟩ := p1 hp
    obtain ⟨a, vs, rfl, h1, h2⟩ := r.lst s
    split at h
    · rename_i n ns e
      have q := da_ints h2 e
      subst q
      refine .inr ⟨a, n :: ns, rfl, SqL.of h1, Nat.succ_pos _, fun m hm hy => ?_⟩
      obtain ⟨g1, g2⟩ := minL_is (ns := n :: ns) (by intro e; cases e)
      have em : m = minL (n :: ns) := Int.le_antisymm (hy _ g1) (g2 m hm)
      rw [em]
      exact h _ (.int _)
    · exact h.elim
  · exact h.elim
theorem opn_sum : OpN K (rSum K) fSum := by
  intro F H xs as Q s hp h
  unfold fSum at h
  split at h
  · rename_i ds
    obtain ⟨x, rfl, r⟩ := p1 hp
    obtain ⟨a, vs, rfl, h1, h2⟩ := r.lst s
    cases e : intsOf ds with
    | none => rw [e] at h; exact h.elim
    | some ns =>
      rw [e] at h
      have q := da_ints h2 e
      subst q
      exact ⟨a, ns, rfl, SqL.of h1, h _ (.int _)⟩
  · exact h.elim
theorem opn_all : OpN K (rAll K) fAll := by
  intro F H xs as Q s hp h
  unfold fAll at h
  split at h
  · rename_i ds
    obtain ⟨x, rfl, r⟩ := p1 hp
    obtain ⟨a, vs, rfl, h1, h2⟩ := r.lst s
    cases e : blsOf ds with
    | none => rw [e] at h; exact h.elim
    | some ns =>
      rw [e] at h
      have q := da_bls h2 e
      subst q
      exact ⟨a, ns, rfl, SqL.of h1, h _ (.bl _)⟩
  · exact h.elim
theorem opn_any : OpN K (rAny K) fAny := by
  intro F H xs as Q s hp h
  unfold fAny at h
  split at h
  · rename_i ds
    obtain ⟨x, rfl, r⟩ := p1 hp
    obtain ⟨a, vs, rfl, h1, h2⟩ := r.lst s
    cases e : blsOf ds with
    | none => rw [e] at h; exact h.elim
    | some ns =>
      rw [e] at h
      have q := da_bls h2 e
      subst q
      exact ⟨a, ns, rfl, SqL.of h1, h _ (.bl _)⟩
  · exact h.elim
def rInt1 : List V → Hp → VK → Prop := fun xs H Q => (∃ i, xs = [.int i] ∧ Q (.int i) H) ∨ ∃ k, xs = [.bl k] ∧ Q (.int (if k then 1 else 0)) H
theorem opn_int : OpN K rInt1 fInt := by
  intro F H xs as Q s hp h
  unfold fInt at h
  split at h
  · obtain ⟨x, rfl, r⟩ := p1 hp
    exact .inl ⟨_, by rw [r.int], h _ (.int _)⟩
  · obtain ⟨x, rfl, r⟩ := p1 hp
    exact .inr ⟨_, by rw [r.bl], h _ (.int _)⟩
  · exact h.elim
def rStr1 : List V → Hp → VK → Prop := fun xs H Q => ∃ i, xs = [.int i] ∧ i.natAbs.log2 < 1920 ∧ Q (.str (toString i)) H
theorem opn_str : OpN K rStr1 fStr := by
  intro F H xs as Q s hp h
  unfold fStr at h
  split at h
  · rename_i i
    obtain ⟨x, rfl, r⟩ := p1 hp
    by_cases hl : i.natAbs.log2 < 1920
    · rw [if_pos hl] at h
      exact ⟨i, by rw [r.int], hl, h _ (.str _)⟩
    · rw [if_neg hl] at h; exact h.elim
  · exact h.elim
def rListOf (K : PySem.W.Frag) : List V → Hp → VK → Prop := fun xs H Q => ∃ p ys, xs = [.ref p] ∧ (SqL K H p ys ∨ SqT K H p ys) ∧ ∀ l, H l = none → Q (.ref l) (upd H l (.lst ys))
theorem opn_list : OpN K (rListOf K) fList := by
  intro F H xs as Q s hp h
  unfold fList at h
  split at h
  · obtain ⟨x, rfl, r⟩ := p1 hp
    obtain ⟨a, vs, rfl, h1, h2⟩ := r.tup s
    exact ⟨a, vs, rfl, .inr h1, fun l hl => h l vs hl h2⟩
  · obtain ⟨x, rfl, r⟩ := p1 hp
    obtain ⟨a, vs, rfl, h1, h2⟩ := r.lst s
    exact ⟨a, vs, rfl, .inl (SqL.of h1), fun l hl => h l vs hl h2⟩
  · obtain ⟨x, rfl, r⟩ := p1 hp
    obtain ⟨a, rfl, h1⟩ := r.scr s
    exact ⟨a, _, rfl, .inl h1, fun l hl => h l _ hl (DaAll.ints _)⟩
  · exact h.elim
def rTupleOf (K : PySem.W.Frag) : List V → Hp → VK → Prop := fun xs H Q => ∃ p ys, xs = [.ref p] ∧ ((SqL K H p ys ∧ ∀ l, H l = none → Q (.ref l) (upd H l (.tup ys))) ∨ (SqT K H p ys ∧ Q (.ref p) H))
theorem opn_tuple : OpN K (rTupleOf K) fTuple := by
  intro F H xs as Q s hp h
  unfold fTuple at h
  split at h
  · obtain ⟨x, rfl, r⟩ := p1 hp
    obtain ⟨a, vs, rfl, h1, h2⟩ := r.tup s
    exact ⟨a, vs, rfl, .inr ⟨h1, h.1 _ (r.da (fun _ e => by cases e))⟩⟩
  · obtain ⟨x, rfl, r⟩ := p1 hp
    obtain ⟨a, vs, rfl, h1, h2⟩ := r.lst s
    exact ⟨a, vs, rfl, .inl ⟨SqL.of h1, fun l hl => h.2 l vs hl h2⟩⟩
  · exact h.elim
end
/-! ### isinstance(x, T), T a built-in class -/
def tyD : D → String
  | .non => "NoneType"
  | .bl _ => "bool"
  | .int _ => "int"
  | .str _ => "str"
  | .tup _ => "tuple"
  | .lst _ => "list"
  | .scr _ => "list"
  | .emp => "dict"
  | .exc _ _ => "object"
  | .o _ => "object"
/-- values whose class is a built-in one, by tyD -/
def notScr : D → Bool
  | .scr _ => false
  | .exc _ _ => false
  | .o _ => false
  | _ => true
def dIsi (T : String) : D → Option R := fun a => (kitB (tyD a) T).map fun b => .d (.bl b)
theorem Rv.ty {K : PySem.W.Frag} {F H : Hp} {v : V} {d : D} (s : SameX F H) (h : Rv K F H v d) (hs : notScr d = true) : TyX K H v (.type (tyD d)) := by
  cases d with
  | non => rw [h.non]; exact .base .non
  | bl b => rw [h.bl]; exact .base (.bl b)
  | int i => rw [h.int]; exact .base (.int i)
  | str x => rw [h.str]; exact .base (.str x)
  | tup xs =>
    obtain ⟨a, vs, rfl, h1, h2⟩ := h.tup s
    rcases h1 with (h1 | ⟨o, h1⟩) | ⟨o, its, n, h1, h2, _⟩
    · exact .base (.tup h1)
    · exact .fTuple h1
    · exact .kTuple h1 h2
  | lst xs =>
    obtain ⟨a, vs, rfl, h1, h2⟩ := h.lst s
    exact .base (.lst h1)
  | scr ns => cases hs
  | exc _ _ => cases hs
  | o _ => cases hs
  | emp =>
    obtain ⟨a, rfl, h1⟩ := h.emp s
    exact .base (.dK h1)
end G
namespace G
open PySem L2
section
variable {ι : Type} {M : MI} {xr : Str → Option Value} {K : PySem.W.Frag} {X : ι → Cx} {W : WX} {a b : Expr} {f f' : Sm M S} {pos : Pos}
/-- what every place of a def's text has: its written part, calm, no name twice -/
structure Pl (K : PySem.W.Frag) (X : ι → Cx) (N : List Str) (mg : Str → Option Value) : Prop where
  k : ∀ j, (X j).K = K
  c : ∀ j, (X j).calm = true
  n : ∀ j, (X j).N = N
  nd : N.Nodup
  g : ∀ j, (X j).mg = mg
  u : ∀ j, (X j).A.units + 300 < cLine
variable {N : List Str} {mg : Str → Option Value}
theorem Pl.nds (p : Pl K X N mg) : ∀ j, (X j).N.Nodup := fun j => by rw [p.n j]; exact p.nd
theorem Pl.blk (p : Pl K X N mg) (scope : Scope) : Pl K (Blk X scope) N mg := ⟨fun q => p.k q.1, fun q => p.c q.1, fun q => p.n q.1, p.nd, fun q => p.g q.1, fun q => p.u q.1⟩
theorem de_add (p : Pl K X N mg) (ha : DE M xr K X W a f) (hb : DE M xr K X W b f') : DE M xr K X W (.BinOp a .Add b pos) (eBin dAdd f f') := de_bin (fun j => by rw [← p.k j]; exact opAdd) op2_add ha hb
theorem de_sub (ha : DE M xr K X W a f) (hb : DE M xr K X W b f') : DE M xr K X W (.BinOp a .Sub b pos) (eBin dSub f f') := de_bin (fun j => op_sub) (op2_I0 fun _ _ _ => .int _) ha hb
theorem de_mul (ha : DE M xr K X W a f) (hb : DE M xr K X W b f') : DE M xr K X W (.BinOp a .Mult b pos) (eBin dMul f f') := de_bin (fun j => op_mul) (op2_I (fun i j h => show (-(2 ^ 64) < i ∧ i < 2 ^ 64) ∨ (-(2 ^ 64) < j ∧ j < 2 ^ 64) from of_decide_eq_true h) fun _ _ _ => .int _) ha hb
theorem de_fdiv (ha : DE M xr K X W a f) (hb : DE M xr K X W b f') : DE M xr K X W (.BinOp a .FloorDiv b pos) (eBin dFdiv f f') := de_bin (fun j => op_fdiv) (op2_I (fun i j h => show 0 < j ∧ j < 1073741824 from of_decide_eq_true h) fun _ _ _ => .int _) ha hb
theorem de_mod (ha : DE M xr K X W a f) (hb : DE M xr K X W b f') : DE M xr K X W (.BinOp a .Mod b pos) (eBin dMod f f') := de_bin (fun j => op_mod) (op2_I (fun _ _ h => of_decide_eq_true h) fun _ _ _ => .int _) ha hb
theorem de_pow (ha : DE M xr K X W a f) (hb : DE M xr K X W b f') : DE M xr K X W (.BinOp a .Pow b pos) (eBin dPow f f') := de_bin (fun j => op_pow) (op2_I (fun i j h => show 0 ≤ j ∧ j ≤ 1000000 ∧ i.natAbs < 2 ^ 64 from of_decide_eq_true h) fun _ _ _ => .int _) ha hb
theorem de_shl (ha : DE M xr K X W a f) (hb : DE M xr K X W b f') : DE M xr K X W (.BinOp a .LShift b pos) (eBin dShl f f') := de_bin (fun j => op_shl) (op2_I (fun i j h => show 0 ≤ j ∧ j ≤ 1000000 ∧ i.natAbs < 2 ^ 64 from of_decide_eq_true h) fun _ _ _ => .int _) ha hb
theorem de_shr (ha : DE M xr K X W a f) (hb : DE M xr K X W b f') : DE M xr K X W (.BinOp a .RShift b pos) (eBin dShr f f') := de_bin (fun j => op_shr) (op2_I (fun _ _ h => of_decide_eq_true h) fun _ _ _ => .int _) ha hb
theorem op1_neg : Op1 K (rU fun i => .int (-i)) dNeg := by
  intro F H x a Q s ha h
  cases a with
  | int i => exact ⟨i, ha.int, h _ (.int _)⟩
  | _ => exact h.elim
theorem de_neg (ha : DE M xr K X W a f) : DE M xr K X W (.UnaryOp .USub a pos) (eUn dNeg f) := de_un (fun j => un_neg) op1_neg ha
/-- comparisons: a relation by its operator, with what it computes -/
inductive Cp (K : PySem.W.Frag) (X : ι → Cx) : CmpOp → (D → D → Option R) → Prop
  | mk {op : CmpOp} {g : D → D → Option R} (r : R2) (ho : ∀ j, OpR (X j) (compareOp op) r) (hd : Op2 K r g) : Cp K X op g
theorem Cp.de {op : CmpOp} {g : D → D → Option R} (c : Cp K X op g) (ha : DE M xr K X W a f) (hb : DE M xr K X W b f') (hm : behindInMarks op b = false) : DE M xr K X W (.Compare a [op] [b] pos) (eBin g f f') := by
  cases c with
  | mk r ho hd => exact de_cmp ho hd ha hb hm
theorem Cp.dt {op : CmpOp} {g : D → D → Option R} (c : Cp K X op g) (ha : DE M xr K X W a f) (hb : DE M xr K X W b f') (hm : behindInMarks op b = false) : DT M xr K X W (.Compare a [op] [b] pos) (tOf (eBin g f f')) := by
  cases c with
  | mk r ho hd => exact dt_cmp ho hd ha hb hm
theorem cp_lt : Cp K X .Lt dLt := ⟨_, fun j => op_lt, op2_I0 fun _ _ _ => .bl _⟩
theorem cp_le : Cp K X .LtE dLe := ⟨_, fun j => op_le, op2_I0 fun _ _ _ => .bl _⟩
theorem cp_gt : Cp K X .Gt dGt := ⟨_, fun j => op_gt, op2_I0 fun _ _ _ => .bl _⟩
theorem cp_ge : Cp K X .GtE dGe := ⟨_, fun j => op_ge, op2_I0 fun _ _ _ => .bl _⟩
theorem cp_eq (p : Pl K X N mg) : Cp K X .Eq dEq := ⟨rEqW K, fun j => by rw [← p.k j]; exact op_eqW (p.u j), op2_eq⟩
theorem cp_ne (p : Pl K X N mg) : Cp K X .NotEq dNe := ⟨rNeW K, fun j => by rw [← p.k j]; exact op_neW (p.u j), op2_ne⟩
theorem cp_is : Cp K X .Is dIs := ⟨_, fun j => opIs, op2_is⟩
theorem cp_isNot : Cp K X .IsNot dIsNot := ⟨_, fun j => opIsNot, op2_isNot⟩
theorem cp_in (p : Pl K X N mg) : Cp K X .In dIn := ⟨rInAll K, fun j => by rw [← p.k j]; exact opIn, op2_in⟩
theorem cp_notIn (p : Pl K X N mg) : Cp K X .NotIn dNotIn := ⟨rNotInAll K, fun j => by rw [← p.k j]; exact opNotIn, op2_notIn⟩
/-- a < b < c -/
def eChain (g g' : D → D → Option R) (f f' f'' : Sm M S) : Sm M S := fun z => (opd f z).bind fun s z1 => (opd f' z1).bind fun s' z2 => (fin ((rd z2 s).bind fun x => (rd z2 s').bind fun y => g x y) z2).bind fun r z3 => match r with
  | .d (.bl true) => (opd f'' z3).bind fun s'' z4 => fin ((rd z4 s').bind fun x => (rd z4 s'').bind fun y => g' x y) z4
  | .d (.bl false) => .ok (.d (.bl false)) z3
  | _ => .bad
theorem de_ixA (p : Pl K X N mg) (ha : DE M xr K X W a f) (hb : DE M xr K X W b f') (hs : PlainIx b := by exact fun _ _ => rfl) : DE M xr K X W (.Subscript a b pos) (eBin dIx f f') := de_ix (fun j => by rw [← p.k j]; exact ix_seq) op2_ix ha hb hs
theorem de_sl {lo hi : Option Expr} {fl fh : Sm M (Option Int)} {p2 : Pos} (p : Pl K X N mg) (h : DE M xr K X W a f) (hl : DO M xr K X W lo fl) (hh : DO M xr K X W hi fh) : DE M xr K X W (.Subscript a (.Slice lo hi none p2) pos) (eSl dSl f fl fh) := de_slice (fun j => by rw [← p.k j]; exact slAll) ops_sl h hl hh
/-! built-in functions by name: x is not the text's own -/
inductive Fb (K : PySem.W.Frag) (X : ι → Cx) : Str → (List D → Option R) → Prop
  | fn {x : Str} {g : List D → Option R} (id : String) (r : List V → Hp → VK → Prop) (hc : ∀ j, CallR (X j) (.builtin id) r) (hd : OpN K r g) (hv : bootBuiltins x = some (.builtin id)) (hn : x ≠ "__name__") (hb : (x == ("__debug__" : Str)) = false) : Fb K X x g
  | ty {x : Str} {g : List D → Option R} (T : String) (r : List V → Hp → VK → Prop) (hc : ∀ j, CallR (X j) (.type T) r) (hd : OpN K r g) (hv : bootBuiltins x = some (.type T)) (hn : x ≠ "__name__") (hb : (x == ("__debug__" : Str)) = false) : Fb K X x g
theorem Fb.de {x : Str} {g : List D → Option R} (c : Fb K X x g) {e : Expr} {es : List Expr} {h : Sm M (List S)} {pp : Pos} (p : Pl K X N mg) (hm : mg x = none) (ha : DA M xr K X W (e :: es) h) (hg : ∀ j, Gl (X j) x := by intro _; rfl)
    (he : ∀ j, starEach (e :: es) (X j).env = (false, eval e (X j).env) :: starEach es (X j).env := by intro _; rfl) (hpl : ∀ j, (backTo pos (starEach es (X j).env)).any (·.1) = false := by intro _; rfl) : DE M xr K X W (.Call (.Name x pp) (e :: es) [] pos) (eFn g h) := by
  cases c with
  | fn id r hc hd hv hn hb => exact de_callB hc hd hg (fun j => by rw [p.g j]; exact hm) hv ha hn hb he hpl
  | ty T r hc hd hv hn hb => exact de_callTy hc hd hg (fun j => by rw [p.g j]; exact hm) hv ha hn hb he hpl
theorem fb_len (p : Pl K X N mg) : Fb K X "len" fLen := .fn "len" (rLenAll K) (fun j => by rw [← p.k j]; exact lenAll) opn_len boot_len (by decide) (by decide)
theorem fb_max (p : Pl K X N mg) : Fb K X "max" fMax := .fn "max" (rMaxAll K) (fun j => by rw [← p.k j]; exact maxAll (p.c j)) opn_max PyProof.Rows.boot_max (by decide) (by decide)
theorem fb_min (p : Pl K X N mg) : Fb K X "min" fMin := .fn "min" (rMinAll K) (fun j => by rw [← p.k j]; exact minAll (p.c j)) opn_min PyProof.Rows.boot_min (by decide) (by decide)
theorem fb_sum (p : Pl K X N mg) : Fb K X "sum" fSum := .fn "sum" (rSum K) (fun j => by rw [← p.k j]; exact cr_sum (p.c j)) opn_sum PyProof.Rows.boot_sum (by decide) (by decide)
theorem fb_all (p : Pl K X N mg) : Fb K X "all" fAll := .fn "all" (rAll K) (fun j => by rw [← p.k j]; exact cr_all (p.c j)) opn_all PyProof.Rows.boot_all (by decide) (by decide)
theorem fb_any (p : Pl K X N mg) : Fb K X "any" fAny := .fn "any" (rAny K) (fun j => by rw [← p.k j]; exact cr_any (p.c j)) opn_any PyProof.Rows.boot_any (by decide) (by decide)
theorem fb_int : Fb K X "int" fInt := .ty "int" rInt1 (fun j => call_int1) opn_int PyProof.Rows.boot_int (by decide) (by decide)
theorem fb_str : Fb K X "str" fStr := .ty "str" rStr1 (fun j => call_str_int) opn_str PyProof.Rows.boot_str (by decide) (by decide)
theorem fb_list (p : Pl K X N mg) : Fb K X "list" fList := .ty "list" (rListOf K) (fun j => by rw [← p.k j]; exact call_list_of) opn_list PyProof.Rows.boot_list (by decide) (by decide)
theorem fb_tuple (p : Pl K X N mg) : Fb K X "tuple" fTuple := .ty "tuple" (rTupleOf K) (fun j => by rw [← p.k j]; exact call_tuple_of) opn_tuple PyProof.Rows.boot_tuple (by decide) (by decide)
/-- isinstance(e, T) -/
def dIsiN (T : String) : D → Option R := fun x => if notScr x = true then dIsi T x else none
theorem de_isi {T : Str} {t : String} {e : Expr} {pp pt : Pos} {g : Sm M S} (p : Pl K X N mg) (hm : mg "isinstance" = none) (hmT : mg T = none) (hvT : bootBuiltins T = some (.type t)) (h : DE M xr K X W e g) (hg : ∀ j, Gl (X j) "isinstance" := by intro _; rfl) (hgT : ∀ j, Gl (X j) T := by intro _; rfl) (hnT : T ≠ "__name__" := by decide) (hbT : (T == ("__debug__" : Str)) = false := by decide)
    (he : ∀ j, starEach [e, .Name T pt] (X j).env = (false, eval e (X j).env) :: starEach [.Name T pt] (X j).env := by intro _; rfl) (he2 : ∀ j, starEach [.Name T pt] (X j).env = (false, eval (.Name T pt) (X j).env) :: starEach [] (X j).env := by intro _; rfl) (hpl : ∀ j, (backTo pos (starEach [.Name T pt] (X j).env)).any (·.1) = false := by intro _; rfl) :
    DE M xr K X W (.Call (.Name "isinstance" pp) [e, .Name T pt] [] pos) (eUn (dIsiN t) g) := by
  obtain ⟨tt, pe, c⟩ := h
  refine ⟨tCB (rIsi K) (tCons tt (tCons (tC (.ty t)) tNil)), fun j => ?_, fun G σ H F z Q hK hx ok hh => ?_⟩
  · rw [← p.k j]
    exact pe_callB call_isi (hg j) (by rw [p.g j]; exact hm) PyProof.Rows.boot_isinstance (pa_cons (pe j) (pa_cons (pe_bltn (v := .ty t) (hgT j) (by rw [p.g j]; exact hmT) hvT rfl hnT hbT) pa_nil (he2 j)) (he j)) (by decide) (by decide) (he j) (hpl j)
  · refine cmp_opd c G σ H F z _ hK hx ok (hit_bind hh fun s z1 v H1 F1 _ sm1 ok1 e1 h1 => ?_)
    have q := fin_hit ok1 h1
    cases er : rd z1 s with
    | none => rw [er] at q; exact q.elim
    | some x =>
      rw [er] at q
      have q' : Hit0 G.K F1 H1 (dIsiN t x) Q := q
      unfold dIsiN at q'
      by_cases hn : notScr x = true
      · rw [if_pos hn] at q'
        unfold dIsi at q'
        cases ek : kitB (tyD x) t with
        | none => rw [ek] at q'; exact q'.elim
        | some b =>
          rw [ek] at q'
          have ty := (EO.rv ok1 e1 er).ty ok1.sub hn
          exact ⟨v, .ty t, .type (tyD x), .type t, b, rfl, .ty t, by rw [← hK]; exact ty, kit_ty ek, q' _ (.bl b)⟩
      · rw [if_neg hn] at q'; exact q'.elim
/-! ### truth of a value -/
def dTru : D → Option Bool := fun a => match a with
  | .non => some false
  | .bl b => some b
  | .int i => some (i != 0)
  | .str z => if z.length ≤ lim then some ((z.length : Int) != 0) else none
  | .tup xs => some (!xs.isEmpty)
  | .lst xs => some (!xs.isEmpty)
  | .scr xs => some (!xs.isEmpty)
  | .emp => none
  | .exc _ _ => none
  | .o _ => none
theorem da_empty {K : PySem.W.Frag} {F : Hp} {vs : List V} {ds : List D} (h : DaAll K F vs ds) : (!vs.isEmpty) = !ds.isEmpty := by
  cases h <;> rfl
theorem tru_rv {F H : Hp} {v : V} {d : D} {k : Bool} (s : SameX F H) (h : Rv K F H v d) (e : dTru d = some k) : TruV K v H k := by
  cases d with
  | non => cases e; rw [h.non]; rfl
  | bl b => cases e; rw [h.bl]; rfl
  | int i => cases e; rw [h.int]; rfl
  | str z =>
    unfold dTru at e
    by_cases hl : z.length ≤ lim
    · simp only [if_pos hl] at e
      cases e
      rw [h.str]
      exact ⟨limLe hl, rfl⟩
    · simp only [if_neg hl] at e
      cases e
  | tup xs =>
    cases e
    obtain ⟨a, vs, rfl, h1, h2⟩ := h.tup s
    exact .inr (.inl ⟨vs, h1, (da_empty h2).symm⟩)
  | lst xs =>
    cases e
    obtain ⟨a, vs, rfl, h1, h2⟩ := h.lst s
    exact .inl ⟨vs, SqL.of h1, (da_empty h2).symm⟩
  | scr xs =>
    cases e
    obtain ⟨a, rfl, h1⟩ := h.scr s
    exact .inl ⟨_, h1, by cases xs <;> rfl⟩
  | emp => cases e
  | exc _ _ => cases e
  | o _ => cases e
theorem dt_tru {e : Expr} {g : Sm M S} (p : Pl K X N mg) (h : DE M xr K X W e g) (he : ∀ j whole, isTrue e (X j).env whole = (do let v ← whole; standAt e.pos; holding [v] (truthy v)) := by intro _ _; rfl) : DT M xr K X W e (tTru dTru g) := by
  obtain ⟨t, pe, c⟩ := h
  refine ⟨fun σ H Q => t σ H fun x H1 => ∃ k, TruV K x H1 k ∧ Q k H1, fun j => ?_, fun G σ H F z Q hK hx ok hh => ?_⟩
  · rw [← p.k j]
    exact pt_truth (pe j) (he j)
  · refine cmp_opd c G σ H F z _ hK hx ok (hit_bind hh fun s z1 v H1 F1 _ sm1 ok1 e1 h1 => ?_)
    cases er : rd z1 s with
    | none => rw [er] at h1; exact h1.elim
    | some x =>
      rw [er] at h1
      have h2 : HitG M G W σ F1 (RelB G σ) (Rs.opt (dTru x) z1) Q := h1
      cases ek : dTru x with
      | none => rw [ek] at h2; exact h2.elim
      | some k =>
        rw [ek] at h2
        exact ⟨k, by rw [← hK]; exact tru_rv ok1.sub (EO.rv ok1 e1 er) ek, h2 k H1 F1 (Same.refl _) ok1 rfl⟩
/-! ### what is walked -/
def iAny (K : PySem.W.Frag) (tl : TE) : TI := fun σ H R => tl σ H fun x H1 => (∃ a, x = .ref a ∧ (∃ xs, SqL K H1 a xs) ∧ R (Itl K a) H1) ∨ (∃ a, x = .ref a ∧ (∃ xs, SqT K H1 a xs) ∧ R (Itt K a) H1) ∨ ∃ y, x = .str y ∧ R (Its y) H1
theorem pi_any {Y : Cx} {tg l : Expr} {tl : TE} (hl : PE Y l tl) : PI Y tg l (iAny Y.K tl) := by
  refine ⟨fun pins s σ H R I h => ?_⟩
  refine thn (hl.run pins s σ H _ I h) fun v s1 ⟨x, H1, I1, r1, q1⟩ => ?_
  rcases q1 with ⟨a, rfl, ⟨xs, hq⟩, q⟩ | ⟨a, rfl, ⟨xs, hq⟩, q⟩ | ⟨y, rfl, q⟩
  · cases r1
    obtain ⟨its, rv, p, hz⟩ := I1.list hq
    exact wpAny_pyIter_list p.isList (pi_one (tk := s1.toks) I1 _ (turn_list a _) ⟨_, Heap.get?_push_size _ rfl, rfl, rfl⟩ q)
  · cases r1
    obtain ⟨its, rv, p, hz⟩ := I1.tuple hq
    exact wpAny_pyIter_tuple (show s1.heap.IsTuple a its.toArray from p) (pi_one (tk := s1.toks) I1 _ (turn_tuple a _) ⟨_, Heap.get?_push_size _ rfl, rfl, rfl⟩ q)
  · obtain ⟨t, rfl⟩ := r1
    cases ha : y.cps.all (· < 128)
    · exact wpAny_pyIter_wide ha (pi_one (tk := s1.toks) I1 _ (turn_str _ y t "str_iterator" (.inr rfl)) ⟨_, Heap.get?_push_size _ rfl, rfl, rfl⟩ q)
    · exact wpAny_pyIter_ascii ha (pi_one (tk := s1.toks) I1 _ (turn_str _ y t "str_ascii_iterator" (.inl rfl)) ⟨_, Heap.get?_push_size _ rfl, rfl, rfl⟩ q)
def itemsD : D → Option (List D)
  | .lst xs => some xs
  | .tup xs => some xs
  | .scr ns => some (ns.map D.int)
  | .str z => some (z.cps.toList.map fun c => .str ⟨#[c]⟩)
  | _ => none
def iAnyM (f : Sm M S) : Sm M (List D) := fun z => (escf f z).bind fun s z1 => match s with
  | .d x => Rs.opt (itemsD x) z1
  | _ => .bad
theorem yd_old {F : Hp} {ds : List D} {i : Nat} {H : Hp} {v : V} {d : D} (hd : ds[i]? = some d) (da : Da K F v d) : YD K F ds i H v H := ⟨d, hd, fun F1 s1 s2 _ => ⟨F1, Same.refl _, s2, fun b o e => ⟨e, rfl⟩, fun _ _ e => e, da.mono s1⟩⟩
theorem di_any {tg l : Expr} {g : Sm M S} (p : Pl K X N mg) (h : DE M xr K X W l g) : DI M xr K X W tg l (iAnyM g) := by
  obtain ⟨t, pe, c⟩ := h
  refine ⟨iAny K t, fun j => by rw [← p.k j]; exact pi_any (pe j), fun G σ H F z Q hK hx ok hh => ?_⟩
  refine cmp_esc c G σ H F z _ hK hx ok (hit_bind hh fun s z1 v H1 F1 _ sm ok1 ev h1 => ?_)
  subst hK
  cases s with
  | d x =>
    have ev' : Da G.K F1 v x := ev
    cases x with
    | lst xs =>
      cases ev' with
      | lst q r =>
        rename_i a vs
        refine .inl ⟨a, rfl, ⟨vs, SqL.of (ok1.sub.lst q)⟩, h1 _ H1 F1 (Same.refl _) ok1 ?_⟩
        have w := (walk_list (K := G.K) (a := a) (xs := vs)).mono (G' := fun H => SameX F1 H) (Y' := YD G.K F1 xs) (fun H s => SqL.of (s.lst q)) (fun i H x H' hi _ ⟨e1, e2⟩ => by
          obtain ⟨d, hd, da⟩ := r.getV e2
          rw [e1]
          exact yd_old hd da)
        rw [r.length] at w
        exact w
    | tup xs =>
      cases ev' with
      | tup q r =>
        rename_i a vs
        refine .inr (.inl ⟨a, rfl, ⟨vs, ok1.sub.tup q⟩, h1 _ H1 F1 (Same.refl _) ok1 ?_⟩)
        have w := (walk_tup (K := G.K) (a := a) (xs := vs)).mono (G' := fun H => SameX F1 H) (Y' := YD G.K F1 xs) (fun H s => s.tup q) (fun i H x H' hi _ ⟨e1, e2⟩ => by
          obtain ⟨d, hd, da⟩ := r.getV e2
          rw [e1]
          exact yd_old hd da)
        rw [r.length] at w
        exact w
    | scr ns =>
      cases ev' with
      | scr q =>
        rename_i a
        refine .inl ⟨a, rfl, ⟨_, ok1.sub.seq q⟩, h1 _ H1 F1 (Same.refl _) ok1 ?_⟩
        have w := (walk_list (K := G.K) (a := a) (xs := ns.map V.int)).mono (G' := fun H => SameX F1 H) (Y' := YD G.K F1 (ns.map D.int)) (fun H s => s.seq q) (fun i H x H' hi _ ⟨e1, e2⟩ => by
          obtain ⟨d, hd, da⟩ := (DaAll.ints (K := G.K) (F := F1) ns).getV e2
          rw [e1]
          exact yd_old hd da)
        rw [List.length_map] at w
        show Walk _ (ns.map D.int).length _ _
        rw [List.length_map]
        exact w
    | str y =>
      cases ev'
      refine .inr (.inr ⟨y, rfl, h1 _ H1 F1 (Same.refl _) ok1 ?_⟩)
      have w := (walk_str (z := y)).mono (G' := fun H => SameX F1 H) (Y' := YD G.K F1 (y.cps.toList.map fun c => D.str ⟨#[c]⟩)) (fun H s => trivial) (fun i H x H' hi _ ⟨e1, c, e2, e3⟩ => by
        rw [e1, e3]
        exact yd_old (by rw [List.getElem?_map, Array.getElem?_toList, e2]; rfl) (.str _))
      show Walk _ (y.cps.toList.map fun c => D.str ⟨#[c]⟩).length _ _
      rw [List.length_map, Array.length_toList]
      exact w
    | _ => exact h1.elim
  | _ => exact h1.elim
def rangeD (lo : Int) (n : Nat) : List D := (List.range n).map fun (i : Nat) => D.int (lo + (i : Int))
def iRg1M (g : Sm M (List S)) : Sm M (List D) := fun z => (g z).bind fun ss z1 => match ss with
  | [.d (.int j)] => if -(2 ^ 62) ≤ j ∧ j < 2 ^ 62 then .ok (rangeD 0 j.toNat) z1 else .bad
  | _ => .bad
theorem wk_range {F : Hp} (lo : Int) (n : Nat) : Wk K F (Itr lo n) (rangeD lo n) := by
  have w := (walk_range (lo := lo) (n := n)).mono (G' := fun H => SameX F H) (Y' := YD K F (rangeD lo n)) (fun H s => trivial) (fun i H x H' hi _ ⟨e1, e2⟩ => by
    rw [e1, e2]
    refine yd_old (d := .int (lo + (i : Int))) ?_ (.int _)
    unfold rangeD
    rw [List.getElem?_map, List.getElem?_range hi]
    rfl)
  unfold Wk
  have e : (rangeD lo n).length = n := by
    unfold rangeD
    rw [List.length_map, List.length_range]
  rw [e]
  exact w
theorem di_range1 {tg e : Expr} {g : Sm M (List S)} {pp : Pos} (p : Pl K X N mg) (hm : mg "range" = none) (ha : DA M xr K X W [e] g) (hg : ∀ j, Gl (X j) "range" := by intro _; rfl) (hs : ∀ j, starEach [e] (X j).env = [(false, eval e (X j).env)] := by intro _; rfl) : DI M xr K X W tg (.Call (.Name "range" pp) [e] [] pos) (iRg1M g) := by
  obtain ⟨t, pa, c⟩ := ha
  refine ⟨_, fun j => pi_range1 (hg j) (by rw [p.g j]; exact hm) (pa j) (hs j), fun G σ H F z Q hK hx ok hh => ?_⟩
  refine c G σ H F z _ hK hx ok (hit_bind hh fun ss z1 vs H1 F1 _ sm ok1 ea h1 => ?_)
  unfold RelA at ea
  match ss, ea, h1 with
  | [.d (.int j)], ea, h1 =>
    by_cases hj : -(2 ^ 62) ≤ j ∧ j < 2 ^ 62
    · simp only [if_pos hj] at h1
      cases ea with
      | cons r t =>
        cases t
        cases (show Da G.K F1 _ (.int j) from r)
        exact ⟨j, rfl, hj.1, hj.2, h1 _ H1 F1 (Same.refl _) ok1 (wk_range 0 j.toNat)⟩
    · simp only [if_neg hj] at h1
      exact h1.elim
  | [], _, h1 => exact h1.elim
  | [.l _], _, h1 => exact h1.elim
  | [.v _], _, h1 => exact h1.elim
  | [.m _], _, h1 => exact h1.elim
  | [.d .non], _, h1 => exact h1.elim
  | [.d (.bl _)], _, h1 => exact h1.elim
  | [.d (.str _)], _, h1 => exact h1.elim
  | [.d (.tup _)], _, h1 => exact h1.elim
  | [.d (.lst _)], _, h1 => exact h1.elim
  | [.d (.scr _)], _, h1 => exact h1.elim
  | [.d .emp], _, h1 => exact h1.elim
  | [.d (.exc _ _)], _, h1 => exact h1.elim
  | [.d (.o _)], _, h1 => exact h1.elim
  | .d (.int _) :: _ :: _, _, h1 => exact h1.elim
  | .d .non :: _ :: _, _, h1 => exact h1.elim
  | .d (.bl _) :: _ :: _, _, h1 => exact h1.elim
  | .d (.str _) :: _ :: _, _, h1 => exact h1.elim
  | .d (.tup _) :: _ :: _, _, h1 => exact h1.elim
  | .d (.lst _) :: _ :: _, _, h1 => exact h1.elim
  | .d (.scr _) :: _ :: _, _, h1 => exact h1.elim
  | .d .emp :: _ :: _, _, h1 => exact h1.elim
  | .d (.exc _ _) :: _ :: _, _, h1 => exact h1.elim
  | .d (.o _) :: _ :: _, _, h1 => exact h1.elim
  | .l _ :: _ :: _, _, h1 => exact h1.elim
  | .v _ :: _ :: _, _, h1 => exact h1.elim
  | .m _ :: _ :: _, _, h1 => exact h1.elim
end
end G
namespace G
open PySem L2
/-! ### the law's drawing machine: a dict with cells, at, left -/
structure Mach where
  cells : List Int
  at_ : Nat
  left : List Int
def mkvs (c lf : Addr) (k : Int) : List (Key × V) := [(Sum.inr ("cells" : Str), .ref c), (Sum.inr ("at" : Str), .int k), (Sum.inr ("left" : Str), .ref lf)]
theorem k_ca : ¬ ((Sum.inr ("cells" : Str) : Key) = Sum.inr ("at" : Str)) := by decide +kernel
theorem k_cl : ¬ ((Sum.inr ("cells" : Str) : Key) = Sum.inr ("left" : Str)) := by decide +kernel
theorem k_al : ¬ ((Sum.inr ("at" : Str) : Key) = Sum.inr ("left" : Str)) := by decide +kernel
theorem k_la : ¬ ((Sum.inr ("left" : Str) : Key) = Sum.inr ("at" : Str)) := by decide +kernel
theorem mk_at (c lf : Addr) (k : Int) : valV (mkvs c lf k) (Sum.inr ("at" : Str)) = some (.int k) := by
  unfold mkvs
  rw [valV_neg k_ca, valV_pos rfl]
theorem mk_cells (c lf : Addr) (k : Int) : valV (mkvs c lf k) (Sum.inr ("cells" : Str)) = some (.ref c) := by
  unfold mkvs
  rw [valV_pos rfl]
theorem mk_left (c lf : Addr) (k : Int) : valV (mkvs c lf k) (Sum.inr ("left" : Str)) = some (.ref lf) := by
  unfold mkvs
  rw [valV_neg k_cl, valV_neg k_al, valV_pos rfl]
theorem mk_put (c lf : Addr) (k j : Int) : putK (mkvs c lf k) (Sum.inr ("at" : Str)) (.int j) = mkvs c lf j := by
  unfold putK mkvs
  rw [if_pos (by simp)]
  simp only [List.map_cons, List.map_nil, if_neg k_ca, if_neg k_la, if_true]
theorem freeX {F H : Hp} (s : SameX F H) (t : ∀ a ps, F a = some (.tbl ps) → H a ≠ none) {p : Addr} (h : H p = none) : F p = none := by
  cases q : F p with
  | none => rfl
  | some o =>
    by_cases n : ∃ ps, o = .tbl ps
    · obtain ⟨ps, rfl⟩ := n
      exact (t p ps q h).elim
    · have := s p o q (fun ps e => n ⟨ps, e⟩)
      rw [h] at this
      cases this
theorem tgOn {F H H' : Hp} (t : ∀ a ps, F a = some (.tbl ps) → H a ≠ none) (k : ∀ b o ps, F b = some (.tbl ps) → H b = some o → H' b = some o) : ∀ a ps, F a = some (.tbl ps) → H' a ≠ none := fun a ps e => by
  cases q : H a with
  | none => exact (t a ps e q).elim
  | some o => rw [k a o ps e q]; intro z; cases z
def noMark (F : Hp) : Prop := ∀ a ps, F a ≠ some (.tbl ps)
/-- tables of code objects, all of one name each -/
def TbsOk (T : List (Addr × Str)) (F H : Hp) : Prop := ∀ p ∈ T, ∃ ps : Array Value, H p.1 = some (.tbl ps) ∧ TriplesOk ps.toList ∧ ∀ (pos : Pos) (cv : Value), codeAmong pos ps.toList = some cv → ∃ c, cv = .ref c ∧ F c = some (LamX.CodeO c p.2)
theorem TbsOk.mono {T : List (Addr × Str)} {F F' H H' : Hp} (h : TbsOk T F H) (hF : Same F F') (hH : ∀ p ∈ T, H' p.1 = H p.1) : TbsOk T F' H' := fun p hp => by
  obtain ⟨ps, h1, h2, h3⟩ := h p hp
  refine ⟨ps, (hH p hp).trans h1, h2, fun pos cv e => ?_⟩
  obtain ⟨c, e1, e2⟩ := h3 pos cv e
  exact ⟨c, e1, hF _ _ e2⟩
theorem TbsOk.has {T : List (Addr × Str)} {F H : Hp} (h : TbsOk T F H) {a : Addr} (ha : a ∈ T.map (·.1)) : ∃ ps, H a = some (.tbl ps) := by
  obtain ⟨p, hp, rfl⟩ := List.mem_map.mp ha
  obtain ⟨ps, h1, _⟩ := h p hp
  exact ⟨ps, h1⟩
/-- the machine, and the tables of code objects -/
abbrev MT (T : List (Addr × Str)) : MI where
  T := Mach
  ok := fun _ F H ms t => (T ≠ [] → noMark F) ∧ TbsOk T F H ∧ ∃ m lf c, ms = m :: lf :: T.map (·.1) ∧ m ≠ lf ∧ H m = some (.dK (mkvs c lf t.at_)) ∧ H lf = some (.lst (t.left.map V.int)) ∧ F c = some (.lst (t.cells.map V.int)) ∧ t.left.length = t.cells.length
  mono := fun {K F F' H H' ms t} hF ht hm h => by
    obtain ⟨nm, tb, m, lf, c, rfl, hn, h1, h2, h3, h4⟩ := h
    exact ⟨fun hT a ps e => nm hT a ps (ht a ps e).1, tb.mono hF (fun p hp => hm _ (List.mem_cons_of_mem _ (List.mem_cons_of_mem _ (List.mem_map_of_mem hp)))), m, lf, c, rfl, hn, (hm m (by simp)).trans h1, (hm lf (by simp)).trans h2, hF _ _ h3, h4⟩
abbrev M1 : MI := MT []
def atOf (t : Mach) : Nat := t.at_ % max 1 t.cells.length
def rawNum (c k : Int) : Int := ((c + 7919 * k * k + 31 * k) * 48271 % 2147483647 * 69621 % 2147483629) / 64 * 16807 % 2147483647 / 32
def nextM (t : Mach) (many : Int) : Int × Mach :=
  if t.cells ≠ [] ∧ t.left.getD (atOf t) 0 > 0 then (t.left.getD (atOf t) 0 % many, { t with at_ := t.at_ + 1, left := t.left.set (atOf t) (t.left.getD (atOf t) 0 / many) })
  else (rawNum (if t.cells ≠ [] then t.cells.getD (atOf t) 0 % 2147483647 else 17) t.at_ % many, { t with at_ := t.at_ + 1 })
def drawLim : Nat := 2 ^ 60
def nextS : List S → Mach → Rs S Mach := fun args t => match args with
  | [.m 0, .d (.int many)] => if 0 < many ∧ many < 1073741824 ∧ t.at_ < drawLim then .ok (.d (.int (nextM t many).1)) (nextM t many).2 else .bad
  | _ => .bad
def t_fin : TS :=
  tSeq (tAsg (tOp (rI (fun _ j => 0 < j) fun i j => .int (i % j)) (tOp (rI CMul fun i j => .int (i * j)) (tOp (rI (fun _ j => 0 < j) fun i j => .int (i % j)) (tOp (rI CMul fun i j => .int (i * j)) (tOp (rI0 fun i j => .int (i + j)) (tOp (rI0 fun i j => .int (i + j)) (tVar 6) (tOp (rI CMul fun i j => .int (i * j)) (tOp (rI CMul fun i j => .int (i * j)) (tC (.int 7919)) (tVar 2)) (tVar 2))) (tOp (rI CMul fun i j => .int (i * j)) (tC (.int 31)) (tVar 2))) (tC (.int 48271))) (tC (.int 2147483647))) (tC (.int 69621))) (tC (.int 2147483629))) (gName 7))
  (tRet (tOp (rI (fun _ j => 0 < j) fun i j => .int (i % j)) (tOp (rI CDiv fun i j => .int (i / j)) (tOp (rI (fun _ j => 0 < j) fun i j => .int (i % j)) (tOp (rI CMul fun i j => .int (i * j)) (tOp (rI CDiv fun i j => .int (i / j)) (tVar 7) (tC (.int 64))) (tC (.int 16807))) (tC (.int 2147483647))) (tC (.int 32))) (tVar 1)))
def t_tail (K : PySem.W.Frag) : TS :=
  tSeq (tAsg (tC (.int 17)) (gName 6))
  (tSeq (tIfS (tTest (tOp (rNeD K) (tVar 3) (tLst tNil))) (tAsg (tOp (rI (fun _ j => 0 < j) fun i j => .int (i % j)) (tOp (rIxL K) (tVar 3) (tVar 4)) (tC (.int 2147483647))) (gName 6)) tNext)
  t_fin)
def t_rest (K : PySem.W.Frag) : TS :=
  tSeq (tIfS (tAnd (tTest (tOp (rNeD K) (tVar 3) (tLst tNil))) (tTest (tOp (rI0 fun i j => .bl (decide (j < i))) (tOp (rIxL K) (tDGet (tVar 0) (tC (.str "left"))) (tVar 4)) (tC (.int 0)))))
      (tSeq (tAsg (tOp (rI (fun _ j => 0 < j) fun i j => .int (i % j)) (tOp (rIxL K) (tDGet (tVar 0) (tC (.str "left"))) (tVar 4)) (tVar 1)) (gName 5))
      (tSeq (tAsg (tOp (rI CDiv fun i j => .int (i / j)) (tOp (rIxL K) (tDGet (tVar 0) (tC (.str "left"))) (tVar 4)) (tVar 1)) (gSub (tDGet (tVar 0) (tC (.str "left"))) (tVar 4) rSetL))
      (tRet (tVar 5)))) tNext)
  (t_tail K)
def t_next (K : PySem.W.Frag) : TS :=
  tSeq (tAsg (tDGet (tVar 0) (tC (.str "at"))) (gName 2))
  (tSeq (sDPut (tVar 0) (tC (.str "at")) (tOp (rI0 fun i j => .int (i + j)) (tVar 2) (tC (.int 1))))
  (tSeq (tAsg (tDGet (tVar 0) (tC (.str "cells"))) (gName 3))
  (tSeq (tAsg (tOp (rI (fun _ j => 0 < j) fun i j => .int (i % j)) (tVar 2) (tCB (fun xs H Q => ∃ i j, xs = [.int i, .int j] ∧ Q (.int (if j > i then j else i)) H) (tCons (tC (.int 1)) (tCons (tCB (fun xs H Q => ∃ p ys, xs = [.ref p] ∧ (SqL K H p ys ∨ SqT K H p ys) ∧ Q (.int ys.length) H) (tCons (tVar 3) tNil)) tNil)))) (gName 4))
  (t_rest K))))
def nextN : List Str := ["_law_m", "_law_many", "_law_k", "_law_cells", "_law_at", "_law_found", "_law_cell", "_law_number"]
theorem eqvAll_ints : ∀ ns : List Int, PyData.eqvAll (ns.map PyData.int) [] = ns.isEmpty
  | [] => by rw [List.map_nil, PyData.eqvAll]; rfl
  | n :: r => by rw [List.map_cons, PyData.eqvAll]; rfl
theorem eqv_ints (ns : List Int) : PyData.eqv (.list (ns.map PyData.int)) (.list []) = ns.isEmpty := by
  rw [PyData.eqv]
  exact eqvAll_ints ns
theorem shaped_nil : SeqAt.shaped (.list []) = true := by decide +kernel
theorem shaped_ints (ns : List Int) : SeqAt.shaped (.list (ns.map PyData.int)) = true := by
  have a : ∀ ns : List Int, PyData.canLayAll0 (ns.map PyData.int) = true := fun ns => by
    induction ns with
    | nil => rfl
    | cons n r ih =>
      rw [List.map_cons, PyData.canLayAll0, ih, PyData.canLay0]
      rfl
  have b : ∀ ns : List Int, PyData.depthAll (ns.map PyData.int) ≤ 2 := fun ns => by
    induction ns with
    | nil => simp [PyData.depthAll]
    | cons n r ih =>
      rw [List.map_cons, PyData.depthAll, PyData.depth]
      omega
  unfold SeqAt.shaped
  rw [PyData.canLay0, a, PyData.depth]
  have := b ns
  simp
  omega
theorem max1 (n : Nat) : (if ((n : Nat) : Int) > 1 then ((n : Nat) : Int) else 1) = ((max 1 n : Nat) : Int) := by
  split <;> omega
theorem atOf_lt {t : Mach} (h : t.cells ≠ []) : atOf t < t.cells.length := by
  have : 0 < t.cells.length := List.length_pos_iff.mpr h
  unfold atOf
  have := Nat.mod_lt t.at_ (show 0 < max 1 t.cells.length by omega)
  omega
theorem getI {ns : List Int} {i : Nat} (h : i < ns.length) : atI (ns.map V.int) ((i : Nat) : Int) = some (.int (ns.getD i 0)) := by
  refine atI_nat ?_
  rw [List.getElem?_map, List.getElem?_eq_getElem h, List.getD_eq_getElem?_getD, List.getElem?_eq_getElem h]
  rfl
theorem set_ints (ns : List Int) (i : Nat) (n : Int) : (ns.map V.int).set i (.int n) = (ns.set i n).map V.int := (List.map_set).symm
theorem ce_ne {H : Hp} {a b : Addr} {o u : HO} (h : H a = some o) (h' : H b = some u) (d : o ≠ u) : a ≠ b := ne_of h h' d
theorem run_fin {D : Ends} {many k cv : Int} {a0 a3 a4 a5 : Option V} {H : Hp} (hp : 0 < many) (h0 : 0 ≤ k) (hk : k < 2 ^ 60) (h : D.rt (.int (rawNum cv k % many)) H) : t_fin D [a0, some (.int many), some (.int k), a3, a4, a5, some (.int cv), none] H := by
  refine ⟨_, rfl, _, rfl, _, _, rfl, rfl, .inl ⟨by decide, by decide⟩, _, rfl, _, k, rfl, rfl, .inr ⟨by omega, by omega⟩, _, _, rfl, rfl, _, rfl, _, _, rfl, rfl, .inl ⟨by decide, by decide⟩, _, _, rfl, rfl, _, _, rfl, rfl, .inr ⟨by decide, by decide⟩, _, _, rfl, rfl, (by show (0 : Int) < 2147483647; decide), _, _, rfl, rfl, .inr ⟨by decide, by decide⟩, _, _, rfl, rfl, (by show (0 : Int) < 2147483629; decide), ?_⟩
  refine ⟨_, rfl, _, _, rfl, rfl, ⟨by decide, by decide⟩, _, _, rfl, rfl, .inr ⟨by decide, by decide⟩, _, _, rfl, rfl, (by show (0 : Int) < 2147483647; decide), _, _, rfl, rfl, ⟨by decide, by decide⟩, _, rfl, _, _, rfl, rfl, hp, ?_⟩
  exact h
theorem ne_nil_ints (K : PySem.W.Frag) {H : Hp} {c p : Addr} {ns : List Int} {Q : VK} (hc : H c = some (.lst (ns.map V.int))) (hp : H p = some (.lst [])) (q : Q (.bl (!ns.isEmpty)) H) : rNeD K (.ref c) (.ref p) H Q := by
  refine ⟨.list (ns.map PyData.int), .list [], .lst (SqL.of hc) (dp_ints _), .lst (SqL.of hp) .nil, shaped_ints _, shaped_nil, ?_⟩
  rw [eqv_ints]
  exact q
theorem run_tail {K : PySem.W.Frag} {D : Ends} {many k : Int} {c : Addr} {ns : List Int} {a : Nat} {a0 a5 : Option V} {H : Hp} (hp : 0 < many) (h0 : 0 ≤ k) (hk : k < 2 ^ 60) (hc : H c = some (.lst (ns.map V.int))) (ha : ns ≠ [] → a < ns.length)
    (h : ∀ p, H p = none → D.rt (.int (rawNum (if ns ≠ [] then ns.getD a 0 % 2147483647 else 17) k % many)) (upd H p (.lst []))) : t_tail K D [a0, some (.int many), some (.int k), some (.ref c), some (.int ((a : Nat) : Int)), a5, none, none] H := by
  refine ⟨_, rfl, Nat.zero_le _, fun p hpn => ?_⟩
  have hc2 : (upd H p (.lst [])) c = some (.lst (ns.map V.int)) := by rw [upd_ne (ne_of_none hc hpn)]; exact hc
  have h' := h p hpn
  refine ne_nil_ints K hc2 upd_same ⟨_, rfl, ?_⟩
  cases ns with
  | nil =>
    refine iteF ?_
    exact run_fin hp h0 hk h'
  | cons n r =>
    refine iteT ?_
    refine ⟨_, rfl, _, rfl, c, _, _, _, rfl, rfl, SqL.of hc2, getI (ha (by intro e; cases e)), _, _, rfl, rfl, (by show (0 : Int) < 2147483647; decide), ?_⟩
    exact run_fin hp h0 hk h'
theorem nextS_inv {args : List S} {t : Mach} (h : nextS args t ≠ .bad) : ∃ many, args = [.m 0, .d (.int many)] ∧ 0 < many ∧ many < 1073741824 ∧ t.at_ < drawLim ∧ nextS args t = .ok (.d (.int (nextM t many).1)) (nextM t many).2 := by
  unfold nextS at h ⊢
  split at h
  · rename_i many
    by_cases hc : 0 < many ∧ many < 1073741824 ∧ t.at_ < drawLim
    · exact ⟨many, rfl, hc.1, hc.2.1, hc.2.2, if_pos hc⟩
    · rw [if_neg hc] at h; exact (h rfl).elim
  · exact (h rfl).elim
theorem run_next {T : List (Addr × Str)} {K : PySem.W.Frag} {xr : Str → Option Value} {vs : List V} {H : Hp} {Q : VK} {E : XK} (h : spM (MT T) K xr 2 nextS vs H Q E) : t_next K { nx := fun _ H' => Q .non H', rt := Q } (L2.start nextN vs) H := by
  obtain ⟨hl, ms, F, args, t, sub, mach, msx, tgx, hv, h⟩ := h
  obtain ⟨nmk, tb, m, lf, c, rfl, hne, h1, h2, h3, h4⟩ := mach
  have hTm : ∀ a ∈ T.map (·.1), a ≠ m ∧ a ≠ lf := fun a ha => by
    obtain ⟨ps, e⟩ := tb.has ha
    exact ⟨fun z => by (rw [z, h1] at e; cases e), fun z => by (rw [z, h2] at e; cases e)⟩
  have hb : nextS args t ≠ .bad := fun e => by rw [e] at h; exact h
  obtain ⟨many, rfl, hp, hq, hd, en⟩ := nextS_inv hb
  rw [en] at h
  obtain ⟨v0, v1, rfl, ra, rb⟩ : ∃ v0 v1, vs = [v0, v1] ∧ AV K F (m :: lf :: T.map (·.1)) v0 (.m 0) ∧ AV K F (m :: lf :: T.map (·.1)) v1 (.d (.int many)) := by
    cases hv with
    | cons a b => cases b with
      | cons b c => cases c; exact ⟨_, _, rfl, a, b⟩
  obtain ⟨m', hm', rfl⟩ := ra
  have em : m = m' := Option.some.inj hm'
  subst em
  cases (show Da K F v1 (.int many) from rb)
  have hcH : H c = some (.lst (t.cells.map V.int)) := sub.lst h3
  have hmF : F m = none := (msx m (by simp)).1
  have hlF : F lf = none := (msx lf (by simp)).1
  have ncm : c ≠ m := fun e => by rw [e, hmF] at h3; cases h3
  have ncl : c ≠ lf := fun e => by rw [e, hlF] at h3; cases h3
  -- k = m['at']; m['at'] = k + 1
  refine ⟨.ref m, rfl, m, .int (t.at_ : Int), rfl, by rw [← mk_at c lf]; exact DGet.k (k := Sum.inr ("at" : Str)) h1, ?_⟩
  have dp := DPut.k (k := Sum.inr ("at" : Str)) (v := .int ((t.at_ : Int) + 1)) h1 (small1000 (by show 3 ≤ 1000; decide))
  rw [mk_put] at dp
  refine ⟨.int (t.at_ : Int), rfl, (t.at_ : Int), 1, rfl, rfl, .ref m, rfl, m, _, rfl, dp, ?_⟩
  generalize hH1 : upd H m (.dK (mkvs c lf ((t.at_ : Int) + 1))) = H1
  have e1 : H1 m = some (.dK (mkvs c lf ((t.at_ : Int) + 1))) := by rw [← hH1]; exact upd_same
  have e2 : H1 lf = some (.lst (t.left.map V.int)) := by rw [← hH1, upd_ne hne.symm]; exact h2
  have e3 : H1 c = some (.lst (t.cells.map V.int)) := by rw [← hH1, upd_ne ncm]; exact hcH
  have s1 : SameX F H1 := by rw [← hH1]; exact same_updR sub hmF
  have fr1 : ∀ b o, H b = some o → b ≠ m → H1 b = some o := fun b o e n => by
    rw [← hH1, upd_ne n]
    exact e
  have tg1 : ∀ a ps, F a = some (.tbl ps) → H1 a ≠ none := tgOn tgx (fun b o ps e1 e2 => fr1 b o e2 (fun q => by rw [q, hmF] at e1; cases e1))
  -- cells = m['cells']; at = k % max(1, len(cells))
  refine ⟨.ref m, rfl, m, .ref c, rfl, by rw [← mk_cells c lf]; exact DGet.k (k := Sum.inr ("cells" : Str)) e1, ?_⟩
  refine ⟨.int (t.at_ : Int), rfl, .ref c, rfl, c, _, rfl, .inl (SqL.of e3), 1, _, rfl, (t.at_ : Int), _, rfl, rfl, ?_, ?_⟩
  · split <;> omega
  have ea : (t.at_ : Int) % (if (((t.cells.map V.int).length : Nat) : Int) > 1 then (((t.cells.map V.int).length : Nat) : Int) else 1) = ((atOf t : Nat) : Int) := by
    rw [max1, List.length_map]
    exact (Int.natCast_emod _ _).symm
  show t_rest K _ [some (.ref m), some (.int many), some (.int (t.at_ : Int)), some (.ref c), some (.int ((t.at_ : Int) % (if (((t.cells.map V.int).length : Nat) : Int) > 1 then (((t.cells.map V.int).length : Nat) : Int) else 1))), none, none, none] H1
  rw [ea]
  have dpc : ∀ {G : Hp}, G c = some (.lst (t.cells.map V.int)) → Dp K G (.ref c) (.list (t.cells.map PyData.int)) := fun e => .lst (SqL.of e) (dp_ints _)
  have tail : t.cells ≠ [] ∧ t.left.getD (atOf t) 0 > 0 → False → False := fun _ z => z
  -- the way out of the first if
  have rest2 : ∀ H2 : Hp, SameX F H2 → H2 m = H1 m → H2 lf = H1 lf → H2 c = some (.lst (t.cells.map V.int)) → (∀ b o, H1 b = some o → H2 b = some o) → ¬ (t.cells ≠ [] ∧ t.left.getD (atOf t) 0 > 0) →
      Q (.int (nextM t many).1) H2 := fun H2 g1 g2 g3 g4 g5 hn => by
    have en : nextM t many = (rawNum (if t.cells ≠ [] then t.cells.getD (atOf t) 0 % 2147483647 else 17) t.at_ % many, { t with at_ := t.at_ + 1 }) := if_neg hn
    refine h _ H2 F (Same.refl _) ⟨g1, ⟨nmk, tb.mono (Same.refl _) (fun p hp => ?_), m, lf, c, rfl, hne, ?_, ?_, ?_, ?_⟩, fun a ha => ?_, fun b o e n _ => ⟨g5 _ _ (fr1 b o e (fun z => n (by rw [z]; simp))), rfl⟩, fun a ps e => ⟨tgOn tg1 (fun b o _ _ q => g5 b o q) a ps e, .inl e⟩⟩ (Da.int _)
    · obtain ⟨ps, e⟩ := tb.has (List.mem_map_of_mem (f := (·.1)) hp)
      exact (g5 _ _ (fr1 _ _ e (hTm _ (List.mem_map_of_mem (f := (·.1)) hp)).1)).trans e.symm
    · rw [g2, e1, en]
      rfl
    · rw [g3, e2, en]
    · rw [en]; exact h3
    · rw [en]; exact h4
    · refine ⟨(msx a ha).1, fun z => ?_⟩
      rcases List.mem_cons.mp ha with rfl | ha
      · rw [g2, e1] at z; cases z
      · rcases List.mem_cons.mp ha with ea2 | ha
        · rw [ea2, g3, e2] at z; cases z
        · obtain ⟨ps, e⟩ := tb.has ha
          rw [g5 _ _ (fr1 _ _ e (hTm _ ha).1)] at z; cases z
  have hk0 : (0 : Int) ≤ (t.at_ : Int) := Int.natCast_nonneg _
  have hk : (t.at_ : Int) < 2 ^ 60 := by
    have : t.at_ < 2 ^ 60 := hd
    omega
  have hal : t.cells ≠ [] → atOf t < t.cells.length := atOf_lt
  -- if cells != [] and m['left'][at] > 0
  refine ⟨_, rfl, Nat.zero_le _, fun p hpn => ?_⟩
  have nmp : m ≠ p := ne_of_none e1 hpn
  have nlp : lf ≠ p := ne_of_none e2 hpn
  have ncp : c ≠ p := ne_of_none e3 hpn
  have f1 : (upd H1 p (.lst [])) m = some (.dK (mkvs c lf ((t.at_ : Int) + 1))) := (upd_ne nmp).trans e1
  have f2 : (upd H1 p (.lst [])) lf = some (.lst (t.left.map V.int)) := (upd_ne nlp).trans e2
  have f3 : (upd H1 p (.lst [])) c = some (.lst (t.cells.map V.int)) := (upd_ne ncp).trans e3
  have f4 : SameX F (upd H1 p (.lst [])) := same_updR s1 (freeX s1 tg1 hpn)
  have tg2 : ∀ a ps, F a = some (.tbl ps) → (upd H1 p (.lst [])) a ≠ none := tgOn tg1 (fun b o _ _ q => (upd_ne (ne_of_none q hpn)).trans q)
  have f5 : ∀ b o, H1 b = some o → (upd H1 p (.lst [])) b = some o := fun b o e => (upd_ne (ne_of_none e hpn)).trans e
  have final : ¬ (t.cells ≠ [] ∧ t.left.getD (atOf t) 0 > 0) → ∀ q, (upd H1 p (.lst [])) q = none → Q (.int (rawNum (if t.cells ≠ [] then t.cells.getD (atOf t) 0 % 2147483647 else 17) t.at_ % many)) (upd (upd H1 p (.lst [])) q (.lst [])) := fun hn q hqn => by
    have en : nextM t many = (rawNum (if t.cells ≠ [] then t.cells.getD (atOf t) 0 % 2147483647 else 17) t.at_ % many, { t with at_ := t.at_ + 1 }) := if_neg hn
    have z := rest2 (upd (upd H1 p (.lst [])) q (.lst [])) (same_updR f4 (freeX f4 tg2 hqn)) ((upd_ne (ne_of_none f1 hqn)).trans (f1.trans e1.symm)) ((upd_ne (ne_of_none f2 hqn)).trans (f2.trans e2.symm)) ((upd_ne (ne_of_none f3 hqn)).trans f3)
      (fun b o e => (upd_ne (ne_of_none (f5 b o e) hqn)).trans (f5 b o e)) hn
    rw [en] at z
    exact z
  refine ne_nil_ints K f3 upd_same ⟨_, rfl, ?_⟩
  by_cases hcs : t.cells = []
  · have eb : (!t.cells.isEmpty) = false := by rw [hcs]; rfl
    rw [eb]
    refine iteF ?_
    refine iteF ?_
    exact run_tail hp hk0 hk f3 hal (final (fun z => z.1 hcs))
  · have eb : (!t.cells.isEmpty) = true := by
      cases q : t.cells with
      | nil => exact (hcs q).elim
      | cons _ _ => rfl
    rw [eb]
    refine iteT ?_
    have hla : atOf t < t.left.length := by rw [h4]; exact hal hcs
    have gl : ∀ {G : Hp}, G m = some (.dK (mkvs c lf ((t.at_ : Int) + 1))) → DGet G m (.str "left") (some (.ref lf)) := fun e => by
      rw [← mk_left c lf ((t.at_ : Int) + 1)]
      exact DGet.k (k := Sum.inr ("left" : Str)) e
    refine ⟨_, rfl, m, _, rfl, gl f1, _, rfl, lf, _, _, _, rfl, rfl, SqL.of f2, getI hla, _, _, rfl, rfl, _, rfl, ?_⟩
    refine ite2 (fun hgt => ?_) (fun hgt => ?_)
    · have hg : t.left.getD (atOf t) 0 > 0 := of_decide_eq_true hgt
      have en : nextM t many = (t.left.getD (atOf t) 0 % many, { t with at_ := t.at_ + 1, left := t.left.set (atOf t) (t.left.getD (atOf t) 0 / many) }) := if_pos ⟨hcs, hg⟩
      refine ⟨_, rfl, m, _, rfl, gl f1, _, rfl, lf, _, _, _, rfl, rfl, SqL.of f2, getI hla, _, rfl, _, _, rfl, rfl, hp, ?_⟩
      refine ⟨_, rfl, m, _, rfl, gl f1, _, rfl, lf, _, _, _, rfl, rfl, SqL.of f2, getI hla, _, rfl, _, _, rfl, rfl, ⟨hp, hq⟩, ?_⟩
      refine ⟨_, rfl, m, _, rfl, gl f1, _, rfl, lf, _, _, atOf t, rfl, rfl, f2, ?_, ?_⟩
      · unfold ixN
        rw [List.length_map, if_pos (by omega), if_pos (by omega), Int.toNat_natCast]
      · refine ⟨_, rfl, ?_⟩
        rw [set_ints]
        have z := h (.int (t.left.getD (atOf t) 0 % many)) (upd (upd H1 p (.lst [])) lf (.lst ((t.left.set (atOf t) (t.left.getD (atOf t) 0 / many)).map V.int))) F (Same.refl _)
        rw [en] at z
        refine z ⟨same_updR f4 hlF, ⟨nmk, tb.mono (Same.refl _) (fun p hp => ?_), m, lf, c, rfl, hne, (upd_ne hne).trans f1, upd_same, h3, by simp [h4]⟩, fun a ha => ⟨(msx a ha).1, fun y => ?_⟩, fun b o e n _ => ⟨?_, rfl⟩, fun a ps e => ⟨tgOn tg2 (fun b o ps2 e1 q => (upd_ne (fun y => by rw [y, hlF] at e1; cases e1)).trans q) a ps e, .inl e⟩⟩ (Da.int _)
        · have hp' := List.mem_map_of_mem (f := (·.1)) hp
          obtain ⟨ps, e⟩ := tb.has hp'
          exact (upd_ne (hTm _ hp').2).trans ((f5 _ _ (fr1 _ _ e (hTm _ hp').1)).trans e.symm)
        · rcases List.mem_cons.mp ha with rfl | ha
          · rw [upd_ne hne, f1] at y; cases y
          · rcases List.mem_cons.mp ha with ea2 | ha
            · rw [ea2, upd_same] at y; cases y
            · obtain ⟨ps, e⟩ := tb.has ha
              rw [upd_ne (hTm _ ha).2, f5 _ _ (fr1 _ _ e (hTm _ ha).1)] at y; cases y
        · rw [upd_ne (fun y => n (by rw [y]; simp))]
          exact f5 _ _ (fr1 b o e (fun z => n (by rw [z]; simp)))
    · have hg : ¬ t.left.getD (atOf t) 0 > 0 := fun z => hgt (decide_eq_true z)
      exact run_tail hp hk0 hk f3 hal (final (fun z => hg z.2))
end G
namespace G
open PySem L2
/-! ### _law_begun -/
def leftF (c : Int) : Int := c * (if decide ((10 : Int) ^ 18 ≤ c) then 1 else 0)
def leftOf (ns : List Int) : List Int := ns.map leftF
def t_begun (K : PySem.W.Frag) : TS :=
  tSeq (tAsg (tSl (rSlL K) (tVar 0) tNoPart (tPart (tC (.int 63)))) (gName 1))
  (tRet (tDisp [(tC (.str "cells"), tVar 1), (tC (.str "at"), tC (.int 0)), (tC (.str "left"), tLc (iList K (tVar 1)) (gName 2) tYes
    (tOp (rI CMul fun i j => .int (i * j)) (tVar 2) (tCB rInt1 (tCons (tOp (rI0 fun i j => .bl (decide (j ≤ i))) (tVar 2) (tOp (rI CPow fun i j => .int (i ^ j.toNat)) (tC (.int 10)) (tC (.int 18)))) tNil))) [2])]))
def begunN : List Str := ["_law_script", "_law_cells", "_law_cell"]
def spBegun (K : PySem.W.Frag) : Sp := fun vs H Q _ => ∃ (a : Addr) (ns : List Int), vs = [.ref a] ∧ SqL K H a (ns.map V.int) ∧ ns.length ≤ 63 ∧
  ∀ H' m c lf, Same H H' → H m = none → H c = none → H lf = none → m ≠ lf → m ≠ c → c ≠ lf → H' m = some (.dK (mkvs c lf 0)) → H' lf = some (.lst ((leftOf ns).map V.int)) → H' c = some (.lst (ns.map V.int)) → Q (.ref m) H'
theorem cut63 {ns : List Int} (h : ns.length ≤ 63) : cutV (ns.map V.int) none (some 63) = ns.map V.int := by
  unfold cutV
  rw [HT.sIx_none, show HT.sIx (ns.map V.int).length (ns.map V.int).length (some 63) = min 63 (ns.map V.int).length from HT.sIx_nat _ _ 63, List.drop_zero, Nat.sub_zero]
  refine List.take_of_length_le ?_
  rw [List.length_map]
  omega
theorem merge3 (c lf : Addr) : mergeK [] [((Sum.inr ("cells" : Str) : Key), V.ref c), (Sum.inr ("at" : Str), V.int 0), (Sum.inr ("left" : Str), V.ref lf)] = mkvs c lf 0 := by
  show putK (putK (putK [] (Sum.inr ("cells" : Str) : Key) (V.ref c)) (Sum.inr ("at" : Str)) (V.int 0)) (Sum.inr ("left" : Str)) (V.ref lf) = mkvs c lf 0
  rw [putK_new (kvs := []) _ rfl, putK_new (k := (Sum.inr ("at" : Str) : Key)) _ (by rw [List.nil_append, valV_neg k_ca]; rfl), putK_new (k := (Sum.inr ("left" : Str) : Key)) _ (by
    rw [List.nil_append]
    show valV [((Sum.inr ("cells" : Str) : Key), V.ref c), (Sum.inr ("at" : Str), V.int 0)] _ = none
    rw [valV_neg k_cl, valV_neg k_al]
    rfl)]
  rfl
theorem run_begun {K : PySem.W.Frag} {vs : List V} {H : Hp} {Q : VK} {E : XK} (h : spBegun K vs H Q E) : t_begun K { nx := fun _ H' => Q .non H', rt := Q } (L2.start begunN vs) H := by
  obtain ⟨a, ns, rfl, hs, hl, h⟩ := h
  refine ⟨_, rfl, 63, rfl, a, _, rfl, hs, fun c hc => ?_⟩
  rw [cut63 hl]
  have s1 : Same H (upd H c (.lst (ns.map V.int))) := same_upd hc
  intro m hm
  have ncm : c ≠ m := fun e => by rw [e, upd_same] at hm; cases hm
  have hmH : H m = none := by rw [upd_ne ncm.symm] at hm; exact hm
  refine ⟨_, rfl, _, rfl, c, rfl, ⟨_, SqL.of ((upd_ne ncm).trans upd_same)⟩, fun lf hlf => ?_⟩
  have nlm : lf ≠ m := fun e => by rw [e, upd_same] at hlf; cases hlf
  have nlc : lf ≠ c := fun e => by rw [e, upd_ne ncm, upd_same] at hlf; cases hlf
  have hlH : H lf = none := by rw [upd_ne nlm, upd_ne nlc] at hlf; exact hlf
  refine lc_list (K := K) (a := c) (xs := ns.map V.int) (fun i H' => H' = upd (upd (upd H c (.lst (ns.map V.int))) m (.dK [])) lf (.lst ((leftOf (ns.take i)).map V.int))) rfl (fun i H' _ e => by
      rw [e]
      exact SqL.of ((upd_ne nlc.symm).trans ((upd_ne ncm).trans upd_same))) ?_ ?_
  · rintro i x H' hi rfl
    obtain ⟨z, hz, rfl⟩ : ∃ z, ns[i]? = some z ∧ x = .int z := by
      rw [List.getElem?_map] at hi
      cases e : ns[i]? with
      | none => rw [e] at hi; cases hi
      | some z => rw [e] at hi; cases hi; exact ⟨z, rfl, rfl⟩
    refine ⟨rfl, ?_⟩
    simp only [tYes, if_true]
    refine ⟨_, rfl, _, rfl, _, _, rfl, rfl, ⟨by decide, by decide, by decide⟩, _, _, rfl, rfl, ?_⟩
    refine .inr ⟨_, rfl, _, _, rfl, rfl, .inr ?_, ?_⟩
    · split <;> exact ⟨by decide, by decide⟩
    · refine ⟨_, upd_same, ?_, ?_⟩
      · rw [List.length_map]
        unfold leftOf
        rw [List.length_map, List.length_take]
        exact small1000 (by omega)
      · rw [upd_upd]
        have hil : i < ns.length := (List.getElem?_eq_some_iff.mp hz).1
        have ez : ns[i] = z := (List.getElem?_eq_some_iff.mp hz).2
        rw [List.take_succ_eq_append_getElem hil, ez]
        unfold leftOf
        rw [List.map_append, List.map_append]
        rfl
  · rintro H' rfl
    rw [List.length_map, List.take_length]
    refine ⟨(upd_ne nlm.symm).trans upd_same, [((Sum.inr ("cells" : Str) : Key), V.ref c), (Sum.inr ("at" : Str), V.int 0), (Sum.inr ("left" : Str), V.ref lf)], rfl, (by show 3 ≤ 15; decide), ?_⟩
    rw [merge3]
    refine h _ m c lf (fun b o e => ?_) hmH hc hlH nlm.symm ncm.symm nlc.symm upd_same ?_ ?_
    · rw [upd_ne (ne_of_none e hmH), upd_ne (ne_of_none e hlH), upd_ne (ne_of_none e hmH), upd_ne (ne_of_none e hc)]
      exact e
    · rw [upd_ne nlm, upd_same]
    · rw [upd_ne ncm, upd_ne nlc.symm, upd_ne ncm, upd_same]
/-! ### law: the machine made, then the mirror -/
def spLaw (K : PySem.W.Frag) : Sp := fun vs H Q _ => ∃ (a : Addr) (ns : List Int), vs = [.ref a] ∧ SqL K H a (ns.map V.int) ∧ ns.length ≤ 63 ∧ (∀ z ∈ ns, Builtin.Int.intBits z ≤ 1048576) ∧ ∀ H', Q (.bl true) H'
def z0 (n : Nat) (ns : List Int) : Z Mach := { rho := some (.d (.scr ns)) :: some (.m 0) :: List.replicate n none, m := ⟨ns, 0, leftOf ns⟩ }
theorem law_runT {T : List (Addr × Str)} {K : PySem.W.Frag} {xr : Str → Option Value} {E : XK} {N : List Str} {t : TS} {f : Sm (MT T) Out} {vs : List V} {H : Hp} {Q : VK} (hN : 2 ≤ N.length) (hf : ∀ ns : List Int, ns.length ≤ 63 → (∀ z ∈ ns, Builtin.Int.intBits z ≤ 1048576) → ∃ z', f (z0 (N.length - 2) ns) = .ok (.rt (.d (.bl true))) z')
    (c : SR (MT T) K xr (fun cls d _ H => E cls d H) t f) (hT : ∀ p ∈ T, H p.1 = some (.tbl #[])) (h : spLaw K vs H Q E) : tSeq (tAsg (tCallS (spBegun K) (WE fun cls d _ H => E cls d H) (tCons (tVar 0) tNil)) (gName 1)) t { nx := fun _ H' => Q .non H', rt := Q } (L2.start N vs) H := by
  obtain ⟨a, ns, rfl, hs, hl, hbits, hq⟩ := h
  obtain ⟨z', hz⟩ := hf ns hl hbits
  have st : L2.start N [.ref a] = some (.ref a) :: List.replicate (N.length - 1) none := rfl
  rw [st]
  refine ⟨_, rfl, a, ns, rfl, hs, hl, fun H' m cc lf sm hm hc hlf n1 n2 n3 e1 e2 e3 => ?_⟩
  have es : (some (V.ref a) :: List.replicate (N.length - 1) none).set 1 (some (.ref m)) = some (V.ref a) :: some (.ref m) :: List.replicate (N.length - 2) none := by
    obtain ⟨k, hk⟩ : ∃ k, N.length = k + 2 := ⟨N.length - 2, by omega⟩
    rw [hk]
    rfl
  show t _ ((some (V.ref a) :: List.replicate (N.length - 1) none).set 1 (some (.ref m))) H'
  rw [es]
  let F : Hp := fun b => if b = cc then some (.lst (ns.map V.int)) else if b = a then noT H a else none
  have Fm : F m = none := by
    show (if m = cc then _ else if m = a then noT H a else none) = none
    rw [if_neg n2]
    by_cases e : m = a
    · rw [if_pos e, ← e]; unfold noT; rw [hm]
    · rw [if_neg e]
  have Fl : F lf = none := by
    show (if lf = cc then _ else if lf = a then noT H a else none) = none
    rw [if_neg n3.symm]
    by_cases e : lf = a
    · rw [if_pos e, ← e]; unfold noT; rw [hlf]
    · rw [if_neg e]
  have Fc : F cc = some (.lst (ns.map V.int)) := if_pos rfl
  have sF : Same F H' := fun b o q => by
    have q' : (if b = cc then some (HO.lst (ns.map V.int)) else if b = a then noT H a else none) = some o := q
    by_cases e : b = cc
    · rw [if_pos e] at q'; rw [e, e3]; exact q'
    · rw [if_neg e] at q'
      by_cases e' : b = a
      · rw [if_pos e'] at q'; rw [e']; exact sm a o (noT_of q').1
      · rw [if_neg e'] at q'; cases q'
  have hsF : SqL K F a (ns.map V.int) := by
    have Fa : ∀ o, H a = some o → (∀ ps, o ≠ .tbl ps) → F a = some o := fun o q nt => by
      have n : a ≠ cc := ne_of_none q hc
      show (if a = cc then _ else if a = a then noT H a else none) = some o
      rw [if_neg n, if_pos rfl]
      exact noT_at q nt
    rcases hs with (q | ⟨o, q⟩) | q
    · exact .inl (.inl (Fa _ q lstNT))
    · exact .inl (.inr ⟨o, Fa _ q (fun _ e => by cases e)⟩)
    · exact .inr q
  have key : ∀ (i : Nat) (s : S), (z0 (N.length - 2) ns).rho[i]? = some (some s) → (i = 0 ∧ s = .d (.scr ns)) ∨ (i = 1 ∧ s = .m 0) := fun i s e => by
    have e' : (some (S.d (.scr ns)) :: some (S.m 0) :: List.replicate (N.length - 2) none)[i]? = some (some s) := e
    match i, e' with
    | 0, e' => cases e'; exact .inl ⟨rfl, rfl⟩
    | 1, e' => cases e'; exact .inr ⟨rfl, rfl⟩
    | i + 2, e' =>
      rw [List.getElem?_cons_succ, List.getElem?_cons_succ, List.getElem?_replicate] at e'
      split at e' <;> cases e'
  have nmF : noMark F := fun b ps q => by
    have q' : (if b = cc then some (HO.lst (ns.map V.int)) else if b = a then noT H a else none) = some (.tbl ps) := q
    by_cases e : b = cc
    · rw [if_pos e] at q'; cases q'
    · rw [if_neg e] at q'
      by_cases e' : b = a
      · rw [if_pos e'] at q'; exact (noT_of q').2 ps rfl
      · rw [if_neg e'] at q'; cases q'
  have tbH : TbsOk T F H' := fun p hp => ⟨#[], sm _ _ (hT p hp), True.intro, fun pos cv hcv => by
    have z : codeAmong pos [] = some cv := hcv
    simp [codeAmong] at z⟩
  have tbN : ∀ b ∈ T.map (·.1), F b = none ∧ H' b ≠ none := fun b hb => by
    obtain ⟨p, hp, rfl⟩ := List.mem_map.mp hb
    have hP := hT p hp
    have n1 : p.1 ≠ cc := ne_of_none hP hc
    refine ⟨?_, by rw [sm _ _ hP]; intro z; cases z⟩
    show (if p.1 = cc then some (HO.lst (ns.map V.int)) else if p.1 = a then noT H a else none) = none
    rw [if_neg n1]
    by_cases e' : p.1 = a
    · rw [if_pos e', ← e']; unfold noT; rw [hP]
    · rw [if_neg e']
  refine c ⟨K, xr, m :: lf :: T.map (·.1), fun _ => none, F⟩ _ H' F (z0 (N.length - 2) ns) _ rfl rfl ⟨samX sF, ?_, fun i s e => ?_, fun i j xs ys v q1 _ _ _ => ?_, ⟨fun _ => nmF, tbH, m, lf, cc, rfl, n1, e1, e2, Fc, by simp [z0, leftOf]⟩, fun b hb => ?_, fun _ _ => rfl, fun b hb => ?_, fun b o q => (by cases q), fun b ps e => ⟨(by rw [sF b _ e]; intro z; cases z), rfl⟩⟩ ?_
  · simp [z0]
  · rcases key i s e with ⟨rfl, rfl⟩ | ⟨rfl, rfl⟩
    · exact ⟨_, rfl, Da.scr hsF⟩
    · exact ⟨_, rfl, m, rfl, rfl⟩
  · rcases key i _ q1 with ⟨_, q⟩ | ⟨_, q⟩ <;> cases q
  · rcases List.mem_cons.mp hb with rfl | hb
    · exact Fm
    · rcases List.mem_cons.mp hb with e | hb
      · rw [e]; exact Fl
      · exact (tbN b hb).1
  · rcases List.mem_cons.mp hb with rfl | hb
    · intro z; rw [e1] at z; cases z
    · rcases List.mem_cons.mp hb with e | hb
      · rw [e]
        intro z; rw [e2] at z; cases z
      · exact (tbN b hb).2
  · rw [hz]
    intro v H2 F2 s2 r
    cases (show Da K F2 v (.bl true) from r.val)
    exact hq H2
theorem law_run {K : PySem.W.Frag} {xr : Str → Option Value} {E : XK} {N : List Str} {t : TS} {f : Sm M1 Out} {vs : List V} {H : Hp} {Q : VK} (hN : 2 ≤ N.length) (hf : ∀ ns : List Int, ns.length ≤ 63 → (∀ z ∈ ns, Builtin.Int.intBits z ≤ 1048576) → ∃ z', f (z0 (N.length - 2) ns) = .ok (.rt (.d (.bl true))) z')
    (c : SR M1 K xr (fun cls d _ H => E cls d H) t f) (h : spLaw K vs H Q E) : tSeq (tAsg (tCallS (spBegun K) (WE fun cls d _ H => E cls d H) (tCons (tVar 0) tNil)) (gName 1)) t { nx := fun _ H' => Q .non H', rt := Q } (L2.start N vs) H := law_runT (T := []) hN hf c (fun _ h => nomatch h) h
end G
namespace G
open PySem L2
/-- a place of a def's text: all that the rules ask of it -/
structure Pc {ι : Type} (P : Program) (w : World) (K : PySem.W.Frag) (mg : Str → Option Value) (base : Heap) (N : List Str) (W : WX) (lv : Nat) (X : ι → Cx) : Prop extends Pl K X N mg where
  pr : ∀ j, (X j).prog = P
  pw : ∀ j, (X j).w = w
  pb : ∀ j, (X j).base = base
  room : ∀ j, Room (lv + 8) (X j).A
  pass : ∀ j σ, PassesAt (L2.CX P w) (X j) σ (WE W σ)
  gd : ∀ j, (X j).A.guards = some []
section
variable {ι : Type} {M : MI} {P : Program} {w : World} {K : PySem.W.Frag} {mg : Str → Option Value} {base : Heap} {N : List Str} {W : WX} {n : Nat} {X : ι → Cx} {xr : Str → Option Value}
theorem pass0W {Y : Cx} (σ : St) : PassesAt (L2.CX P w) Y σ (WE W0 σ) := fun _ _ _ _ _ _ h => by
  obtain ⟨_, _, _, _, _, _, _, _, _, _, _, _, z⟩ := h
  exact z.elim
theorem Pc.blk (p : Pc P w K mg base N W n X) (scope : Scope) : Pc P w K mg base N W0 n (Blk X scope) :=
  ⟨p.toPl.blk scope, fun q => p.pr q.1, fun q => p.pw q.1, fun q => p.pb q.1, fun q => p.room q.1, fun q σ => pass0W σ, fun q => p.gd q.1⟩
theorem pc_def {qual : Str} {st : Stmt} {f : Addr} {ps : List Str} {cdv : Value} {A : Around} {outer : List Env} {s : Shared} {H : Hp} {E : XK} (Sc : FnScope N ps (defScope st)) (hr : Room (n + 8) (A.deeper (PyProof.Rows.envOfC qual (defScope st) s.heap.objs.size f cdv))) (hgu : A.guards = some []) :
    Pc P w K mg base N (fun cls d _ H => E cls d H) n (fun _ : Unit => cxOf (L2.CX P w) P w K mg base N qual (defScope st) f cdv A outer s H E) :=
  ⟨⟨fun _ => rfl, fun _ => rfl, fun _ => rfl, Sc.nd, fun _ => rfl, fun _ => by have := hr.un; show (A.deeper _).units + 300 < cLine; omega⟩, fun _ => rfl, fun _ => rfl, fun _ => rfl, fun _ => hr, fun _ σ => passAt (takes_of rfl rfl rfl rfl) σ, fun _ => hgu⟩
theorem own_def {qual : Str} {st : Stmt} {f : Addr} {cdv : Value} {A : Around} {outer : List Env} {s : Shared} {H : Hp} {E : XK} :
    ∀ j : Unit, PassesOwn (model ((fun _ : Unit => cxOf (L2.CX P w) P w K mg base N qual (defScope st) f cdv A outer s H E) j).prog ((fun _ : Unit => cxOf (L2.CX P w) P w K mg base N qual (defScope st) f cdv A outer s H E) j).w) ((fun _ : Unit => cxOf (L2.CX P w) P w K mg base N qual (defScope st) f cdv A outer s H E) j).A ((fun _ : Unit => cxOf (L2.CX P w) P w K mg base N qual (defScope st) f cdv A outer s H E) j).env ((fun _ : Unit => cxOf (L2.CX P w) P w K mg base N qual (defScope st) f cdv A outer s H E) j).xe := fun _ => passes_of rfl
/-- a def of the text keeps the mirror c at level n -/
def FnAt (M : MI) (P : Program) (w : World) (K : PySem.W.Frag) (mg : Str → Option Value) (base : Heap) (xr : Str → Option Value) (n : Nat) (x : Str) (ps : List Str) (dvs : List V) (c : List S → M.T → Rs S M.T) : Prop :=
  ∃ f fd, FnG P w K mg base (L2.CX P w) (n + 8) f fd ps (spM M K xr ps.length c) ∧ Binds K fd ps [] ∧ (∃ ds, Vals dvs ds ∧ Binds K fd ps ds) ∧ PySem.W.keepIn K (.ref f) = true ∧ mg x = some (.ref f)
theorem de_fn {x : Str} {ps : List Str} {dvs : List V} {e : Expr} {es : List Expr} {g : Sm M (List S)} {c : List S → M.T → Rs S M.T} {pp pos : Pos} (p : Pc P w K mg base N W n X) (h : FnAt M P w K mg base xr n x ps dvs c) (ha : DA M xr K X W (e :: es) g) (hn : ∀ z ss z1, g z = .ok ss z1 → ss.length = ps.length) (hg : ∀ j, Gl (X j) x := by intro _; rfl)
    (hdb : (x == ("__debug__" : Str)) = false := by decide) (he : ∀ j, starEach (e :: es) (X j).env = (false, eval e (X j).env) :: starEach es (X j).env := by intro _; rfl) (hpl : ∀ j, (backTo pos (starEach es (X j).env)).any (·.1) = false := by intro _; rfl) :
    DE M xr K X W (.Call (.Name x pp) (e :: es) [] pos) (eCall c g) := by
  obtain ⟨f, fd, hF, hb, _, hk, hm⟩ := h
  exact de_call (CX := L2.CX P w) (f := f) (fd := fd) (ps := ps) (k := n + 8) (fun j => by rw [p.pr j, p.pw j, p.k j, p.g j, p.pb j]; exact hF) p.room p.gd hg (fun j => by rw [p.g j]; exact hm) (fun j => by rw [p.k j]; exact hk) (fun j => by rw [p.k j]; exact hb) p.pass ha hn hdb he hpl
/-- the last parameter is filled by its default -/
theorem de_fnD {x : Str} {ps : List Str} {dv : V} {dd : D} {e : Expr} {es : List Expr} {g : Sm M (List S)} {c : List S → M.T → Rs S M.T} {pp pos : Pos} (p : Pc P w K mg base N W n X) (h : FnAt M P w K mg base xr n x ps [dv] c) (hdd : ∀ F, Da K F dv dd) (ha : DA M xr K X W (e :: es) g) (hn : ∀ z ss z1, g z = .ok ss z1 → ss.length + 1 = ps.length) (hg : ∀ j, Gl (X j) x := by intro _; rfl)
    (hdb : (x == ("__debug__" : Str)) = false := by decide) (he : ∀ j, starEach (e :: es) (X j).env = (false, eval e (X j).env) :: starEach es (X j).env := by intro _; rfl) (hpl : ∀ j, (backTo pos (starEach es (X j).env)).any (·.1) = false := by intro _; rfl) :
    DE M xr K X W (.Call (.Name x pp) (e :: es) [] pos) (eCall c (aDef [dd] g)) := by
  obtain ⟨f, fd, hF, _, ⟨ds, hv, hb⟩, hk, hm⟩ := h
  exact de_callD (CX := L2.CX P w) (f := f) (fd := fd) (ps := ps) (k := n + 8) hdd hv (fun j => by rw [p.pr j, p.pw j, p.k j, p.g j, p.pb j]; exact hF) p.room p.gd hg (fun j => by rw [p.g j]; exact hm) (fun j => by rw [p.k j]; exact hk) (fun j => by rw [p.k j]; exact hb) p.pass ha hn hdb he hpl
theorem de_fn0 {x : Str} {dvs : List V} {c : List S → M.T → Rs S M.T} {pp pos : Pos} (p : Pc P w K mg base N W n X) (h : FnAt M P w K mg base xr n x [] dvs c) (hg : ∀ j, Gl (X j) x := by intro _; rfl) (hdb : (x == ("__debug__" : Str)) = false := by decide) :
    DE M xr K X W (.Call (.Name x pp) [] [] pos) (eCall c aNil) := by
  obtain ⟨f, fd, hF, hb, _, hk, hm⟩ := h
  exact de_call0 (CX := L2.CX P w) (f := f) (fd := fd) (ps := []) (k := n + 8) (fun j => by rw [p.pr j, p.pw j, p.k j, p.g j, p.pb j]; exact hF) p.room p.gd hg (fun j => by rw [p.g j]; exact hm) (fun j => by rw [p.k j]; exact hk) (fun j => by rw [p.k j]; exact hb) p.pass hdb
/-- where a def stands in the text -/
def FnIn (K : PySem.W.Frag) (mg : Str → Option Value) (x : Str) (st : Stmt) (ps : List Str) (dvs : List V) : Prop := ∃ f fd, FunD K x x (defArgs st) (defBody st) (defScope st) dvs [] f fd ∧ Binds K fd ps [] ∧ (∃ ds, Vals dvs ds ∧ Binds K fd ps ds) ∧ mg x = some (.ref f)
theorem fnAt_zero {x : Str} {st : Stmt} {ps : List Str} {dvs : List V} (h : FnIn K mg x st ps dvs) : FnAt M P w K mg base xr 0 x ps dvs (fun _ _ => .bad) := by
  obtain ⟨f, fd, hF, hb, hd, hm⟩ := h
  have no : ∀ vs H Q E, ¬ spM M K xr ps.length (fun _ _ => .bad) vs H Q E := fun vs H Q E h => by
    obtain ⟨_, _, _, _, _, _, _, _, _, _, z⟩ := h
    exact z
  exact ⟨f, fd, ⟨fun vs H Q E h => absurd h (no vs H Q E), fun A outer s H args us vs Q E _ _ _ _ _ h => absurd h (no vs H Q E)⟩, hb, hd, hF.kp, hm⟩
theorem fnAt_succ {x : Str} {st : Stmt} {ps : List Str} {dvs : List V} {b : Sm M Out} (h : FnIn K mg x st ps dvs) (Sc : FnScope N ps (defScope st))
    (hb : ∀ (f : Addr) (cdv : Value) (A : Around) (outer : List Env) (s : Shared) (H : Hp) (E : XK), Room (n + 8) (A.deeper (PyProof.Rows.envOfC x (defScope st) s.heap.objs.size f cdv)) → A.guards = some [] →
      DSs M xr K (fun _ : Unit => cxOf (L2.CX P w) P w K mg base N x (defScope st) f cdv A outer s H E) (fun cls d _ H => E cls d H) (defBody st) b) : FnAt M P w K mg base xr (n + 1) x ps dvs (fnM N.length b) := by
  obtain ⟨f, fd, hF, hbd, hd, hm⟩ := h
  exact ⟨f, fd, okM hF Sc (hb f), hbd, hd, hF.kp, hm⟩
end
/-- a module's constant that is data -/
def GlD (K : PySem.W.Frag) (mg : Str → Option Value) (x : Str) (d : D) : Prop := ∃ v u, mg x = some u ∧ RelV v u ∧ ∀ F, Da K F v d
section
variable {ι : Type} {M : MI} {xr : Str → Option Value} {K : PySem.W.Frag} {X : ι → Cx} {W : WX} {N : List Str} {mg : Str → Option Value}
theorem de_const {x : Str} {d : D} {pos : Pos} (p : Pl K X N mg) (h : GlD K mg x d) (hg : ∀ j, Gl (X j) x := by intro _; rfl) (hb : (x == ("__debug__" : Str)) = false := by decide) : DE M xr K X W (.Name x pos) (eC d) := by
  obtain ⟨v, u, hm, r, hd⟩ := h
  exact de_glob hg (fun j => by rw [p.g j]; exact hm) r hd hb
theorem cmp_chain {r r' : R2} {g g' : D → D → Option R} {ta tb tc : TE} {f f' f'' : Sm M S} (hd : Op2 K r g) (hd' : Op2 K r' g') (ha : Cmp M K xr W ta RelE f) (hb : Cmp M K xr W tb RelE f') (hc : Cmp M K xr W tc RelE f'') : Cmp M K xr W (tChain r r' ta tb tc) RelE (eChain g g' f f' f'') := by
  intro G σ H F z Q hK hx ok h
  refine cmp_opd ha G σ H F z _ hK hx ok (hit_bind h fun s z1 v H1 F1 _ sm1 ok1 e1 h1 => ?_)
  refine cmp_opd hb G σ H1 F1 z1 _ hK hx ok1 (hit_bind h1 fun s' z2 v' H2 F2 _ sm2 ok2 e2 h2 => ?_)
  have h3 : HitG M G W σ F2 (RelE G σ) (fin ((rd z2 s).bind fun x => (rd z2 s').bind fun y => g x y) z2) (fun z H3 => ∃ k, z = .bl k ∧ if k = true then tc σ H3 fun w H4 => r' v' w H4 Q else Q (.bl false) H3) := by
    refine hit_bind h2 fun s3 z3 v3 H3 F3 e3 sm3 ok3 ev3 h3 => ?_
    have ez : z3 = z2 := by
      unfold fin at e3
      split at e3
      · cases e3; rfl
      · cases e3
    subst ez
    cases s3 with
    | d x =>
      cases x with
      | bl b =>
        cases (show Da G.K F3 v3 (.bl b) from ev3)
        refine ⟨b, rfl, ?_⟩
        cases b with
        | false =>
          rw [if_neg Bool.false_ne_true]
          exact h3 (.bl false) H3 F3 (Same.refl _) ok3 (Da.bl false)
        | true =>
          rw [if_pos rfl]
          refine cmp_opd hc G σ H3 F3 z3 _ hK hx ok3 (hit_bind h3 fun s4 z4 v4 H4 F4 _ sm4 ok4 e4 h4 => ?_)
          have q := fin_hit ok4 h4
          subst hK
          cases ea : rd z4 s' with
          | none => rw [ea] at q; exact q.elim
          | some x =>
            cases eb : rd z4 s4 with
            | none => rw [ea, eb] at q; exact q.elim
            | some y =>
              rw [ea, eb] at q
              exact hd' F4 H4 v' v4 x y Q ok4.sub (EO.rv ok4 (EO.mono (sm3.trans sm4) e2) ea) (EO.rv ok4 e4 eb) q
      | _ => exact h3.elim
    | _ => exact h3.elim
  have q := fin_hit ok2 h3
  subst hK
  cases ea : rd z2 s with
  | none => rw [ea] at q; exact q.elim
  | some x =>
    cases eb : rd z2 s' with
    | none => rw [ea, eb] at q; exact q.elim
    | some y =>
      rw [ea, eb] at q
      exact hd F2 H2 v v' x y _ ok2.sub (EO.rv ok2 (EO.mono sm2 e1) ea) (EO.rv ok2 e2 eb) q
theorem Cp.chain {op op' : CmpOp} {g g' : D → D → Option R} {a b c : Expr} {f f' f'' : Sm M S} {pos : Pos} (c1 : Cp K X op g) (c2 : Cp K X op' g') (ha : DE M xr K X W a f) (hb : DE M xr K X W b f') (hc : DE M xr K X W c f'') (hm : lastMarks [op, op'] [b, c] = false := by with_unfolding_all rfl) : DE M xr K X W (.Compare a [op, op'] [b, c] pos) (eChain g g' f f' f'') := by
  cases c1 with
  | mk r ho hd =>
    cases c2 with
    | mk r' ho' hd' =>
      obtain ⟨ta, pa, ca⟩ := ha
      obtain ⟨tb, pb, cb⟩ := hb
      obtain ⟨tc, pc, cc⟩ := hc
      exact ⟨_, fun j => pe_chain (ho j) (ho' j) (pa j) (pb j) (pc j) hm, cmp_chain hd hd' ca cb cc⟩
theorem Cp.chainT {op op' : CmpOp} {g g' : D → D → Option R} {a b c : Expr} {f f' f'' : Sm M S} {pos : Pos} (c1 : Cp K X op g) (c2 : Cp K X op' g') (ha : DE M xr K X W a f) (hb : DE M xr K X W b f') (hc : DE M xr K X W c f'') (hm : lastMarks [op, op'] [b, c] = false := by with_unfolding_all rfl) : DT M xr K X W (.Compare a [op, op'] [b, c] pos) (tOf (eChain g g' f f' f'')) := by
  cases c1 with
  | mk r ho hd =>
    cases c2 with
    | mk r' ho' hd' =>
      obtain ⟨ta, pa, ca⟩ := ha
      obtain ⟨tb, pb, cb⟩ := hb
      obtain ⟨tc, pc, cc⟩ := hc
      exact ⟨_, fun j => pt_chain (ho j) (ho' j) (pa j) (pb j) (pc j) hm, cmp_tOf (cmp_chain hd hd' ca cb cc)⟩
end
theorem daAll_strs {K : PySem.W.Frag} {F : Hp} : ∀ ss : List Str, DaAll K F (ss.map V.str) (ss.map D.str)
  | [] => .nil
  | s :: r => .cons (.str s) (daAll_strs r)
theorem glD_strs {K : PySem.W.Frag} {mg : Str → Option Value} {x : Str} (ss : List Str) {a : Addr} {o : Obj} {its : List Value} {n : Nat} (g : mg x = some (.ref a)) (gl : K.lookup a = some o) (gc : o.cls = .type "tuple") (gd : o.data = .seq its.toArray n) (hv : Vals (ss.map V.str) its) (hl : ss.length ≤ 1000) : GlD K mg x (.tup (ss.map D.str)) :=
  ⟨.ref a, _, g, rfl, fun F => .tup (.inr ⟨o, _, n, gl, gc, gd, by
    have e := hv.length
    rw [List.length_map] at e
    rw [List.size_toArray, ← e]
    exact Nat.le_of_lt (small1000 hl), hv⟩) (daAll_strs ss)⟩
theorem funD_mk {K : PySem.W.Frag} {x : Str} {st : Stmt} {f : Addr} {oc : Value} {od an : Option Addr} {osl : Array (Option Value)} {kV doc pm cdv ct : Value} (l : K.lookup f = some ⟨oc, od, .func (PySem.W.fnOf x x (defArgs st) (defBody st) (defScope st) .none kV doc pm an cdv ct), osl⟩) (c : PySem.W.codeIn K cdv x = true) (k : PySem.W.keepIn K (.ref f) = true) :
    FunD K x x (defArgs st) (defBody st) (defScope st) [] [] f (PySem.W.fnOf x x (defArgs st) (defBody st) (defScope st) .none kV doc pm an cdv ct) := ⟨⟨oc, od, .none, kV, doc, pm, an, cdv, ct, osl, rfl, l, c, .inl ⟨rfl, rfl⟩, .inl rfl⟩, k⟩
theorem fnIn_mk {K : PySem.W.Frag} {h : Heap} {mg : Str → Option Value} {x : Str} {st : Stmt} {ps : List Str} {f : Addr} {oc : Value} {od an : Option Addr} {osl : Array (Option Value)} {kV doc pm cdv ct : Value} (X : K.In h) (G : h.Ns mainGlobals mg) (a : PySem.W.nsIn K mainGlobals x = some (some (.ref f)))
    (l : K.lookup f = some ⟨oc, od, .func (PySem.W.fnOf x x (defArgs st) (defBody st) (defScope st) .none kV doc pm an cdv ct), osl⟩) (c : PySem.W.codeIn K cdv x = true) (k : PySem.W.keepIn K (.ref f) = true)
    (hb : ∀ (kV doc pm : Value) (an : Option Addr) (cdv ct : Value) (us : List Value), us.length = ps.length → bindArgs (PySem.W.fnOf x x (defArgs st) (defBody st) (defScope st) .none kV doc pm an cdv ct) ⟨us, []⟩ = pure (ps.zip us)) : FnIn K mg x st ps [] :=
  ⟨f, _, funD_mk (st := st) l c k, (fun_mk (st := st) l c k).binds hb, ⟨[], .nil, (fun_mk (st := st) l c k).binds hb⟩, PySem.W.mg_of X G a⟩
theorem seq_bindS {α β : Type} {m : Sem α} {k k' : α → Sem β} (h : k = k') : m >>= k = m >>= k' := by rw [h]
/-- a def whose last parameter has an int for a default -/
theorem fnIn_mkD {K : PySem.W.Frag} {h : Heap} {mg : Str → Option Value} {x : Str} {st : Stmt} {ps : List Str} {f T : Addr} {oc ocT : Value} {od an odT : Option Addr} {osl oslT : Array (Option Value)} {kV doc pm cdv ct : Value} {i : Int} {tk : Tok} {nT : Nat} (X : K.In h) (G : h.Ns mainGlobals mg) (a : PySem.W.nsIn K mainGlobals x = some (some (.ref f)))
    (l : K.lookup f = some ⟨oc, od, .func (PySem.W.fnOf x x (defArgs st) (defBody st) (defScope st) (.ref T) kV doc pm an cdv ct), osl⟩) (c : PySem.W.codeIn K cdv x = true) (k : PySem.W.keepIn K (.ref f) = true) (lT : K.lookup T = some ⟨ocT, odT, .seq #[.int i tk] nT, oslT⟩)
    (hb0 : ∀ (kV doc pm : Value) (an : Option Addr) (cdv ct : Value) (us its : List Value), us.length = ps.length → its.length = 1 → ∃ k, bindArgs (PySem.W.fnOf x x (defArgs st) (defBody st) (defScope st) (.ref T) kV doc pm an cdv ct) ⟨us, []⟩ = seqItems? (.ref T) >>= k ∧ k (some its.toArray) = pure (ps.zip (us ++ its.drop 1)))
    (hb1 : ∀ (kV doc pm : Value) (an : Option Addr) (cdv ct : Value) (us its : List Value), us.length + 1 = ps.length → its.length = 1 → ∃ k, bindArgs (PySem.W.fnOf x x (defArgs st) (defBody st) (defScope st) (.ref T) kV doc pm an cdv ct) ⟨us, []⟩ = seqItems? (.ref T) >>= k ∧ k (some its.toArray) = pure (ps.zip (us ++ its.drop 0))) (hp : 1 ≤ ps.length) : FnIn K mg x st ps [V.int i] := by
  have F : FunD K x x (defArgs st) (defBody st) (defScope st) [V.int i] [] f (PySem.W.fnOf x x (defArgs st) (defBody st) (defScope st) (.ref T) kV doc pm an cdv ct) := ⟨⟨oc, od, .ref T, kV, doc, pm, an, cdv, ct, osl, rfl, l, c, .inr ⟨by simp, T, _, [.int i tk], nT, rfl, lT, rfl, .cons ⟨tk, rfl⟩ .nil⟩, .inl rfl⟩, k⟩
  have mk : ∀ (us : List Value) (s : Shared), K.In s.heap → us.length = ps.length → BindsTo s (PySem.W.fnOf x x (defArgs st) (defBody st) (defScope st) (.ref T) kV doc pm an cdv ct) ⟨us, []⟩ (ps.zip us) := fun us s hK hl => by
    obtain ⟨kk, e1, e2⟩ := hb0 kV doc pm an cdv ct us [.int i tk] hl rfl
    refine BindsTo.of_looks fun M => ?_
    rw [e1]
    exact looks_items (its := [Value.int i tk].toArray) hK lT rfl (.of_pure (by rw [e2]; simp))
  have mk1 : ∀ (us : List Value) (s : Shared), K.In s.heap → us.length + 1 = ps.length → BindsTo s (PySem.W.fnOf x x (defArgs st) (defBody st) (defScope st) (.ref T) kV doc pm an cdv ct) ⟨us, []⟩ (ps.zip (us ++ [.int i tk])) := fun us s hK hl => by
    obtain ⟨kk, e1, e2⟩ := hb1 kV doc pm an cdv ct us [.int i tk] hl rfl
    refine BindsTo.of_looks fun M => ?_
    rw [e1]
    exact looks_items (its := [Value.int i tk].toArray) hK lT rfl (.of_pure e2)
  refine ⟨f, _, F, fun s us hK hl => ?_, ⟨[.int i tk], .cons ⟨tk, rfl⟩ .nil, fun s us hK hl => mk1 us s hK (by rw [List.length_append] at hl; exact hl)⟩, PySem.W.mg_of X G a⟩
  rw [List.append_nil] at hl ⊢
  exact mk us s hK hl
end G
namespace G
open PySem L2
/-! ### what is never reached needs no rule -/
section
variable {ι : Type} {M : MI} {xr : Str → Option Value} {K : PySem.W.Frag} {X : ι → Cx} {W : WX}
def sBad : Sm M Out := fun _ => .bad
def eBad : Sm M S := fun _ => .bad
theorem ds_bad {st : Stmt} : DS M xr K X W st sBad := ⟨fun _ _ _ => False, fun _ => ⟨fun _ _ _ _ _ _ h => h.elim⟩, fun _ _ _ _ _ _ _ _ _ h => h⟩
theorem de_bad {e : Expr} : DE M xr K X W e eBad := ⟨fun _ _ _ => False, fun _ => ⟨fun _ _ _ _ _ _ h => h.elim⟩, fun _ _ _ _ _ _ _ _ _ h => h⟩
end
/-! ### repr of tuples and lists -/
def rRepr (K : PySem.W.Frag) : List V → Hp → VK → Prop := fun xs H Q => (xs = [.non] ∧ Q (.str "None") H) ∨ ∃ a d, xs = [.ref a] ∧ Dp K H (.ref a) d ∧ d.canLay0 = true ∧ d.showable = true ∧ d.depth ≤ 290 ∧ d.shown.length ≤ sizeLine ∧ Q (.str d.shown) H
theorem call_repr {X : Cx} (hg : X.A.guards = some []) (hu : X.A.units + 300 < cLine) : CallR X (.builtin "repr") (rRepr X.K) := by
  intro pins s σ H xs us Q I r h
  rcases h with ⟨rfl, q⟩ | ⟨a, d, rfl, hd, h1, h2, h3, h4, q⟩
  · cases r with
    | cons ru rt =>
      cases rt
      cases ru
      exact PySem.P.repr_of_none ⟨.str _, H, I.tok _, ⟨_, rfl⟩, q⟩
  cases r with
  | cons ru rt =>
    cases rt
    cases ru
    obtain ⟨as, rr⟩ := Dp.reads I d (.ref a) (.ref a) hd rfl
    exact repr_of_reads' rr h2 (PyData.noDict_hsm (PyData.hasDict_of_canLay d h1)) hg (by omega) (fun b o e => e) (fun h' u tk hk => ⟨.str d.shown, H, I.kept hk, ⟨u, rfl⟩, q⟩) h4
def shw (d : D) : Str := (toPy d).shown
def showOk (d : D) : Bool := lay d && ((toPy d).showable && (decide (dep d ≤ 290) && decide ((shw d).length ≤ 15000000)))
def fRepr : List D → Option R := fun as => match as with
  | [.non] => some (.d (.str "None"))
  | [.tup xs] => if showOk (.tup xs) = true then some (.d (.str (shw (.tup xs)))) else none
  | [.lst xs] => if showOk (.lst xs) = true then some (.d (.str (shw (.lst xs)))) else none
  | _ => none
theorem repr_hit {K : PySem.W.Frag} {F H : Hp} {v : V} {d : D} {Q : VK} (s : SameX F H) (r : Rv K F H v d) (hv : ∃ a, v = .ref a) (h : Hit0 K F H (if showOk d = true then some (.d (.str (shw d))) else none) Q) : rRepr K [v] H Q := by
  obtain ⟨a, rfl⟩ := hv
  by_cases hs : showOk d = true
  · rw [if_pos hs] at h
    unfold showOk at hs
    rw [Bool.and_eq_true, Bool.and_eq_true, Bool.and_eq_true] at hs
    exact .inr ⟨a, toPy d, rfl, r.dp s hs.1, by rw [canLay_toPy]; exact hs.1, hs.2.1, by rw [depth_toPy]; exact of_decide_eq_true hs.2.2.1, (by have q : (toPy d).shown.length ≤ 15000000 := of_decide_eq_true hs.2.2.2; rw [sizeLine_eq]; omega), h _ (.str _)⟩
  · rw [if_neg hs] at h
    exact h.elim
theorem opn_repr {K : PySem.W.Frag} : OpN K (rRepr K) fRepr := by
  intro F H xs as Q s hp h
  match as, hp, h with
  | [.tup ds], hp, h =>
    obtain ⟨x, rfl, r⟩ := p1 hp
    obtain ⟨a, vs, rfl, _, _⟩ := r.tup s
    exact repr_hit s r ⟨a, rfl⟩ h
  | [.lst ds], hp, h =>
    obtain ⟨x, rfl, r⟩ := p1 hp
    obtain ⟨a, vs, rfl, _, _⟩ := r.lst s
    exact repr_hit s r ⟨a, rfl⟩ h
  | [], _, h => exact h.elim
  | [.non], hp, h =>
    obtain ⟨x, rfl, r⟩ := p1 hp
    have := r.da (fun _ q => by cases q)
    cases this
    exact .inl ⟨rfl, h _ (.str _)⟩
  | [.bl _], _, h => exact h.elim
  | [.int _], _, h => exact h.elim
  | [.str _], _, h => exact h.elim
  | [.scr _], _, h => exact h.elim
  | [.emp], _, h => exact h.elim
  | [.exc _ _], _, h => exact h.elim
  | [.o _], _, h => exact h.elim
  | .non :: _ :: _, _, h => exact h.elim
  | .bl _ :: _ :: _, _, h => exact h.elim
  | .int _ :: _ :: _, _, h => exact h.elim
  | .str _ :: _ :: _, _, h => exact h.elim
  | .tup _ :: _ :: _, _, h => exact h.elim
  | .lst _ :: _ :: _, _, h => exact h.elim
  | .scr _ :: _ :: _, _, h => exact h.elim
  | .emp :: _ :: _, _, h => exact h.elim
  | .exc _ _ :: _ :: _, _, h => exact h.elim
  | .o _ :: _ :: _, _, h => exact h.elim
section
variable {ι : Type} {P : Program} {w : World} {K : PySem.W.Frag} {mg : Str → Option Value} {base : Heap} {N : List Str} {W : WX} {n : Nat} {X : ι → Cx}
theorem fb_repr (p : Pc P w K mg base N W n X) : Fb K X "repr" fRepr := .fn "repr" (rRepr K) (fun j => by rw [← p.k j]; exact call_repr (p.gd j) (p.u j)) opn_repr PyProof.Rows.boot_repr (by decide) (by decide)
end
end G
namespace G
open PySem L2
section
variable {ι : Type} {M : MI} {xr : Str → Option Value} {K : PySem.W.Frag} {X : ι → Cx} {W : WX} {N : List Str} {mg : Str → Option Value} {pos : Pos}
/-! ### range of two, and downwards -/
def intsS : List S → Option (List Int)
  | [] => some []
  | .d (.int i) :: r => (intsS r).map (i :: ·)
  | _ => none
theorem intsS_eq {G : Gx} {σ : St} {F : Hp} : ∀ {ss : List S} {vs : List V} {is : List Int}, Paired (fun v s => EO G σ F v s) vs ss → intsS ss = some is → vs = is.map V.int
  | [], _, _, .nil, e => by cases e; rfl
  | .d (.int i) :: r, _, is, .cons a t, e => by
    unfold intsS at e
    cases h : intsS r with
    | none => rw [h] at e; cases e
    | some js =>
      rw [h] at e
      cases e
      rw [List.map_cons, intsS_eq t h]
      cases (show Da G.K F _ (.int i) from a)
      rfl
  | .d .non :: _, _, _, _, e => by cases e
  | .d (.bl _) :: _, _, _, _, e => by cases e
  | .d (.str _) :: _, _, _, _, e => by cases e
  | .d (.tup _) :: _, _, _, _, e => by cases e
  | .d (.lst _) :: _, _, _, _, e => by cases e
  | .d (.scr _) :: _, _, _, _, e => by cases e
  | .d .emp :: _, _, _, _, e => by cases e
  | .d (.exc _ _) :: _, _, _, _, e => by cases e
  | .d (.o _) :: _, _, _, _, e => by cases e
  | .l _ :: _, _, _, _, e => by cases e
  | .v _ :: _, _, _, _, e => by cases e
  | .m _ :: _, _, _, _, e => by cases e
def inR (j : Int) : Bool := decide (-(2 ^ 62) ≤ j ∧ j < 2 ^ 62)
def rg2D : Option (List Int) → Option (List D)
  | some [i, j] => if (inR i && inR j) = true then some (rangeD i (j - i).toNat) else none
  | _ => none
def downD (i : Int) (n : Nat) : List D := (List.range n).map fun (k : Nat) => D.int (i + (k : Int) * (-1))
def rg3D : Option (List Int) → Option (List D)
  | some [i, j, -1] => if (inR i && inR j) = true then some (downD i (i - j).toNat) else none
  | _ => none
def iRg2M (g : Sm M (List S)) : Sm M (List D) := fun z => (g z).bind fun ss z1 => Rs.opt (rg2D (intsS ss)) z1
def iRg3M (g : Sm M (List S)) : Sm M (List D) := fun z => (g z).bind fun ss z1 => Rs.opt (rg3D (intsS ss)) z1
theorem wk_down {F : Hp} (lo : Int) (n : Nat) : Wk K F (Itc lo (-1) n) (downD lo n) := by
  have w := (walk_rangeC (lo := lo) (c := -1) (n := n)).mono (G' := fun H => SameX F H) (Y' := YD K F (downD lo n)) (fun H s => trivial) (fun i H x H' hi _ ⟨e1, e2⟩ => by
    rw [e1, e2]
    refine yd_old (d := .int (lo + (i : Int) * (-1))) ?_ (.int _)
    unfold downD
    rw [List.getElem?_map, List.getElem?_range hi]
    rfl)
  have e : (downD lo n).length = n := by unfold downD; rw [List.length_map, List.length_range]
  unfold Wk
  rw [e]
  exact w
theorem inR_of {j : Int} (h : inR j = true) : -(2 ^ 62) ≤ j ∧ j < 2 ^ 62 := of_decide_eq_true h
theorem di_range3 {tg a b c : Expr} {g : Sm M (List S)} {pp : Pos} (p : Pl K X N mg) (hm : mg "range" = none) (ha : DA M xr K X W [a, b, c] g) (hg : ∀ j, Gl (X j) "range" := by intro _; rfl) (hs : ∀ j, starEach [a, b, c] (X j).env = (false, eval a (X j).env) :: starEach [b, c] (X j).env := by intro _; rfl) (hpl : ∀ j, (backTo pos (starEach [b, c] (X j).env)).any (·.1) = false := by intro _; rfl) :
    DI M xr K X W tg (.Call (.Name "range" pp) [a, b, c] [] pos) (iRg3M g) := by
  obtain ⟨t, pa, ca⟩ := ha
  refine ⟨_, fun j => pi_range3 (hg j) (by rw [p.g j]; exact hm) (pa j) (hs j) (hpl j), fun G σ H F z Q hK hx ok hh => ?_⟩
  refine ca G σ H F z _ hK hx ok (hit_bind hh fun ss z1 vs H1 F1 _ sm ok1 ea h1 => ?_)
  cases e : intsS ss with
  | none => rw [e] at h1; exact h1.elim
  | some is =>
    have ev := intsS_eq ea e
    rw [e] at h1
    unfold rg3D at h1
    split at h1
    · rename_i i j q
      cases q
      by_cases hb : (inR i && inR j) = true
      · rw [if_pos hb] at h1
        rw [Bool.and_eq_true] at hb
        have b1 := inR_of hb.1
        have b2 := inR_of hb.2
        exact ⟨i, j, -1, (i - j).toNat, ev, RgC.neg b1.1 b1.2 b2.1 b2.2, h1 _ H1 F1 (Same.refl _) ok1 (wk_down i _)⟩
      · rw [if_neg hb] at h1
        exact h1.elim
    · exact h1.elim
end
end G
namespace G
open PySem L2
theorem okG {P : Program} {w : World} {K : PySem.W.Frag} {mg : Str → Option Value} {base : Heap} {x qual : Str} {st : Stmt} {f : Addr} {fd : FuncData} {dvs : List V} {N ps : List Str} {k : Nat} {sp : Sp} (F : FunD K x qual (defArgs st) (defBody st) (defScope st) dvs [] f fd) (Sc : FnScope N ps (defScope st)) (len : ∀ vs H Q E, sp vs H Q E → vs.length = ps.length)
    (hb : ∀ (cdv : Value) (A : Around) (outer : List Env) (s : Shared) (H : Hp) (vs : List V) (Q : VK) (E : XK), Room k (A.deeper (PyProof.Rows.envOfC qual (defScope st) s.heap.objs.size f cdv)) → A.guards = some [] → sp vs H Q E →
      ∃ t, PSs (cxOf (L2.CX P w) P w K mg base N qual (defScope st) f cdv A outer s H E) (defBody st) t ∧ t { nx := fun _ H' => Q .non H', rt := Q } (start N vs) H) : FnG P w K mg base (L2.CX P w) (k + 1) f fd ps sp := by
  obtain ⟨oc, od, dV, kV, doc, pm, an, cdv, ct, osl, rfl, lk, hcd, _, _⟩ := F.ex
  exact fnG lk hcd Sc len (fun A outer s H vs Q E hr hg h => hb cdv A outer s H vs Q E hr hg h)
end G
namespace G
open PySem L2
section
variable {ι : Type} {M : MI} {xr : Str → Option Value} {K : PySem.W.Frag} {X : ι → Cx} {W : WX}
/-- a, b = x, y -/
def sPar (i j : Nat) (g : Sm M (List S)) : Sm M Out := fun z => (g z).bind fun ss z1 => match ss with
  | [.d x, .d y] => .ok .nx { z1 with rho := (z1.rho.set i (some (.d x))).set j (some (.d y)) }
  | _ => .bad
theorem ds_par {i j : Nat} {x y : Str} {a b : Expr} {g : Sm M (List S)} {px py pt pos : Pos} {kt k2 pt2} (hc : ∀ q, (X q).calm = true) (hN : ∀ q, (X q).N.Nodup) (hi : ∀ q, (X q).N[i]? = some x) (hj : ∀ q, (X q).N[j]? = some y) (hij : i ≠ j) (hx : ∀ q, (X q).env.scope.names.lookup x = some .local) (hy : ∀ q, (X q).env.scope.names.lookup y = some .local) (ha : DA M xr K X W [a, b] g)
    (hw : ∀ q, swappedStores [.Tuple [.Name x px, .Name y py] kt pt] (.Tuple [a, b] k2 pt2) (X q).env = pure (some [x, y]) := by intro _; rfl) (hs : ∀ q, swapsWithSole [.Tuple [.Name x px, .Name y py] kt pt] (.Tuple [a, b] k2 pt2) pos.line (X q).env = pure false := by intro _; rfl) :
    DS M xr K X W (.Assign [.Tuple [.Name x px, .Name y py] kt pt] (.Tuple [a, b] k2 pt2) pos) (sPar i j g) := by
  obtain ⟨t, p, c⟩ := ha
  refine ⟨_, fun q => ps_par (hc q) (hN q) (hi q) (hj q) hij (hx q) (hy q) (p q) (hw q) (hs q), fun G σ H F z D hK hx ok hh => ?_⟩
  refine c G σ H F z _ hK hx ok (hits_bind hh fun ss z1 vs H1 F1 _ sm ok1 ea h2 => ?_)
  match ss, vs, ea, h2 with
  | [.d x, .d y], _, .cons a (.cons b .nil), h2 =>
    refine ⟨_, _, rfl, h2 _ H1 F1 (Same.refl _) ?_⟩
    have ok2 := ok1.set (i := i) (s := .d x) (show Da G.K F1 _ x from a) (fun _ e => by cases e)
    exact ok2.set (i := j) (s := .d y) (show Da G.K F1 _ y from b) (fun _ e => by cases e)
  | [], _, _, h2 => exact h2.elim
  | [.d _], _, _, h2 => exact h2.elim
  | .l _ :: _, _, _, h2 => exact h2.elim
  | .v _ :: _, _, _, h2 => exact h2.elim
  | .m _ :: _, _, _, h2 => exact h2.elim
  | .d _ :: .l _ :: _, _, _, h2 => exact h2.elim
  | .d _ :: .v _ :: _, _, _, h2 => exact h2.elim
  | .d _ :: .m _ :: _, _, _, h2 => exact h2.elim
  | .d _ :: .d _ :: _ :: _, _, _, h2 => exact h2.elim
end
end G
/-! An exception that is caught and kept by a name. -/
namespace G
open PySem L2 PySem.Spec PyProof.Rows
theorem xo_ok {P : Program} {w : World} {H : Hp} {h : Heap} {a : Addr} {cls : Value} {d : Option Addr} {ox : Obj} {fs : Array Value} (e : h.get? a = some ox) (z : Zc cls d ox) (q : ox.data = .fields fs) : ObjOk P w H h a (XO cls d a) :=
  ⟨⟨ox, fs, e, z, q⟩, ⟨ox, e⟩, fun h1 h2 ⟨o1, f1, a1, b1, c1⟩ st => ⟨o1, f1, st _ a1, b1, c1⟩⟩
section
variable {Y : Cx} {ps : List (Addr × Obj)} {τ : L2.St} {H : Hp} {t : Shared}
theorem inv_keepX {a : Addr} {ox : Obj} {fs : Array Value} {cls : Value} {d : Option Addr} (J : Inv Y ((a, ox) :: ps) τ H t) (hz : Zc cls d ox) (hd : ox.data = .fields fs) (h0 : Y.s_0.heap.get? a = none) (hne : ∀ p ∈ Y.pn ++ ps, p.1 ≠ a) : Inv Y ps τ (upd H a (XO cls d a)) t := by
  obtain ⟨g1, g2, g3, g4, g5⟩ := J.pin (a, ox) (List.mem_append_right _ List.mem_cons_self)
  have nb : ∀ {b : Addr} {o : HO}, H b = some o → b ≠ a := fun {b o} e => ne_of_none e g2
  refine ⟨J.ok, J.os, J.bare, ⟨J.base.keep, J.base.slot, fun b o e n hx => ?_, J.base.there, fun b xs e => ?_, fun b o u e => ?_, fun b ys e => ?_⟩, J.loc, J.cell, ?_, fun x c e => ?_, fun p hp => ?_, fun b u e => ?_, J.len⟩
  · have z : b ≠ a := fun q => by rw [q, h0] at e; cases e
    rw [upd_ne z]
    exact J.base.free b o e n hx
  · have q := J.base.tups b xs e
    rw [upd_ne (nb q)]
    exact q
  · have q := J.base.frzs b o u e
    rw [upd_ne (nb q)]
    exact q
  · obtain ⟨more, q⟩ := J.base.tbls b ys e
    exact ⟨more, by rw [upd_ne (nb q)]; exact q⟩
  · rw [upd_ne (Ne.symm g3)]
    exact J.free
  · obtain ⟨v, o, ho, hc⟩ := J.cell x c e
    have z : c ≠ a := fun q => by
      rw [q, g1] at ho
      cases ho
      exact g5 v hc
    rw [upd_ne z]
    exact J.freeC x c e
  · have hp' : p ∈ Y.pn ++ (a, ox) :: ps := by
      rcases List.mem_append.mp hp with q | q
      · exact List.mem_append_left _ q
      · exact List.mem_append_right _ (List.mem_cons_of_mem _ q)
    obtain ⟨r1, r2, r3, r4, r5⟩ := J.pin p hp'
    exact ⟨r1, by rw [upd_ne (hne p hp)]; exact r2, r3, r4, r5⟩
  · by_cases hb : b = a
    · subst hb
      rw [upd_same] at e
      cases e
      exact xo_ok g1 hz hd
    · rw [upd_ne hb] at e
      refine (J.hok b u e).stay (fun _ _ _ q => q) (fun c q => ?_) fun c xs q => ?_
      · rw [upd_ne (nb q)]; exact q
      · rw [upd_ne (nb q)]; exact q
theorem sky_new {B : Heap} {l : List Env} {a L : Addr} {Z : Obj → Prop} {h : Heap} (k : Sky B l a Z L h) : B.get? a = none := by
  rcases k with ⟨_, k, _⟩ | ⟨_, k, _⟩ | ⟨_, k, _⟩
  · exact k
  · exact k
  · exact k
/-- the wish of «except x as n: suite» whose exception is known from then on -/
def wKeep (K : PySem.W.Frag) (c : Value) (i : Nat) (ts : Addr → Value → Option Addr → TS) (Wo : WX) (D : Ends) : WX := fun cls d τ H =>
  ∃ b, PySem.W.exmOne K cls c = some b ∧ (b = true → ∀ a, H a = none → ts a cls d { nx := fun τ1 H1 => H1 a = none → D.nx (τ1.set i none) (upd H1 a (XO cls d a)), rt := fun _ _ => False, bk := fun _ _ => False, ct := fun _ _ => False } (τ.set i (some (.ref a))) H) ∧ (b = false → Wo cls d τ H)
theorem ps_keep {x n : Str} {c : Value} {i : Nat} {body sut : List Stmt} {s0 : Stmt} {q1 q2 q3 : Pos} {tb : WX → TS} {ts : Addr → Value → Option Addr → TS} {Wo : WX} (hst : Y.stack = Y.env :: Y.outer) (hfr : Y.env.frame = some Y.env.locals) (hex : Y.ex = []) (nd : Y.N.Nodup) (hi : Y.N[i]? = some n) (hkn : Y.env.kindOf n = some .local) (hcl : Names Y x c) (tk : Takes Y Wo)
    (hbo : ∀ (V : WX) (pl : List (Addr × Obj)) (xw : Value → Shared → Prop), Takes (Y.tr pl xw) V → PassesOwn (model Y.prog Y.w) Y.A Y.env xw → PSs (Y.tr pl xw) body (tb V))
    (hsu : ∀ (a : Addr) (ox : Obj) (cls : Value) (d : Option Addr) (pl : List (Addr × Obj)), Zc cls d ox → (∃ fs, ox.data = .fields fs) → PSs (Y.suite a ((a, ox) :: pl)) (s0 :: sut) (ts a cls d)) :
    PS Y (.Try body [.ExceptHandler (some (.Name x q1)) (some n) (s0 :: sut) q2] [] [] q3) (fun D τ H => tb (wKeep Y.K c i ts Wo D) D τ H) := by
  refine ⟨fun ps t τ H D J h => ?_⟩
  have yk := J.ok
  have afr : Y.A.frames = some (Y.env :: Y.outer) := by rw [yk.frames, hst]
  have nloc : Loc Y.env.scope n := .inl hkn
  refine wpAny_Try_except ?_
  refine wpAny_mono ((hbo (wKeep Y.K c i ts Wo D) (Y.pn ++ ps) (fun e t1 => wpAny (model Y.prog Y.w) Y.A (noteFrame e Y.env) (fun _ t2 => wpAny (model Y.prog Y.w) Y.A (setFlight e none) (fun _ t3 =>
    wpAny (model Y.prog Y.w) Y.A (handleBy e Y.env [.ExceptHandler (some (.Name x q1)) (some n) (s0 :: sut) q2]) (SP Y ps D) Y.xe t3) Y.xe t2) Y.xe t1) (fun u t' fly => ?_) PassesOwn.looking).run [] t τ H D (J.toTry _) h) (fun fl t1 hend => ?_) (fun _ _ he => he)
  · obtain ⟨a, B, tI, ps', τ', H', cls, d, rfl, J0, grd, ups, sky, na, hos, hag, b, hb1, yes, no⟩ := fly
    have JI : Inv Y ps τ' H' tI := J0.ofTry yk
    have newB := sky_new sky
    have skyS : Sky B (Y.env :: Y.outer) a (Zc cls d) Y.env.locals t'.heap := by rw [← hst]; exact sky
    show wpAny (model Y.prog Y.w) Y.A (noteFrame (.ref a) Y.env) _ _ _
    refine Sky.land Zc.steady afr hfr skyS fun h3 f3 u3 => ?_
    have J3 : Inv Y ps τ' H' { t' with heap := h3 } := JI.landed grd f3.1 (ups.trans u3) hos hag
    obtain ⟨ox3, fs3, ex3, ez3, ed3⟩ := f3.there
    have apart : a ∉ frs (Y.env :: Y.outer) := fun hm => by
      obtain ⟨_, o', e', hnf⟩ := f3.2.2.1.mem hm
      rw [ex3] at e'
      cases e'
      exact hnf _ ed3
    have aL : a ≠ Y.env.locals := fun z => apart (List.mem_filterMap.mpr ⟨Y.env, List.mem_cons_self, by rw [hfr, z]⟩)
    have aF : a ∉ Y.fs := fun hm => by
      obtain ⟨e, he, q⟩ := List.mem_filterMap.mp hm
      exact apart (List.mem_filterMap.mpr ⟨e, List.mem_cons_of_mem _ he, q⟩)
    have newI : tI.heap.get? a = none := by
      cases q : tI.heap.get? a with
      | none => rfl
      | some o =>
        have := grd a o q (by show a ∉ frs Y.stack; rw [hst]; exact apart)
        rw [newB] at this
        cases this
    have new0 : Y.s_0.heap.get? a = none := by
      cases q : Y.s_0.heap.get? a with
      | none => rfl
      | some o =>
        obtain ⟨o', q'⟩ := JI.base.there a o q (by rw [hex]; exact List.not_mem_nil)
        rw [newI] at q'
        cases q'
    have others : ∀ p ∈ Y.pn ++ ps, p.1 ≠ a := fun p hp z => by
      have := (JI.pin p hp).1
      rw [z, newI] at this
      cases this
    have S3 := J3.suite ex3 ed3 na aL aF
    refine wpAny_handleBy_cons (codeAny_handlers_test ?_) (by intro q; cases q)
    have tyA : PySem.W.Looks (model Y.prog Y.w) h3 (typeOf (.ref a)) cls := fun A Q E s k q => wpAny_typeOf_ref (k _ _ ex3) (by rw [ez3.1]; exact q)
    have look := PySem.W.exm_one (M := model Y.prog Y.w) (J3.kIn) tyA hb1
    have nameC : ∀ {Q : Value → Shared → Prop} {E : Value → Shared → Prop}, Q c { t' with heap := h3 } → wpAny (model Y.prog Y.w) (Y.A.mark (some (.ref a))) (eval (.Name x q1) Y.env) Q E { t' with heap := h3 } := fun {Q E} q => by
      obtain ⟨hg, hdb, hm | ⟨hm, hv, hnn⟩⟩ := hcl
      · exact ld_glob (X := Y.suite a ((a, ox3) :: (Y.pn ++ ps))) S3 hg hm q hdb
      · exact ld_blt (X := Y.suite a ((a, ox3) :: (Y.pn ++ ps))) S3 hg hm hv q hnn hdb
    refine nameC (look.here ?_)
    cases b with
    | true =>
      refine codeAny_handlers_suite_as ?_
      refine HandSPX.lands_againZ f3 fun h4 f4 u4 => ?_
      have J4 : Inv Y ps τ' H' { t' with heap := h4 } := JI.landed grd f4.1 ((ups.trans u3).trans u4) hos hag
      obtain ⟨ox4, fs4, ex4, ez4, ed4⟩ := f4.there
      have S4 := J4.suite ex4 ed4 na aL aF
      refine store_ok (X := Y.suite a ((a, ox4) :: (Y.pn ++ ps))) (v := .ref a) S4 nd hi nloc rfl (fun t5 S5 => ?_) (.inr hkn)
      refine wpAny_mono ((hsu a ox4 cls d (Y.pn ++ ps) ez4 ⟨_, ed4⟩).run [] t5 _ H' _ S5 (yes rfl a na)) (fun fl t6 hend => ?_) (fun _ _ z => False.elim z)
      cases fl with
      | next =>
        obtain ⟨τ6, H6, S6, q6⟩ := hend
        have K6 : Inv Y ((a, ox4) :: ps) τ6 H6 t6 := ⟨yk, S6.os, S6.bare, S6.base, S6.loc, S6.cell, S6.free, S6.freeC, fun p hp => S6.pin p (by
          rcases List.mem_append.mp hp with r | r
          · exact List.mem_append_left _ (List.mem_cons_of_mem _ (List.mem_append_left _ r))
          · rcases List.mem_cons.mp r with r | r
            · rw [r]
              exact List.mem_append_left _ List.mem_cons_self
            · exact List.mem_append_left _ (List.mem_cons_of_mem _ (List.mem_append_right _ r))), S6.hok, S6.len⟩
        have na6 : H6 a = none := (K6.pin (a, ox4) (List.mem_append_right _ List.mem_cons_self)).2.1
        exact gone_ok (Q := fun _ t7 => SP Y ps D .next t7) K6 nd hi hkn fun t7 K7 => ⟨_, _, inv_keepX K7 ez4 ed4 new0 others, q6 na6⟩
      | brk =>
        obtain ⟨τ6, H6, S6, q6⟩ := hend
        exact q6.elim
      | cont =>
        obtain ⟨τ6, H6, S6, q6⟩ := hend
        exact q6.elim
      | ret u =>
        obtain ⟨v6, τ6, H6, S6, r6, q6⟩ := hend
        exact q6.elim
    | false =>
      show wpAny _ Y.A (handleBy (.ref a) Y.env []) _ _ _
      refine wpAny_handleBy_nil ?_
      obtain ⟨k1, k2, k3, oy, ys, Tr, oT, tt, ky, kz, kd, kh, kr⟩ := id f3
      unfold PySem.passOn
      refine wpAny_bind (wpAny_field ky kd kh ?_)
      rw [if_neg (show ¬ ((Value.ref Tr == Value.none) = true) from by simp)]
      have last : wpAny (model Y.prog Y.w) Y.A (setFlight (.ref a) Y.env.frame) (fun _ t4 => wpAny (model Y.prog Y.w) Y.A (throw (.ref a) : Sem Flow) (SP Y ps D) Y.xe t4) Y.xe { t' with heap := h3 } := by
        rw [hfr]
        refine HandSPX.setFlight_upZ f3 fun h4 hh4 u4 => wpAny_throw (tk _ _ ?_)
        exact ⟨a, B, tI, ps, τ', H', cls, d, rfl, JI, grd, (ups.trans u3).trans u4, .inr (.inr (by rw [hst]; exact hh4)), na, hos, hag, no rfl⟩
      first
        | exact wpAny_bind (wpAny_pure (wpAny_bind last))
        | exact wpAny_bind last
  · cases fl with
    | next =>
      obtain ⟨τ1, H1, J1, q⟩ := hend
      exact wpAny_execs_nil ⟨τ1, H1, J1.ofTry yk, q⟩
    | brk =>
      obtain ⟨τ1, H1, J1, q⟩ := hend
      exact ⟨τ1, H1, J1.ofTry yk, q⟩
    | cont =>
      obtain ⟨τ1, H1, J1, q⟩ := hend
      exact ⟨τ1, H1, J1.ofTry yk, q⟩
    | ret u =>
      obtain ⟨v, τ1, H1, J1, r, q⟩ := hend
      exact ⟨v, τ1, H1, J1.ofTry yk, r, q⟩
end
end G
/-! raise, try .. except C as e: y = e; isinstance of what was caught. -/
namespace G
open PySem L2
/-- an own exception class without __init__, over ValueError -/
structure XF (K : PySem.W.Frag) (mg : Str → Option Value) (x : Str) (C : Addr) : Prop where
  ns : PySem.W.nsIn K mainGlobals x = some (some (.ref C))
  gl : mg x = some (.ref C)
  ex : PySem.W.excIn K C [.type "ValueError", .type "Exception", .type "BaseException", .type "object"] "ValueError.__new__" = true
  kp : PySem.W.keepIn K (.ref C) = true
  sb : PySem.W.subIn K (.ref C) (.type "BaseException") = some true
  ty : PySem.W.typeIn K (.ref C) = some (.type "type")
theorem XF.xr {K : PySem.W.Frag} {mg : Str → Option Value} {x : Str} {C : Addr} (h : XF K mg x C) : xrK K x = some (.ref C) := by
  unfold xrK
  rw [h.ns]
section
variable {ι : Type} {M : MI} {P : Program} {w : World} {K : PySem.W.Frag} {mg : Str → Option Value} {base : Heap} {N : List Str} {W : WX} {n : Nat} {X : ι → Cx}
def sRaise (x : Str) : Sm M Out := fun z => .ex ⟨x, none⟩ z
theorem ds_raise {x m : Str} {C : Addr} {j : Nat} {p1 p2 p3 pos : Pos} (p : Pc P w K mg base N W n X) (tk : ∀ j, Takes (X j) W) (f : XF K mg x C) (hg : ∀ j, Gl (X j) x := by intro _; rfl) (hdb : (x == ("__debug__" : Str)) = false := by decide) :
    DS M (xrK K) K X W (.Raise (some (.Call (.Name x p1) [.Constant (.str m) j p2] [] p3)) none pos) (sRaise x) := by
  refine ⟨fun _ σ H => W (.ref C) none σ H, fun q => ?_, fun G σ H F z D hK hx ok h => ?_⟩
  · exact ps_raise (p.c q) (tk q) (pmk_own PySem.F.excBase_ValueError (by rw [p.k q]; exact f.ex) (by rw [p.g q]; exact f.gl) (by rw [p.k q]; exact f.kp) (raises_own (by rw [p.k q]; exact f.sb) (by rw [p.k q]; exact f.ty)) (hg q) hdb)
  · exact h (.ref C) none σ H F (Same.refl _) ok ⟨by rw [hx]; exact f.xr, rfl⟩
/-! ### the contexts of a try's body -/
def Xt (X : ι → Cx) (V : WX) : {p : ι × List (Addr × Obj) × (Value → Shared → Prop) // Takes ((X p.1).tr p.2.1 p.2.2) V ∧ PassesOwn (model (X p.1).prog (X p.1).w) (X p.1).A (X p.1).env p.2.2} → Cx := fun q => (X q.1.1).tr q.1.2.1 q.1.2.2
theorem Pc.tr (p : Pc P w K mg base N W n X) (V : WX) : Pc P w K mg base N V n (Xt X V) :=
  ⟨⟨fun q => p.k q.1.1, fun q => p.c q.1.1, fun q => p.n q.1.1, p.nd, fun q => p.g q.1.1, fun q => p.u q.1.1⟩, fun q => p.pr q.1.1, fun q => p.pw q.1.1, fun q => p.pb q.1.1, fun q => p.room q.1.1, fun q σ => by
    have e := passAt q.2.1 σ
    have e1 : (Xt X V q).prog = P := p.pr q.1.1
    have e2 : (Xt X V q).w = w := p.pw q.1.1
    rw [show ((X q.1.1).tr q.1.2.1 q.1.2.2).prog = P from e1, show ((X q.1.1).tr q.1.2.1 q.1.2.2).w = w from e2] at e
    exact e, fun q => p.gd q.1.1⟩
def sCatch (i y : Nat) (tb : Str → Option Bool) (f : Sm M Out) : Sm M Out := fun z => match f z with
  | .ex x z1 => (match tb x.c, x.arg with
    | some true, none => if i < z1.rho.length then .ok .nx { z1 with rho := ((z1.rho.set i (some (.d (.exc x.c [])))).set y (some (.d (.exc x.c [])))).set i none } else .bad
    | some false, _ => .ex x z1
    | _, _ => .bad)
  | r => r
theorem Ok.unset {G : Gx} {σ : St} {H F : Hp} {z : Z M.T} (ok : Ok M G σ H F z) (i : Nat) : Ok M G (σ.set i none) H F { z with rho := z.rho.set i none } := ok.wipe [i]
theorem ds_catch {x nm yn : Str} {c : Value} {i y : Nat} {body : List Stmt} {f : Sm M Out} {tb : Str → Option Bool} {q1 q2 q3 q4 q5 q6 : Pos} (p : Pc P w K mg base N W n X) (hst : ∀ j, (X j).stack = (X j).env :: (X j).outer) (hfr : ∀ j, (X j).env.frame = some (X j).env.locals) (hex : ∀ j, (X j).ex = []) (tk : ∀ j, Takes (X j) W)
    (hi : ∀ j, (X j).N[i]? = some nm) (hk : ∀ j, (X j).env.kindOf nm = some .local) (hy : ∀ j, (X j).N[y]? = some yn) (hly : ∀ j, (X j).env.scope.names.lookup yn = some .local) (hln : ∀ j, (X j).env.scope.names.lookup nm = some .local) (hcl : ∀ j, Names (X j) x c)
    (htb : ∀ s b, tb s = some b → ∃ C, xrK K s = some (.ref C) ∧ PySem.W.exmOne K (.ref C) c = some b) (hb : ∀ V, DSs M (xrK K) K (Xt X V) V body f)
    (hs : ∀ j (a : Addr) (pl : List (Addr × Obj)), swapsWith (.Name nm q4) (some (.Name yn q5)) q6.line ((X j).suite a pl).env = pure false := by intro _ _ _; rfl)
    (hdn : (nm == ("__debug__" : Str)) = false := by decide) (hcn : (nm == ("__classdict__" : Str)) = false := by decide) :
    DS M (xrK K) K X W (.Try body [.ExceptHandler (some (.Name x q1)) (some nm) [.Assign [.Name yn q5] (.Name nm q4) q6] q2] [] [] q3) (sCatch i y tb f) := by
  refine ⟨fun D τ H => (hb (wKeep K c i (fun _ _ _ => tAsg (tVar i) (gName y)) W D)).choose D τ H, fun j => ?_, fun G σ H F z D hK hx ok hh => ?_⟩
  · have r := ps_keep (tb := fun V => (hb V).choose) (ts := fun _ _ _ => tAsg (tVar i) (gName y)) (q1 := q1) (q2 := q2) (q3 := q3) (s0 := .Assign [.Name yn q5] (.Name nm q4) q6) (sut := []) (hst j) (hfr j) (hex j) (p.toPl.nds j) (hi j) (hk j) (hcl j) (tk j) (fun V pl xw h1 h2 => (hb V).choose_spec.1 ⟨(j, pl, xw), h1, h2⟩) (fun a ox cls d pl hz hd => pss_one (ps_set (X := (X j).suite a ((a, ox) :: pl)) (p.toPl.nds j) (hy j) (.inl (hly j)) (pe_var (X := (X j).suite a ((a, ox) :: pl)) (hi j) (.inl (hln j)) hdn hcn) (hs j a _) (.inr (hly j))))
    rw [p.k j] at r
    exact r
  · refine (hb (wKeep K c i (fun _ _ _ => tAsg (tVar i) (gName y)) W D)).choose_spec.2 G σ H F z D hK hx ok ?_
    unfold sCatch at hh
    cases e : f z with
    | bad => rw [e] at hh; exact hh
    | ok o z1 =>
      rw [e] at hh
      cases o with
      | nx => exact hh
      | bk => exact hh
      | ct => exact hh
      | rt s => exact hh
    | ex xx z1 =>
      rw [e] at hh
      intro cls d σ1 H1 F1 s1 ok1 xo
      obtain ⟨xo1, xo2⟩ := xo
      rw [hx] at xo1
      cases et : tb xx.c with
      | none => simp only [et] at hh; exact hh.elim
      | some b =>
        obtain ⟨C, hC, hm⟩ := htb _ _ et
        rw [hC] at xo1
        cases xo1
        cases b with
        | false =>
          simp only [et] at hh
          exact ⟨false, hm, (fun z => by cases z), fun _ => hh (.ref C) d σ1 H1 F1 s1 ok1 ⟨by rw [hx]; exact hC, xo2⟩⟩
        | true =>
          cases ea : xx.arg with
          | some a => simp only [et, ea] at hh; exact hh.elim
          | none =>
            simp only [et, ea] at hh xo2
            subst xo2
            by_cases hl : i < z1.rho.length
            · rw [if_pos hl] at hh
              refine ⟨true, hm, fun _ a na => ?_, fun z => by cases z⟩
              refine ⟨.ref a, List.getElem?_set_self (by rw [← ok1.len]; exact hl), fun _ => ?_⟩
              have okA := ok1.newF na (XO (.ref C) none a) (fun _ e => by unfold XO at e; cases e)
              have da : Da G.K (upd F1 a (XO (.ref C) none a)) (.ref a) (.exc xx.c []) := .exc upd_same (by rw [hK]; exact hC)
              have okB := okA.set (i := i) (v := .ref a) (s := .d (.exc xx.c [])) da (fun _ e => by cases e)
              have okC := okB.set (i := y) (v := .ref a) (s := .d (.exc xx.c [])) da (fun _ e => by cases e)
              exact hh _ _ _ (s1.trans (same_upd (ok1.freshF na))) (okC.unset i)
            · rw [if_neg hl] at hh
              exact hh.elim
end
end G
namespace G
open PySem L2
/-! ### isinstance of an exception that was caught -/
def rIsX (K : PySem.W.Frag) : List V → Hp → VK → Prop := fun xs H Q => ∃ (a C : Addr) (c : V) (u : Value) (b : Bool), xs = [.ref a, c] ∧ H a = some (XO (.ref C) none a) ∧ ExcC K C ∧ (∀ v, RelV c v → v = u) ∧ PySem.W.kitOne K (.ref C) u = some b ∧ Q (.bl b) H
def rIsXT (K : PySem.W.Frag) : List V → Hp → VK → Prop := fun xs H Q => ∃ (a C tp : Addr) (cs : List V) (us : List Value) (b : Bool), xs = [.ref a, .ref tp] ∧ H a = some (XO (.ref C) none a) ∧ H tp = some (.tup cs) ∧ ExcC K C ∧ (∀ vs, Vals cs vs → vs = us) ∧ PySem.W.kitAny K (.ref C) us = some b ∧ Q (.bl b) H
theorem xo_inst {P : Program} {w : World} {H : Hp} {h : Heap} {a C : Addr} (k : HOk P w H h) (e : H a = some (XO (.ref C) none a)) : ∃ ox, PySem.W.InstAt h a ox C none := by
  obtain ⟨⟨ox, fs, g, z, d⟩, _⟩ := (show ObjOk P w H h a (XO (.ref C) none a) from k a _ e)
  obtain ⟨oc, od, oda, osl⟩ := ox
  obtain ⟨z1, z2⟩ := z
  dsimp only at z1 z2 d
  subst z1 z2 d
  exact ⟨_, g, rfl, rfl, trivial⟩
theorem call_isX {X : Cx} : CallR X (.builtin "isinstance") (rIsX X.K) := by
  intro pins s σ H xs us Q I r h
  obtain ⟨a, C, c, u, b, rfl, hH, E, hc, e, q⟩ := h
  obtain ⟨u1, u2, rfl, r1, r2⟩ := vals2 r
  cases (show u1 = Value.ref a from r1)
  have e2 := hc _ r2
  subst e2
  obtain ⟨ox, J⟩ := xo_inst I.hok hH
  exact PySem.W.kia_one (PySem.W.handS_kitx_exc E.hg E.hk E.hs E.hd E.ha E.hn E.ht E.hm) I.kIn J e (fun z => nomatch z) fun tk => ⟨.bl b, H, I.tok tk, rfl, q⟩
theorem call_isXT {X : Cx} : CallR X (.builtin "isinstance") (rIsXT X.K) := by
  intro pins s σ H xs us Q I r h
  obtain ⟨a, C, tp, cs, vs, b, rfl, hH, hT, E, hc, e, q⟩ := h
  obtain ⟨u1, u2, rfl, r1, r2⟩ := vals2 r
  cases (show u1 = Value.ref a from r1)
  cases (show u2 = Value.ref tp from r2)
  obtain ⟨ox, J⟩ := xo_inst I.hok hH
  obtain ⟨_, its, rv, o, h1, h2, k, h3⟩ := (show ObjOk X.prog X.w H s.heap tp (.tup cs) from I.hok tp _ hT)
  have e3 := hc _ rv
  subst e3
  obtain ⟨oc, od, dt, sl⟩ := o
  simp only at h2 h3
  subst h2 h3
  exact PySem.W.kia_tup (PySem.W.handS_kitx_exc E.hg E.hk E.hs E.hd E.ha E.hn E.ht E.hm) I.kIn J h1 e (fun z => nomatch z) fun tk => ⟨.bl b, H, I.tok tk, rfl, q⟩
section
variable {ι : Type} {M : MI} {xr : Str → Option Value} {K : PySem.W.Frag} {mg : Str → Option Value} {N : List Str} {W : WX} {X : ι → Cx}
def dIsX (tb : Str → Option Bool) : D → Option R := fun d => match d with
  | .exc c [] => (tb c).map fun b => .d (.bl b)
  | _ => none
theorem Rv.exc {F H : Hp} {v : V} {c : Str} (s : SameX F H) (h : Rv K F H v (.exc c [])) : ∃ a C, v = .ref a ∧ H a = some (XO (.ref C) none a) ∧ xrK K c = some (.ref C) := by
  rcases h with h | ⟨a, vs, xs, _, e, _⟩
  · cases h with
    | exc q r => exact ⟨_, _, rfl, s.ext q, r⟩
  · cases e
theorem de_isX {e eT : Expr} {vT : V} {u : Value} {tb : Str → Option Bool} {g : Sm M S} {pp pos : Pos} (p : Pl K X N mg) (hm : mg "isinstance" = none) (hT : ∀ j, PE (X j) eT (tC vT)) (hu : ∀ v, RelV vT v → v = u) (htb : ∀ s b, tb s = some b → ∃ C, xrK K s = some (.ref C) ∧ ExcC K C ∧ PySem.W.kitOne K (.ref C) u = some b) (h : DE M xr K X W e g) (hg : ∀ j, Gl (X j) "isinstance" := by intro _; rfl)
    (he : ∀ j, starEach [e, eT] (X j).env = (false, eval e (X j).env) :: starEach [eT] (X j).env := by intro _; rfl) (he2 : ∀ j, starEach [eT] (X j).env = (false, eval eT (X j).env) :: starEach [] (X j).env := by intro _; rfl) (hpl : ∀ j, (backTo pos (starEach [eT] (X j).env)).any (·.1) = false := by intro _; rfl) :
    DE M xr K X W (.Call (.Name "isinstance" pp) [e, eT] [] pos) (eUn (dIsX tb) g) := by
  obtain ⟨tt, pe, c⟩ := h
  refine ⟨tCB (rIsX K) (tCons tt (tCons (tC vT) tNil)), fun j => ?_, fun G σ H F z Q hK hx ok hh => ?_⟩
  · rw [← p.k j]
    exact pe_callB call_isX (hg j) (by rw [p.g j]; exact hm) PyProof.Rows.boot_isinstance (pa_cons (pe j) (pa_cons (hT j) pa_nil (he2 j)) (he j)) (by decide) (by decide) (he j) (hpl j)
  · refine cmp_opd c G σ H F z _ hK hx ok (hit_bind hh fun s z1 v H1 F1 _ sm1 ok1 e1 h1 => ?_)
    have q := fin_hit ok1 h1
    cases er : rd z1 s with
    | none => rw [er] at q; exact q.elim
    | some x =>
      rw [er] at q
      have q' : Hit0 G.K F1 H1 (dIsX tb x) Q := q
      unfold dIsX at q'
      split at q'
      · rename_i cn
        cases et : tb cn with
        | none => rw [et] at q'; exact q'.elim
        | some b =>
          rw [et] at q'
          obtain ⟨a, C, rfl, a1, a2⟩ := Rv.exc ok1.sub (EO.rv ok1 e1 er)
          obtain ⟨C', b1, b2, b3⟩ := htb _ _ et
          rw [hK, b1] at a2
          cases a2
          exact ⟨a, C, vT, u, b, rfl, a1, b2, hu, b3, q' _ (.bl b)⟩
      · exact q'.elim
/-- a row of constants -/
def tCs : List V → TA
  | [] => tNil
  | v :: r => tCons (tC v) (tCs r)
theorem tCs_is : ∀ (vs : List V) (σ : St) (H : Hp) (Q : List V → Hp → Prop), Q vs H → tCs vs σ H Q
  | [], _, _, _, h => h
  | v :: r, σ, H, Q, h => tCs_is r σ H (fun xs H2 => Q (v :: xs) H2) h
theorem de_isXT {e : Expr} {es : List Expr} {k : Nat} {vs : List V} {us : List Value} {tb : Str → Option Bool} {g : Sm M S} {pp pt pos : Pos} (p : Pl K X N mg) (hm : mg "isinstance" = none) (hl : vs.length ≤ sizeLine) (hT : ∀ j, PA (X j) es (tCs vs)) (hu : ∀ ws, Vals vs ws → ws = us) (htb : ∀ s b, tb s = some b → ∃ C, xrK K s = some (.ref C) ∧ ExcC K C ∧ PySem.W.kitAny K (.ref C) us = some b) (h : DE M xr K X W e g) (hg : ∀ j, Gl (X j) "isinstance" := by intro _; rfl)
    (he : ∀ j, starEach [e, .Tuple es k pt] (X j).env = (false, eval e (X j).env) :: starEach [.Tuple es k pt] (X j).env := by intro _; rfl) (he2 : ∀ j, starEach [.Tuple es k pt] (X j).env = (false, eval (.Tuple es k pt) (X j).env) :: starEach [] (X j).env := by intro _; rfl) (hpl : ∀ j, (backTo pos (starEach [.Tuple es k pt] (X j).env)).any (·.1) = false := by intro _; rfl) :
    DE M xr K X W (.Call (.Name "isinstance" pp) [e, .Tuple es k pt] [] pos) (eUn (dIsX tb) g) := by
  obtain ⟨tt, pe, c⟩ := h
  refine ⟨tCB (rIsXT K) (tCons tt (tCons (tTup (tCs vs)) tNil)), fun j => ?_, fun G σ H F z Q hK hx ok hh => ?_⟩
  · rw [← p.k j]
    exact pe_callB call_isXT (hg j) (by rw [p.g j]; exact hm) PyProof.Rows.boot_isinstance (pa_cons (pe j) (pa_cons (pe_tup (hT j)) pa_nil (he2 j)) (he j)) (by decide) (by decide) (he j) (hpl j)
  · refine cmp_opd c G σ H F z _ hK hx ok (hit_bind hh fun s z1 v H1 F1 _ sm1 ok1 e1 h1 => ?_)
    refine tCs_is vs σ H1 _ ⟨hl, fun t ht => ?_⟩
    have okT := ok1.new ht (.tup vs)
    have q := fin_hit okT h1
    cases er : rd z1 s with
    | none => rw [er] at q; exact q.elim
    | some x =>
      rw [er] at q
      have q' : Hit0 G.K F1 (upd H1 t (.tup vs)) (dIsX tb x) Q := q
      unfold dIsX at q'
      split at q'
      · rename_i cn
        cases et : tb cn with
        | none => rw [et] at q'; exact q'.elim
        | some b =>
          rw [et] at q'
          obtain ⟨a, C, rfl, a1, a2⟩ := Rv.exc okT.sub (EO.rv okT e1 er)
          obtain ⟨C', b1, b2, b3⟩ := htb _ _ et
          rw [hK, b1] at a2
          cases a2
          exact ⟨a, C, t, vs, us, b, rfl, a1, upd_same, b2, hu, b3, q' _ (.bl b)⟩
      · exact q'.elim
end
end G
/-! The law's own place in its script: a list of one number, told through all calls. -/
namespace G
open PySem L2
abbrev M0 : MI where
  T := Unit
  ok := fun _ _ _ ms _ => ms = []
  mono := fun _ _ _ h => h
abbrev M2 : MI where
  T := Int
  ok := fun _ _ H ms t => ∃ a, ms = [a] ∧ H a = some (.lst [.int t])
  mono := fun {K F F' H H' ms t} hF _ hm h => by
    obtain ⟨a, rfl, h1⟩ := h
    exact ⟨a, rfl, (hm a (by simp)).trans h1⟩
def eSpot (i : Nat) : Sm M2 S := fun z => match z.rho[i]? with
  | some (some (.m 0)) => .ok (.d (.int z.m)) z
  | _ => .bad
section
variable {ι : Type} {xr : Str → Option Value} {K : PySem.W.Frag} {X : ι → Cx} {W : WX} {N : List Str} {mg : Str → Option Value}
theorem de_spot (i : Nat) {x : Str} {j : Nat} {p1 p2 pos : Pos} (p : Pl K X N mg) (hN : ∀ j, (X j).N[i]? = some x := by intro _; rfl) (hv : ∀ j, Vis (X j).env.scope x := by first | exact fun _ => Or.inl rfl | exact fun _ => Or.inr (Or.inl rfl) | exact fun _ => Or.inr (Or.inr rfl)) (hd : (x == ("__debug__" : Str)) = false := by decide)
    (hcd : (x == ("__classdict__" : Str)) = false := by decide) : DE M2 xr K X W (.Subscript (.Name x p1) (.Constant (.int 0) j p2) pos) (eSpot i) := by
  refine ⟨tOp (rIxL K) (tVar i) (tC (.int 0)), fun q => by rw [← p.k q]; exact pe_ix ix_list (pe_var (hN q) (hv q) hd hcd) pe_int (fun _ _ => rfl), fun G σ H F z Q hK hx ok h => ?_⟩
  unfold eSpot at h
  split at h
  · rename_i hs
    obtain ⟨v, e, a, ha, rfl⟩ := ok.slot i _ hs
    obtain ⟨b, hb, hH⟩ := ok.mach
    rw [hb] at ha
    cases ha
    exact ⟨.ref a, e, a, [.int z.m], 0, .int z.m, rfl, rfl, SqL.of hH, rfl, h _ H F (Same.refl _) ok (.int _)⟩
  · exact h.elim
def sSpot (i : Nat) (f : Sm M2 S) : Sm M2 Out := fun z => (opd f z).bind fun s z1 => match rd z1 s, z1.rho[i]? with
  | some (.int n), some (some (.m 0)) => .ok .nx { z1 with m := n }
  | _, _ => .bad
theorem Ok.spot {G : Gx} {σ : St} {H F : Hp} {z : Z Int} (ok : Ok M2 G σ H F z) {a : Addr} (hm : G.ms = [a]) (n : Int) : Ok M2 G σ (upd H a (.lst [.int n])) F { z with m := n } where
  sub := same_updR ok.sub (ok.msF a (by rw [hm]; exact List.mem_cons_self))
  len := ok.len
  slot := fun i s e => by
    obtain ⟨v, h1, h2⟩ := ok.slot i s e
    refine ⟨v, h1, ?_⟩
    cases s with
    | d x => exact h2
    | l xs =>
      obtain ⟨b, vs, rfl, h3, h4, h5, h6, h7⟩ := h2
      have nb : b ≠ a := fun e => h7 (by rw [hm, e]; exact List.mem_cons_self)
      exact ⟨b, vs, rfl, by rw [upd_ne nb]; exact h3, h4, h5, h6, h7⟩
    | v _ => exact h2
    | m j => exact h2
  dist := ok.dist
  tg := fun b ps e => by
    have nb : b ≠ a := fun q => by rw [q, ok.msF a (by rw [hm]; exact List.mem_cons_self)] at e; cases e
    exact ⟨by rw [upd_ne nb]; exact (ok.tg b ps e).1, (ok.tg b ps e).2⟩
  mach := ⟨a, hm, upd_same⟩
  msF := ok.msF
  msP := ok.msP
  msH := fun b hb => by
    rw [hm] at hb
    cases List.mem_singleton.mp hb
    rw [upd_same]
    intro e
    cases e
  fr := fun b o q => by
    obtain ⟨h1, h2⟩ := ok.fr b o q
    have nb : b ≠ a := fun e => by
      rw [e, ok.msP a (by rw [hm]; exact List.mem_cons_self)] at q
      cases q
    exact ⟨by rw [upd_ne nb]; exact h1, h2⟩
theorem ds_spot (i : Nat) {x : Str} {j : Nat} {e : Expr} {f : Sm M2 S} {p1 p2 p3 pos : Pos} (p : Pl K X N mg) (h : DE M2 xr K X W e f) (hN : ∀ j, (X j).N[i]? = some x := by intro _; rfl) (hv : ∀ j, Vis (X j).env.scope x := by first | exact fun _ => Or.inl rfl | exact fun _ => Or.inr (Or.inl rfl) | exact fun _ => Or.inr (Or.inr rfl)) (hd : (x == ("__debug__" : Str)) = false := by decide)
    (hcd : (x == ("__classdict__" : Str)) = false := by decide)
    (hs : ∀ q, swapsWithSole [.Subscript (.Name x p1) (.Constant (.int 0) j p2) p3] e pos.line (X q).env = pure false := by intro _; rfl) (hw : ∀ q, swappedStores [.Subscript (.Name x p1) (.Constant (.int 0) j p2) p3] e (X q).env = pure none := by intro _; rfl)
    (h1 : ∀ q, (assignEach [.Subscript (.Name x p1) (.Constant (.int 0) j p2) p3] (X q).env).map (·.2) = [assign (.Subscript (.Name x p1) (.Constant (.int 0) j p2) p3) (X q).env] := by intro _; rfl) :
    DS M2 xr K X W (.Assign [.Subscript (.Name x p1) (.Constant (.int 0) j p2) p3] e pos) (sSpot i f) := by
  obtain ⟨t, pe, c⟩ := h
  refine ⟨tAsg t (gSub (tVar i) (tC (.int 0)) rSetL), fun q => ps_asg (pe q) (pg_sub (pe_var (hN q) (hv q) hd hcd) pe_int set_list) (hs q) (hw q) (h1 q), fun G σ H F z D hK hx ok hh => ?_⟩
  refine cmp_opd c G σ H F z _ hK hx ok (hits_bind hh fun s z1 v H1 F1 _ sm ok1 ev h2 => ?_)
  cases er : rd z1 s with
  | none => simp only [er] at h2; exact h2.elim
  | some d =>
    cases d with
    | int n =>
      have hv := (EO.rv ok1 ev er).int
      subst hv
      cases es : z1.rho[i]? with
      | none => simp only [er, es] at h2; exact h2.elim
      | some o =>
        cases o with
        | none => simp only [er, es] at h2; exact h2.elim
        | some s' =>
          match s', es, h2 with
          | .m 0, es, h2 =>
            simp only [er, es] at h2
            obtain ⟨v, e, a, ha, rfl⟩ := ok1.slot i _ es
            obtain ⟨b, hb, hH⟩ := ok1.mach
            rw [hb] at ha
            cases ha
            exact ⟨.ref a, e, a, [.int z1.m], 0, 0, rfl, rfl, hH, rfl, h2 σ _ F1 (Same.refl _) (ok1.spot hb n)⟩
          | .m (k + 1), es, h2 => simp only [er, es] at h2; exact h2.elim
          | .d _, es, h2 => simp only [er, es] at h2; exact h2.elim
          | .l _, es, h2 => simp only [er, es] at h2; exact h2.elim
          | .v _, es, h2 => simp only [er, es] at h2; exact h2.elim
    | _ => simp only [er] at h2; exact h2.elim
end
/-! ### the law: what comes ahead, the place made, the rest -/
def zS (n : Nat) (ns : List Int) : Z Unit := { rho := some (.d (.scr ns)) :: List.replicate n none, m := () }
theorem law_runS {K : PySem.W.Frag} {xr : Str → Option Value} {E : XK} {N : List Str} {i : Nat} {tp t : TS} {fp : Sm M0 Out} {f : Sm M2 Out} {vs : List V} {H : Hp} {Q : VK} (hN : 1 ≤ N.length)
    (hf : ∀ ns : List Int, ns.length ≤ 63 → (∀ z ∈ ns, Builtin.Int.intBits z ≤ 1048576) → ∃ z1 z', fp (zS (N.length - 1) ns) = .ok .nx z1 ∧ f ⟨z1.rho.set i (some (.m 0)), 0⟩ = .ok (.rt (.d (.bl true))) z')
    (cp : SR M0 K xr (fun cls d _ H => E cls d H) tp fp) (c : SR M2 K xr (fun cls d _ H => E cls d H) t f) (h : spLaw K vs H Q E) : tSeq tp (tSeq (tAsg (tLst (tCons (tC (.int 0)) tNil)) (gName i)) t) { nx := fun _ H' => Q .non H', rt := Q } (L2.start N vs) H := by
  obtain ⟨a, ns, rfl, hs, hl, hbits, hq⟩ := h
  obtain ⟨z1, z', e1, e2⟩ := hf ns hl hbits
  have st : L2.start N [.ref a] = some (.ref a) :: List.replicate (N.length - 1) none := rfl
  rw [st]
  let F : Hp := fun b => if b = a then H a else none
  have sF : Same F H := fun b o q => by
    have q' : (if b = a then H a else none) = some o := q
    by_cases e : b = a
    · rw [if_pos e] at q'; rw [e]; exact q'
    · rw [if_neg e] at q'; cases q'
  have hsF : SqL K F a (ns.map V.int) := by
    have Fa : ∀ o, H a = some o → F a = some o := fun o q => by
      show (if a = a then H a else none) = some o
      rw [if_pos rfl]
      exact q
    rcases hs with (q | ⟨o, q⟩) | q
    · exact .inl (.inl (Fa _ q))
    · exact .inl (.inr ⟨o, Fa _ q⟩)
    · exact .inr q
  have key : ∀ (k : Nat) (s : S), (zS (N.length - 1) ns).rho[k]? = some (some s) → k = 0 ∧ s = .d (.scr ns) := fun k s e => by
    have e' : (some (S.d (.scr ns)) :: List.replicate (N.length - 1) none)[k]? = some (some s) := e
    match k, e' with
    | 0, e' => cases e'; exact ⟨rfl, rfl⟩
    | k + 1, e' =>
      rw [List.getElem?_cons_succ, List.getElem?_replicate] at e'
      split at e' <;> cases e'
  refine cp ⟨K, xr, [], fun _ => none, F⟩ _ H F (zS (N.length - 1) ns) _ rfl rfl ⟨samX sF, by simp [zS], fun k s e => ?_, fun k j xs ys v q1 _ _ _ => ?_, rfl, (fun b hb => by cases hb), (fun b hb => by cases hb), (fun b hb => by cases hb), (fun b o q => by cases q), fun b ps e => ⟨(by rw [sF b _ e]; intro z; cases z), rfl⟩⟩ ?_
  · obtain ⟨rfl, rfl⟩ := key k s e
    exact ⟨_, rfl, Da.scr hsF⟩
  · obtain ⟨_, q⟩ := key k _ q1
    cases q
  · rw [e1]
    intro σ1 H1 F1 sm ok1
    refine ⟨by show 1 ≤ sizeLine; rw [sizeLine_eq]; decide, fun p hp => ?_⟩
    show t _ (σ1.set i (some (.ref p))) (upd H1 p (.lst [.int 0]))
    have hz : ∀ (k : Nat) (s : S), (z1.rho.set i (some (.m 0)))[k]? = some (some s) → (k = i ∧ s = .m 0) ∨ (k ≠ i ∧ z1.rho[k]? = some (some s)) := fun k s e => by
      by_cases hk : k = i
      · subst hk
        by_cases hlt : k < z1.rho.length
        · rw [List.getElem?_set_self hlt] at e
          cases e
          exact .inl ⟨rfl, rfl⟩
        · rw [List.getElem?_eq_none (by rw [List.length_set]; omega)] at e
          cases e
      · rw [List.getElem?_set_ne (Ne.symm hk)] at e
        exact .inr ⟨hk, e⟩
    refine c ⟨K, xr, [p], fun _ => none, F1⟩ _ _ F1 ⟨z1.rho.set i (some (.m 0)), 0⟩ _ rfl rfl ⟨same_updR ok1.sub (ok1.freshF hp), by simp [ok1.len], fun k s e => ?_, fun k j xs ys v q1 q2 q3 q4 => ?_, ⟨p, rfl, upd_same⟩, fun b hb => ?_, fun _ _ => rfl, fun b hb => ?_, fun b o q => (by cases q), fun b ps e => ⟨by rw [upd_ne (ne_of_none e (ok1.freshF hp))]; exact (ok1.tg b ps e).1, rfl⟩⟩ ?_
    · rcases hz k s e with ⟨rfl, rfl⟩ | ⟨hk, e'⟩
      · refine ⟨.ref p, List.getElem?_set_self ?_, p, rfl, rfl⟩
        have : k < (z1.rho.set k (some (S.m 0))).length := (List.getElem?_eq_some_iff.mp e).1
        rw [List.length_set, ok1.len] at this
        exact this
      · obtain ⟨v, h1, h2⟩ := ok1.slot k s e'
        refine ⟨v, by rw [List.getElem?_set_ne (Ne.symm hk)]; exact h1, ?_⟩
        cases s with
        | d x => exact h2
        | l xs =>
          obtain ⟨b, vs, rfl, h3, h4, h5, _, h7⟩ := h2
          have nb := ne_of_none h3 hp
          exact ⟨b, vs, rfl, by rw [upd_ne nb]; exact h3, h4, h5, rfl, fun q => nb (List.mem_singleton.mp q)⟩
        | v _ => exact h2
        | m j =>
          obtain ⟨b, hb, _⟩ := h2
          simp at hb
    · rcases hz k _ q1 with ⟨_, q⟩ | ⟨hk, q1'⟩
      · cases q
      · rcases hz j _ q2 with ⟨_, q⟩ | ⟨hj, q2'⟩
        · cases q
        · rw [List.getElem?_set_ne (Ne.symm hk)] at q3
          rw [List.getElem?_set_ne (Ne.symm hj)] at q4
          exact ok1.dist k j xs ys v q1' q2' q3 q4
    · cases List.mem_singleton.mp hb
      exact ok1.freshF hp
    · cases List.mem_singleton.mp hb
      rw [upd_same]
      intro e
      cases e
    · rw [e2]
      intro v H2 F2 s2 r
      have hv : v = .bl true := by
        have := r.val
        cases (show Da K F2 v (.bl true) from this)
        rfl
      rw [hv]
      exact hq H2
end G
/-! enumerate of lists and tuples. -/
namespace G
open PySem L2 PySem.Spec PyProof.Rows
theorem meets_enum1 {v : Value} {o : Obj} {H : Heap → Prop} (B : Begins v o H) :
    Meets (Builtin.«enumerate.__new__» ⟨[.type "enumerate", v], []⟩) (fun _ R s => H s.heap ∧
      R (.ok (.ret (.ref (s.heap.push o).objs.size))) { s with heap := (s.heap.push o).push { cls := .type "enumerate", data := .fields #[.none, .bool false, .ref s.heap.objs.size, rawInt 0, .none, .none] } }) :=
  .of_wp fun prog w A R s hh => by
    obtain ⟨hp, gs, dr, tk, os⟩ := s
    obtain ⟨h1, hr⟩ := hh
    have hsub := sub_enumerate
    have itr : ∀ {A' : Around} {E : Value → Shared → Prop} {Q : Value → Shared → Prop}, Q (.ref hp.objs.size) ⟨hp.push o, gs, dr, tk, os⟩ → wpAny (model prog w) A' (pyIter v) Q E ⟨hp, gs, dr, tk, os⟩ :=
      fun q => B.iter prog w _ _ ⟨hp, gs, dr, tk, os⟩ _ h1 q
    wp_walk using itr
    refine wpAny_stack_any fun st => wpAny_pure ?_
    split
    · rename_i c _ _ _ _ _
      cases (c == Value.type "enumerate")
      · wp_walk using itr
        exact ⟨_, rfl, hr⟩
      · wp_walk using itr
        exact ⟨_, rfl, hr⟩
    · wp_walk using itr
      exact ⟨_, rfl, hr⟩
theorem enum1_begins {prog : Program} {w : World} {A : Around} {E : Value → Shared → Prop} {s : Shared} {v : Value} {o : Obj} {H : Heap → Prop} {Q : Value → Shared → Prop} (B : Begins v o H) (h1 : H s.heap)
    (hq : ∀ h', IsEnum h' (s.heap.objs.size + 1) s.heap.objs.size 0 .none → h'.get? s.heap.objs.size = some o → h'.objs.size = s.heap.objs.size + 2 → (∀ b u, s.heap.get? b = some u → h'.get? b = some u) → Q (.ref (s.heap.objs.size + 1)) { s with heap := h' }) :
    wpAny (model prog w) A (call (.type "enumerate") [v]) Q E s := by
  refine callType_new F.called_enumerate (by decide) (F.typeCall_enumerate_1 _) (F.newCall_enumerate_1 _) (fun obj => F.args_object_init_2 obj _) F.entry_enumerate_new (meets_enum1 B) ⟨h1, ?_⟩
  have z1 : (s.heap.push o).objs.size = s.heap.objs.size + 1 := Heap.size_push ..
  show _ ∧ _
  rw [z1]
  have ie : IsEnum ((s.heap.push o).push { cls := .type "enumerate", data := .fields #[.none, .bool false, .ref s.heap.objs.size, rawInt 0, .none, .none] }) (s.heap.objs.size + 1) s.heap.objs.size 0 .none := by
    have q := Heap.get?_push_size (s.heap.push o) (o := { cls := .type "enumerate", data := .fields #[.none, .bool false, .ref s.heap.objs.size, rawInt 0, .none, .none] }) rfl
    rw [z1] at q
    exact q
  exact ⟨⟨_, ie, rfl⟩, hq _ ie (Heap.get?_push_of_some _ (Heap.get?_push_size _ B.free)) (by rw [Heap.size_push, z1]) fun b u x => Heap.get?_push_of_some _ (Heap.get?_push_of_some _ x)⟩
/-- a tuple's items, each in a new pair with its number -/
def IteT (K : PySem.W.Frag) (a : Addr) : It :=
  ⟨fun i H => ∃ (ys : List V) (y : V), SqT K H a ys ∧ ys[i]? = some y, fun i H v H' => ∃ T y, v = .ref T ∧ H T = none ∧ H' = upd H T (.tup [.int (i : Nat), y]) ∧ ∀ ys, SqT K H a ys → ys[i]? = some y, fun i H => ∃ ys : List V, SqT K H a ys ∧ ys.length = i⟩
theorem turn_enumT {P : Program} {w : World} {K : PySem.W.Frag} {elts : List Expr} {kk : Nat} {tpos : Pos} (a e it : Addr) :
    Turn P w K (.Tuple elts kk tpos) (IteT K a) [e, it] e (fun i h => (∃ old, IsEnum h e it ((i : Nat) : Int) old) ∧ h.IsTupleIter it a i ∧ e ≠ it) where
  mem := by simp
  obj := fun i h st b hb => by
    obtain ⟨⟨old, he⟩, ⟨o, ho, hc, hd⟩, _⟩ := st
    rcases (show b = e ∨ b = it by simpa using hb) with z | z
    · rw [z]; exact ⟨_, he, fun v q => nomatch q⟩
    · rw [z]; exact ⟨o, ho, fun v q => by rw [hd] at q; cases q⟩
  keep := fun i h h' st k => by
    obtain ⟨⟨old, he⟩, hi, hne⟩ := st
    exact ⟨⟨old, k e (by simp) _ he⟩, hi.at fun o q => k it (by simp) o q, hne⟩
  item := by
    intro X hP hw hK hc i pins s σ H E I hf st hg
    subst hP hw hK
    obtain ⟨⟨old, he⟩, hit, hne⟩ := st
    obtain ⟨ys, y, hq, hy⟩ := hg
    obtain ⟨its, rv, tp, hz⟩ := I.tuple hq
    have hil : i < its.toArray.size := by
      have := (List.getElem?_eq_some_iff.mp hy).1
      rw [List.size_toArray, ← rv.length]
      exact this
    have lte : e < s.heap.objs.size := Heap.lt_size he
    have lti : it < s.heap.objs.size := by obtain ⟨_, q, _⟩ := hit; exact Heap.lt_size q
    have ane : a ≠ e := fun z => by
      obtain ⟨o, g1, g2, _⟩ := tp
      rw [z, he] at g1
      cases g1
      exact absurd g2 (by simp)
    have ani : a ≠ it := fun z => by
      obtain ⟨o, g1, g2, _⟩ := tp
      obtain ⟨o', g3, g4, _⟩ := hit
      rw [z, g3] at g1
      cases g1
      rw [g4] at g2
      exact absurd g2 (by simp)
    refine wpAny_pyNext_enum_itemD (Draws.tuple (A := X.A.in1) (show X.A.handled = none from I.ok.hd hc) it a ani its.toArray) he ⟨hit, tp⟩ hil hne (by simp [hne, Ne.symm ane]) fun x h' tk hx ho hst hT hsz hk => ?_
    refine ⟨_, rfl, wpAny_letOwnedTupleGo_enum (s := { s with heap := h', toks := tk + 1 }) ho fun h2 he' sb => ?_⟩
    have hT2 : h2.get? s.heap.objs.size = some { cls := .type "tuple", data := .seq #[.int i tk, x] } := (sb.2 _ (Nat.ne_of_gt lte)).trans hT
    obtain ⟨u, hu, ru⟩ := rv.get hy
    have eu : x = u := by
      have hx' : its.toArray[i]? = some x := hx
      have : its.toArray[i]? = some u := by simpa using hu
      rw [hx'] at this
      exact Option.some.inj this
    subst eu
    have new : ObjOk X.prog X.w (upd H s.heap.objs.size (.tup [.int (i : Nat), y])) h2 s.heap.objs.size (.tup [.int (i : Nat), y]) :=
      ⟨by show 2 ≤ sizeLine; rw [sizeLine_eq]; decide, [.int i tk, x], .cons ⟨_, rfl⟩ (.cons ru .nil), ⟨_, hT2, rfl, _, rfl⟩⟩
    have I1 : Inv X pins σ (upd H s.heap.objs.size (.tup [.int (i : Nat), y])) { s with heap := h2, toks := tk + 1 } :=
      I.turnedNew (ch := [e, it]) (fun b ob hb q => (sb.2 b (fun z => hb (by simp [z]))).trans (hk b ob (fun z => hb (by simp [z])) (fun z => hb (by simp [z])) q)) hf (Nat.le_refl _) new
    refine ⟨.ref s.heap.objs.size, _, I1, rfl, ⟨_, y, rfl, I.hok.fresh (Nat.le_refl _), rfl, fun zs hy2 => by rw [I.tuple_inj hy2 hq]; exact hy⟩, ⟨⟨x, ?_⟩, hst.1.at fun o q => (sb.2 it (Ne.symm hne)).trans q, hne⟩, fun b hb => ?_⟩
    · have e1 : ((i + 1 : Nat) : Int) = (i : Int) + 1 := by omega
      rw [e1]
      exact he'
    · have lb : b < s.heap.objs.size := by
        rcases (show b = e ∨ b = it by simpa using hb) with z | z
        · rw [z]; exact lte
        · rw [z]; exact lti
      rw [upd_ne (Nat.ne_of_lt lb)]
      exact (hf b hb).1
  done := by
    intro X hP hw hK hc i pins s σ H E I hf st hg
    subst hP hw hK
    obtain ⟨⟨old, he⟩, hit, hne⟩ := st
    obtain ⟨ys, hq, hy⟩ := hg
    obtain ⟨its, rv, tp, hz⟩ := I.tuple hq
    obtain ⟨f0, f1, f2, f3, f4, f5⟩ := hf it (by simp)
    have ani : a ≠ it := fun z => by
      obtain ⟨o, g1, g2, _⟩ := tp
      obtain ⟨o', g3, g4, _⟩ := hit
      rw [z, g3] at g1
      cases g1
      rw [g4] at g2
      exact absurd g2 (by simp)
    have en : its.toArray.size = i := by rw [List.size_toArray, ← rv.length]; exact hy
    refine wpAny_pyNext_enum_endD (Draws.tuple (A := X.A.in1) (show X.A.handled = none from I.ok.hd hc) it a ani its.toArray) he (by rw [en]; exact ⟨hit, tp⟩) fun h' eb => ⟨rfl, I.turned (t' := s.toks) (fun b o hb q => eb b o hb q) f0 f1 f3 f4 f5⟩
  self := fun A i s Q E st h => by
    obtain ⟨⟨_, he⟩, _⟩ := st
    exact wpAny_pyIter_enum he h
def iEnumA (K : PySem.W.Frag) (te : TE) : TI := fun σ H R => te σ H fun v H1 => (∃ a ys, v = .ref a ∧ SqL K H1 a ys ∧ R (Ite K a) H1) ∨ (∃ a ys, v = .ref a ∧ SqT K H1 a ys ∧ R (IteT K a) H1)
theorem pi_enumA {X : Cx} {e : Expr} {te : TE} {p pos tpos : Pos} {elts : List Expr} {kk : Nat} (hg : Gl X "enumerate") (hm : X.mg "enumerate" = none) (he : PE X e te) (hs : starEach [e] X.env = (false, eval e X.env) :: starEach [] X.env := by rfl) :
    PI X (.Tuple elts kk tpos) (.Call (.Name "enumerate" p) [e] [] pos) (iEnumA X.K te) := by
  refine ⟨fun pins s σ H R I h => ?_⟩
  refine Call_ (ld_blt I hg hm boot_enumerate (PyProof.Rows.callWith_type1 (args_cons (thn (he.run pins s σ H _ I h) fun u s1 ⟨v, H1, I1, r1, q1⟩ => args_nil ?_) hs) hs))
  have new : ∀ b, (b = s1.heap.objs.size + 1 ∨ b = s1.heap.objs.size) → FpOk X pins H1 b := fun b e' => by
    have hle : s1.heap.objs.size ≤ b := by
      rcases e' with z | z
      · rw [z]; exact Nat.le_add_right _ _
      · rw [z]; exact Nat.le_refl _
    exact I1.fpOk hle (I1.hok.fresh hle)
  rcases q1 with ⟨a, ys, rfl, hq, q⟩ | ⟨a, ys, rfl, hq, q⟩
  · cases (show u = Value.ref a from r1)
    obtain ⟨its, rv, pl, hz⟩ := I1.list hq
    refine call_enumerate_list pl.isList fun h' ie hit hsz hk => wpAny_pyIter_enum ie ?_
    have I2 : Inv X pins σ H1 { s1 with heap := h' } := I1.kept (t' := s1.toks) hk
    exact ⟨s1.heap.objs.size + 1, [s1.heap.objs.size + 1, s1.heap.objs.size], _, _, H1, rfl, I2, turn_enum a (s1.heap.objs.size + 1) s1.heap.objs.size, ⟨⟨.none, ie⟩, hit, Nat.succ_ne_self _⟩, fun b hb => new b (by simpa using hb), q⟩
  · cases (show u = Value.ref a from r1)
    obtain ⟨its, rv, tp, hz⟩ := I1.tuple hq
    refine enum1_begins (begins_tuple a its.toArray) tp fun h' ie hit hsz hk => wpAny_pyIter_enum ie ?_
    have I2 : Inv X pins σ H1 { s1 with heap := h' } := I1.kept (t' := s1.toks) hk
    exact ⟨s1.heap.objs.size + 1, [s1.heap.objs.size + 1, s1.heap.objs.size], _, _, H1, rfl, I2, turn_enumT a (s1.heap.objs.size + 1) s1.heap.objs.size, ⟨⟨.none, ie⟩, ⟨_, hit, rfl, rfl⟩, Nat.succ_ne_self _⟩, fun b hb => new b (by simpa using hb), q⟩
/-! the rule -/
section
variable {ι : Type} {M : MI} {xr : Str → Option Value} {K : PySem.W.Frag} {X : ι → Cx} {W : WX} {N : List Str} {mg : Str → Option Value} {pos : Pos}
def enumD (ds : List D) : List D := (List.range ds.length).map fun (i : Nat) => D.tup [.int (i : Int), ds.getD i .non]
def iEnM (f : Sm M S) : Sm M (List D) := fun z => (escf f z).bind fun s z1 => match s with
  | .d (.lst ds) => .ok (enumD ds) z1
  | .d (.tup ds) => .ok (enumD ds) z1
  | _ => .bad
theorem enumD_len (ds : List D) : (enumD ds).length = ds.length := by unfold enumD; simp
theorem enumD_at {ds : List D} {i : Nat} {d : D} (h : ds[i]? = some d) : (enumD ds)[i]? = some (.tup [.int (i : Int), d]) := by
  have hi : i < ds.length := (List.getElem?_eq_some_iff.mp h).1
  unfold enumD
  rw [List.getElem?_map, List.getElem?_range hi, Option.map_some, List.getD_eq_getElem?_getD, h]
  rfl
theorem yd_pair {F H H' : Hp} {vs : List V} {ds : List D} {i : Nat} {v y : V} {T : Addr} (r : DaAll K F vs ds) (hi : vs[i]? = some y) (e1 : v = .ref T) (e2 : H T = none) (e3 : H' = upd H T (.tup [.int (i : Nat), y])) : YD K F (enumD ds) i H v H' := by
  subst e1 e3
  obtain ⟨d, hd, da⟩ := r.getV hi
  refine ⟨_, enumD_at hd, fun F1 s1 s2 st => ⟨upd F1 T (.tup [.int (i : Nat), y]), same_upd (freeX s2 st e2), same_upd2 s2, fun b o e => ?_, fun a ps e => (tgk_newF (o := .tup [.int (i : Nat), y]) (H := H) (u := .tup []) (freeX s2 st e2) tupNT a ps e).1, .tup (SqT.of upd_same) (.cons (.int _) (.cons ((da.mono s1).mono (same_upd (freeX s2 st e2))) .nil))⟩⟩
  have nb := ne_of_none e e2
  exact ⟨by rw [upd_ne nb]; exact e, upd_ne nb⟩
theorem walk_enumT {a : Addr} {ys : List V} : Walk (IteT K a) ys.length (fun H => SqT K H a ys) (YPair (fun i => some (.int (i : Nat))) (fun i => ys[i]?)) := by
  refine ⟨fun i _ hi q => ⟨ys, ys[i], q, by simp [hi]⟩, fun _ q => ⟨ys, q, rfl⟩, fun i H v H' _ q y => ?_⟩
  obtain ⟨T, x, h1, h2, h3, h4⟩ := y
  exact ⟨T, .int (i : Nat), x, h1, h2, h3, rfl, h4 ys q⟩
theorem di_enum {elts : List Expr} {kk : Nat} {tpos pp : Pos} {e : Expr} {g : Sm M S} (p : Pl K X N mg) (hm : mg "enumerate" = none) (h : DE M xr K X W e g) (hg : ∀ j, Gl (X j) "enumerate" := by intro _; rfl) (hs : ∀ j, starEach [e] (X j).env = (false, eval e (X j).env) :: starEach [] (X j).env := by intro _; rfl) :
    DI M xr K X W (.Tuple elts kk tpos) (.Call (.Name "enumerate" pp) [e] [] pos) (iEnM g) := by
  obtain ⟨t, pe, c⟩ := h
  refine ⟨iEnumA K t, fun j => by rw [← p.k j]; exact pi_enumA (hg j) (by rw [p.g j]; exact hm) (pe j) (hs j), fun G σ H F z Q hK hx ok hh => ?_⟩
  refine cmp_esc c G σ H F z _ hK hx ok (hit_bind hh fun s z1 v H1 F1 _ sm ok1 ev h1 => ?_)
  subst hK
  clear hh
  match s, ev, h1 with
  | .d (.lst ds), ev, h1 =>
    have ev' : Da G.K F1 v (.lst ds) := ev
    clear ev
    cases ev' with
    | lst q r =>
      rename_i a vs
      refine .inl ⟨a, vs, rfl, SqL.of (ok1.sub.lst q), h1 _ H1 F1 (Same.refl _) ok1 ?_⟩
      have wk := (walk_enum (K := G.K) (a := a) (xs := vs)).mono (G' := fun H => SameX F1 H) (Y' := YD G.K F1 (enumD ds)) (fun H s => SqL.of (s.lst q)) (fun i H x H' hi _ ⟨T, x1, y1, e1, e2, e3, e4, e5⟩ => by
        cases e4
        exact yd_pair r e5 e1 e2 e3)
      rw [r.length, ← enumD_len ds] at wk
      exact wk
  | .d (.tup ds), ev, h1 =>
    have ev' : Da G.K F1 v (.tup ds) := ev
    clear ev
    cases ev' with
    | tup q r =>
      rename_i a vs
      refine .inr ⟨a, vs, rfl, ok1.sub.tup q, h1 _ H1 F1 (Same.refl _) ok1 ?_⟩
      have wk := (walk_enumT (K := G.K) (a := a) (ys := vs)).mono (G' := fun H => SameX F1 H) (Y' := YD G.K F1 (enumD ds)) (fun H s => s.tup q) (fun i H x H' hi _ ⟨T, x1, y1, e1, e2, e3, e4, e5⟩ => by
        cases e4
        exact yd_pair r e5 e1 e2 e3)
      rw [r.length, ← enumD_len ds] at wk
      exact wk
  | .d .non, _, h1 => exact h1.elim
  | .d (.bl _), _, h1 => exact h1.elim
  | .d (.int _), _, h1 => exact h1.elim
  | .d (.str _), _, h1 => exact h1.elim
  | .d (.scr _), _, h1 => exact h1.elim
  | .d .emp, _, h1 => exact h1.elim
  | .d (.exc _ _), _, h1 => exact h1.elim
  | .d (.o _), _, h1 => exact h1.elim
  | .l _, _, h1 => exact h1.elim
  | .v _, _, h1 => exact h1.elim
  | .m _, _, h1 => exact h1.elim
end
end G
/-! t[::-1] -/
namespace G
open PySem L2 PySem.Spec PyProof.Rows HT
section
variable {prog : Program} {w : World} {A : Around} {E : Value → Shared → Prop} {s : Shared}
theorem places_rev (n : Nat) : Builtin.Slice.slicePlaces ((n : Int) - 1) (-1) (-1) = n := by
  unfold Builtin.Slice.slicePlaces
  have h1 : ¬ ((-1 : Int) > 0) := by decide
  simp only [h1, if_false]
  split
  · have e : (- (-1 : Int)) = 1 := by decide
    rw [e, Int.ediv_one]
    omega
  · omega
theorem applied_rev {sl : Addr} {vs : Value} {n : Nat} {Q : Int × Int × Nat → Shared → Prop} (hs : s.heap.IsSliceOf sl .none .none vs) (ps : IsPart vs (some (-1))) (h : Q ((n : Int) - 1, -1, n) s) :
    wpAny (model prog w) A (Builtin.Slice.sliceApplied (.ref sl) (pure (n : Int))) Q E s := by
  obtain ⟨ob, hob, hcb, hdb⟩ := id hs
  unfold Builtin.Slice.sliceApplied Builtin.Slice.sliceFields
  refine wpAny_bind (wpAny_bind (wpAny_field hob hdb (x := .none) rfl (wpAny_bind (wpAny_field hob hdb (x := .none) rfl (wpAny_bind (wpAny_field hob hdb (x := vs) rfl (wpAny_pure ?_)))))))
  refine wpAny_bind (slicePart_ ps ?_)
  show wpAny _ _ (if ((-1 : Int) == 0) = true then _ else _) _ _ s
  rw [if_neg (by decide)]
  refine wpAny_bind (slicePart_none (wpAny_bind (slicePart_none (wpAny_bind (wpAny_pure ?_)))))
  show wpAny _ _ (pure ((n : Int) - 1, (-1 : Int), Builtin.Slice.slicePlaces ((n : Int) - 1) (-1) (-1))) _ _ s
  rw [places_rev]
  exact wpAny_pure h
theorem fm_congr {α β : Type} {f g : α → Option β} : ∀ {l : List α}, (∀ x ∈ l, f x = g x) → l.filterMap f = l.filterMap g
  | [], _ => rfl
  | x :: r, h => by
    rw [List.filterMap_cons, List.filterMap_cons, h x List.mem_cons_self, fm_congr fun y hy => h y (List.mem_cons_of_mem _ hy)]
theorem pick_rev (xs : Array Value) : ((List.range xs.size).filterMap fun (m : Nat) => xs[((xs.size : Int) - 1 + (m : Int) * (-1)).toNat]?).toArray = xs.toList.reverse.toArray := by
  have e : (List.range xs.size).filterMap (fun (m : Nat) => xs[((xs.size : Int) - 1 + (m : Int) * (-1)).toNat]?) = (List.range xs.size).filterMap fun m => xs[xs.size - 1 - m]? := by
    refine fm_congr fun m hm => ?_
    have : m < xs.size := List.mem_range.mp hm
    have e : ((xs.size : Int) - 1 + (m : Int) * (-1)).toNat = xs.size - 1 - m := by omega
    rw [e]
  have e2 : (List.range xs.size).filterMap (fun m => xs[xs.size - 1 - m]?) = ((List.range xs.size).map fun k => xs.size - 1 - k).filterMap (xs[·]?) := by rw [List.filterMap_map]; rfl
  rw [e, e2, PySem.W.krv_range, List.filterMap_reverse, PySem.W.krv_all]
theorem getItem_rev {t sl : Addr} {items : Array Value} {vs : Value} {Q : Value → Shared → Prop} (ht : IsTup s.heap t items) (hs : s.heap.IsSliceOf sl .none .none vs) (ps : IsPart vs (some (-1)))
    (h : Q (.ref s.heap.objs.size) { s with heap := s.heap.push { cls := .type "tuple", data := .seq items.toList.reverse.toArray } }) (hsz : items.size ≤ sizeLine) : wpAny (model prog w) A (getItem (.ref t) (.ref sl)) Q E s := by
  have fits : sizeOk (.seq items.toList.reverse.toArray) := by
    show items.toList.reverse.toArray.size ≤ sizeLine
    rw [List.size_toArray, List.length_reverse, Array.length_toList]
    exact hsz
  obtain ⟨ob, hob, hcb, hdb⟩ := id hs
  have tyS : s.TypeIs (.ref sl) "slice" := ⟨ob, hob, hcb⟩
  unfold getItem
  try with_reducible refine wpAny_holding ?_
  first | refine wpAny_bind (wpAny_pure ?_) | skip
  refine wpAny_bind (wpAny_sequenceKey ht.typeIs (by decide) ?_)
  refine wpAny_bind (wpAny_callSpecial?_slot (name := Str.ofString "__getitem__") ht.typeIs PyProof.Rows.slot_tuple_getitem (wpAny_call_entry PyProof.Rows.slot_tuple_getitem ht.typeIs entry_tuple_getitem ?_ (args_tuple_getitem _ _)))
  show wpAny _ _ (Builtin.Tuple.tupleItemsOf (.ref t) >>= _) _ _ s
  refine wpAny_bind (tupleItemsOf_ ht ?_)
  refine wpAny_bind (wpAny_typeOf tyS ?_)
  rw [if_pos (by decide)]
  refine wpAny_bind (applied_rev hs ps ?_)
  have no : ¬ ((((items.size : Int) - 1) == 0 && (-1 : Int) == 1 && items.size == items.size) = true) := by simp
  show wpAny _ _ (if (((items.size : Int) - 1) == 0 && (-1 : Int) == 1 && items.size == items.size) = true then _ else _) _ _ s
  rw [if_neg no, pick_rev]
  first
    | exact wpAny_bind (m := Builtin.Tuple.tupleExact _) (wpAny_newObj_type (wpAny_pure ⟨_, rfl, wpAny_pure h⟩) fits)
    | exact wpAny_bind (m := Builtin.Tuple.tupleExact _) (wpAny_newObj_type (wpAny_bind (wpAny_pure (wpAny_pure ⟨_, rfl, wpAny_pure h⟩))) fits)
    | exact wpAny_bind (wpAny_bind (m := Builtin.Tuple.tupleExact _) (wpAny_newObj_type (wpAny_pure (wpAny_pure ⟨_, rfl, wpAny_pure h⟩)) fits))
    | exact wpAny_bind (wpAny_bind (m := Builtin.Tuple.tupleExact _) (wpAny_newObj_type (wpAny_pure ⟨_, rfl, wpAny_pure h⟩) fits))
end
def tRevA (K : PySem.W.Frag) (te : TE) : TE := fun σ H Q => te σ H fun x H1 => (∃ a ys, x = .ref a ∧ SqL K H1 a ys ∧ ∀ q, H1 q = none → Q (.ref q) (upd H1 q (.lst ys.reverse))) ∨ (∃ a ys, x = .ref a ∧ SqT K H1 a ys ∧ ∀ q, H1 q = none → Q (.ref q) (upd H1 q (.tup ys.reverse)))
theorem pe_revA {X : Cx} {e : Expr} {te : TE} {k : Nat} {p1 p2 p3 pos : Pos} (he : PE X e te) : PE X (.Subscript e (.Slice none none (some (.UnaryOp .USub (.Constant (.int 1) k p1) p2)) p3) pos) (tRevA X.K te) := by
  refine ⟨fun pins s σ H Q I h => ?_⟩
  refine Subscript_ (thn (he.run pins s σ H _ I h) fun v s1 ⟨x, H1, I1, r1, q1⟩ => ?_)
  have hst : PO X (some (.UnaryOp .USub (.Constant (.int 1) k p1) p2)) (tPart (tUn (rU fun i => .int (-i)) (tC (.int 1)))) := po_some (pe_un un_neg pe_int)
  refine wpAny_Slice (thn (po_none.run pins s1 σ H1 (fun o H2 => o = none ∧ H2 = H1) I1 ⟨rfl, rfl⟩) fun vl s2 ⟨l, H2, I2, pl, el, e2⟩ => ?_)
  subst el e2
  refine thn (po_none.run pins s2 σ H2 (fun o H3 => o = none ∧ H3 = H2) I2 ⟨rfl, rfl⟩) fun vu s3 ⟨u, H3, I3, pu, eu, e3⟩ => ?_
  subst eu e3
  refine thn (hst.run pins s3 σ H3 (fun o H4 => o = some (-1) ∧ H4 = H3) I3 ⟨1, rfl, -1, rfl, rfl, rfl⟩) fun vs s4 ⟨o, H4, I4, ps, eo, e4⟩ => ?_
  subst eo e4
  have I5 : Inv X pins σ H4 { s4 with heap := s4.heap.push { cls := .type "slice", data := .fields #[vl, vu, vs] } } := I4.kept (t' := s4.toks) fun b ob q => Heap.get?_push_of_some _ q
  rcases q1 with ⟨a, ys, ex, hx, q⟩ | ⟨a, ys, ex, hx, q⟩
  · subst ex
    cases r1
    obtain ⟨its, r, ht, hz⟩ := I5.list hx
    have hlen := r.length
    show wpAny (model X.prog X.w) X.A (subscriptTail e (.Slice none none (some (.UnaryOp .USub (.Constant (.int 1) k p1) p2)) p3) (.ref a) (.ref s4.heap.objs.size)) (EP X pins σ Q) X.xe _
    refine tail_any (ops := [.ref a, .ref s4.heap.objs.size]) ht.isList.typeIs (PySem.slot_list_getitem.lookup) ?_ (by with_unfolding_all rfl)
    refine wpAny_getItem_list_slice ht.isList (Heap.IsSliceOf.new _ vl vu vs) pl pu ps (by decide) ?_ (by rw [List.size_toArray]; omega)
    rw [PySem.W.krv_pick]
    exact ⟨.ref _, _, I5.laid (t' := s4.toks) (o := .lst ys.reverse) (fun b ob q => Heap.get?_push_of_some _ q) (Nat.le_refl _) ⟨by rw [List.length_reverse]; exact hz, _, 0, r.reverse, Heap.get?_push_size _ rfl⟩, rfl, q _ (I5.hok.fresh (Nat.le_refl _))⟩
  · subst ex
    cases r1
    obtain ⟨its, r, ht, hz⟩ := I5.tuple hx
    have hlen := r.length
    cases pl
    cases pu
    show wpAny (model X.prog X.w) X.A (subscriptTail e (.Slice none none (some (.UnaryOp .USub (.Constant (.int 1) k p1) p2)) p3) (.ref a) (.ref s4.heap.objs.size)) (EP X pins σ Q) X.xe _
    refine tail_any (ops := [.ref a, .ref s4.heap.objs.size]) ht.typeIs (PyProof.Rows.slot_tuple_getitem.lookup) ?_ (by with_unfolding_all rfl)
    refine getItem_rev ht (Heap.IsSliceOf.new _ .none .none vs) ps ?_ (by rw [List.size_toArray]; omega)
    exact ⟨.ref _, _, I5.laid (t' := s4.toks) (o := .tup ys.reverse) (fun b ob q => Heap.get?_push_of_some _ q) (Nat.le_refl _) ⟨by rw [List.length_reverse]; exact hz, _, r.reverse, IsTup.new _ _⟩, rfl, q _ (I5.hok.fresh (Nat.le_refl _))⟩
def dRev : D → Option R := fun d => match d with
  | .tup xs => some (.t xs.reverse)
  | .lst xs => some (.l xs.reverse)
  | _ => none
section
variable {ι : Type} {M : MI} {xr : Str → Option Value} {K : PySem.W.Frag} {X : ι → Cx} {W : WX} {N : List Str} {mg : Str → Option Value} {pos : Pos}
theorem de_rev {e : Expr} {g : Sm M S} {k : Nat} {p1 p2 p3 pos : Pos} (p : Pl K X N mg) (h : DE M xr K X W e g) : DE M xr K X W (.Subscript e (.Slice none none (some (.UnaryOp .USub (.Constant (.int 1) k p1) p2)) p3) pos) (eUn dRev g) := by
  obtain ⟨t, pe, c⟩ := h
  refine ⟨tRevA K t, fun j => by rw [← p.k j]; exact pe_revA (pe j), fun G σ H F z Q hK hx ok hh => ?_⟩
  refine cmp_opd c G σ H F z _ hK hx ok (hit_bind hh fun s z1 v H1 F1 _ sm1 ok1 e1 h1 => ?_)
  have q := fin_hit ok1 h1
  cases er : rd z1 s with
  | none => rw [er] at q; exact q.elim
  | some x =>
    rw [er] at q
    have q' : Hit0 G.K F1 H1 (dRev x) Q := q
    have rv := EO.rv ok1 e1 er
    subst hK
    unfold dRev at q'
    split at q'
    · obtain ⟨a, vs, rfl, a1, a2⟩ := rv.tup ok1.sub
      exact .inr ⟨a, vs, rfl, a1, fun p hp => q'.2 p _ hp a2.reverse⟩
    · obtain ⟨a, vs, rfl, a1, a2⟩ := rv.lst ok1.sub
      exact .inl ⟨a, vs, rfl, SqL.of a1, fun p hp => q' p _ hp a2.reverse⟩
    · exact q'.elim
end
end G
namespace G
open PySem L2
def dBand := dI (fun _ _ => true) fun i j => .int (Builtin.bitAnd i j)
section
variable {ι : Type} {M : MI} {xr : Str → Option Value} {K : PySem.W.Frag} {X : ι → Cx} {W : WX} {a b : Expr} {f f' : Sm M S} {pos : Pos}
theorem de_band (ha : DE M xr K X W a f) (hb : DE M xr K X W b f') : DE M xr K X W (.BinOp a .BitAnd b pos) (eBin dBand f f') := de_bin (fun j => op_and) (op2_I0 fun _ _ _ => .int _) ha hb
end
/-- a table of one class -/
def tb1 (c : Str) (b : Bool) : Str → Option Bool := fun s => if s = c then some b else none
theorem tb1_ok {c : Str} {b : Bool} {P : Str → Bool → Prop} (h : P c b) : ∀ s b', tb1 c b s = some b' → P s b' := fun s b' e => by
  unfold tb1 at e
  split at e
  · rename_i hs
    cases e
    subst hs
    exact h
  · cases e
theorem vals_refs : ∀ {as : List Addr} {ws : List Value}, Vals (as.map V.ref) ws → ws = as.map Value.ref
  | [], _, .nil => rfl
  | a :: r, _, .cons h t => by
    cases (show _ = Value.ref a from h)
    rw [vals_refs t]
    rfl
end G
namespace G
open PySem L2
theorem kit_own {K : PySem.W.Frag} {C E : Addr} {b : Bool} (hd : PySem.W.hasDictIn K E = true) (ty : PySem.W.typeIn K (.ref E) = some (.type "type")) (s : PySem.W.subIn K (.ref C) (.ref E) = some b) (ne : (Value.ref C == Value.ref E) = false) : PySem.W.kitOne K (.ref C) (.ref E) = some b := by
  obtain ⟨cd, hc, _⟩ := PySem.W.any_some hd
  unfold PySem.W.kitOne
  rw [ne, if_neg Bool.false_ne_true]
  show (if ((PySem.W.clsIn K E).isSome && PySem.W.typeIn K (.ref E) == some (.type "type")) = true then PySem.W.subIn K (.ref C) (.ref E) else none) = some b
  rw [if_pos (by rw [hc, ty]; rfl)]
  exact s
theorem kit_self {K : PySem.W.Frag} {C : Addr} : PySem.W.kitOne K (.ref C) (.ref C) = some true := by
  unfold PySem.W.kitOne
  rw [if_pos (beq_self_eq_true _)]
theorem kit_blt {K : PySem.W.Frag} {C : Addr} {T : String} {b : Bool} (m : PySem.W.kitMeta T = true) (s : PySem.W.subIn K (.ref C) (.type T) = some b) : PySem.W.kitOne K (.ref C) (.type T) = some b := by
  unfold PySem.W.kitOne
  have ne : (Value.ref C == Value.type T) = false := rfl
  rw [ne, if_neg Bool.false_ne_true]
  show (if PySem.W.kitMeta T = true then PySem.W.subIn K (.ref C) (.type T) else none) = some b
  rw [if_pos m]
  exact s
theorem any_nil {K : PySem.W.Frag} {t : Value} : PySem.W.kitAny K t [] = some false := rfl
theorem any_no {K : PySem.W.Frag} {t c : Value} {cs : List Value} {r : Bool} (h : PySem.W.kitOne K t c = some false) (hr : PySem.W.kitAny K t cs = some r) : PySem.W.kitAny K t (c :: cs) = some r := kitAny_cons h (fun _ => hr) (fun z => by cases z)
theorem any_yes {K : PySem.W.Frag} {t c : Value} {cs : List Value} (h : PySem.W.kitOne K t c = some true) : PySem.W.kitAny K t (c :: cs) = some true := kitAny_cons h (fun z => by cases z) (fun _ => rfl)
end G
namespace G
open PySem L2
theorem ofString_inj (a b : String) : (Str.ofString a = Str.ofString b) = (a = b) := by
  refine propext ⟨fun h => ?_, fun h => by rw [h]⟩
  have e : ∀ s : String, (Str.ofString s).cps.toList = s.toList.map Char.toNat := fun s => by
    show (cpsOfBytes 0 0 s.toByteArray.data.toList).toArray.toList = _
    rw [List.toList_toArray, cpsOfBytes_string]
  have h1 := e a
  rw [h, e b] at h1
  have inj : ∀ {l m : List Char}, l.map Char.toNat = m.map Char.toNat → l = m := fun {l} => by
    induction l with
    | nil => intro m h; cases m with
      | nil => rfl
      | cons _ _ => cases h
    | cons c r ih => intro m h; cases m with
      | nil => cases h
      | cons d s =>
        rw [List.map_cons, List.map_cons] at h
        injection h with h1 h2
        rw [ih h2, Char.toNat_inj.mp h1]
  exact String.toList_inj.mp (inj h1).symm
theorem ofString_beq (a b : String) : (Str.ofString a == Str.ofString b) = (a == b) := by
  rw [Bool.eq_iff_iff, beq_iff_eq, beq_iff_eq, ofString_inj]
theorem ofString_dec (a b : String) : decide (Str.ofString a = Str.ofString b) = decide (a = b) := by
  rw [decide_eq_decide, ofString_inj]
end G
namespace G
open PySem L2
/-! ### terms and statements -/
inductive Th where
  | var (k : Int)
  | call (f : Str) (as : List Th)
  | rel (r : Str) (as : List Th)
  | same (a b : Th)
  | no
  | and (a b : Th)
  | or (a b : Th)
  | imp (a b : Th)
  | all (s : Str) (a : Th)
  | some (s : Str) (a : Th)
mutual
def enc : Th → D
  | .var k => .tup [.str "var", .int k]
  | .call f as => .tup [.str "call", .str f, .tup (encs as)]
  | .rel f as => .tup [.str "rel", .str f, .tup (encs as)]
  | .same a b => .tup [.str "same", enc a, enc b]
  | .no => .tup [.str "no"]
  | .and a b => .tup [.str "and", enc a, enc b]
  | .or a b => .tup [.str "or", enc a, enc b]
  | .imp a b => .tup [.str "if", enc a, enc b]
  | .all s a => .tup [.str "all", .str s, enc a]
  | .some s a => .tup [.str "some", .str s, enc a]
def encs : List Th → List D
  | [] => []
  | t :: r => enc t :: encs r
end
def kids : Th → List Th
  | .var _ => []
  | .call _ as => as
  | .rel _ as => as
  | .same a b => [a, b]
  | .no => []
  | .and a b => [a, b]
  | .or a b => [a, b]
  | .imp a b => [a, b]
  | .all _ a => [a]
  | .some _ a => [a]
mutual
def size : Th → Nat
  | .var _ => 1
  | .call _ as => 1 + sizes as
  | .rel _ as => 1 + sizes as
  | .same a b => 1 + (size a + size b)
  | .no => 1
  | .and a b => 1 + (size a + size b)
  | .or a b => 1 + (size a + size b)
  | .imp a b => 1 + (size a + size b)
  | .all _ a => 1 + size a
  | .some _ a => 1 + size a
def sizes : List Th → Nat
  | [] => 0
  | t :: r => size t + sizes r
end
mutual
def depth : Th → Nat
  | .var _ => 1
  | .call _ as => 1 + depths as
  | .rel _ as => 1 + depths as
  | .same a b => 1 + max (depth a) (depth b)
  | .no => 1
  | .and a b => 1 + max (depth a) (depth b)
  | .or a b => 1 + max (depth a) (depth b)
  | .imp a b => 1 + max (depth a) (depth b)
  | .all _ a => 1 + depth a
  | .some _ a => 1 + depth a
def depths : List Th → Nat
  | [] => 0
  | t :: r => max (depth t) (depths r)
end
theorem encs_map : ∀ ts : List Th, encs ts = ts.map enc
  | [] => by rw [encs]; rfl
  | t :: r => by rw [encs, encs_map r]; rfl
theorem size_kids (t : Th) : size t = 1 + sizes (kids t) := by
  cases t <;> simp [size, kids, sizes]
theorem depth_kids (t : Th) : depth t = 1 + depths (kids t) := by
  cases t <;> simp [depth, kids, depths]
theorem sizes_append : ∀ xs ys : List Th, sizes (xs ++ ys) = sizes xs + sizes ys
  | [], ys => by simp [sizes]
  | x :: r, ys => by simp only [List.cons_append, sizes, sizes_append r ys]; omega
end G
namespace G
open PySem L2
/-! ### names that are texts, sizes -/
mutual
def nms : Th → Bool
  | .var _ => true
  | .call f as => PyData.strOk f && nmss as
  | .rel f as => PyData.strOk f && nmss as
  | .same a b => nms a && nms b
  | .no => true
  | .and a b => nms a && nms b
  | .or a b => nms a && nms b
  | .imp a b => nms a && nms b
  | .all s a => PyData.strOk s && nms a
  | .some s a => PyData.strOk s && nms a
def nmss : List Th → Bool
  | [] => true
  | t :: r => nms t && nmss r
end
theorem sk_var : PyData.strOk (Str.ofString "var") = true := by decide +kernel
theorem sk_call : PyData.strOk (Str.ofString "call") = true := by decide +kernel
theorem sk_rel : PyData.strOk (Str.ofString "rel") = true := by decide +kernel
theorem sk_same : PyData.strOk (Str.ofString "same") = true := by decide +kernel
theorem sk_no : PyData.strOk (Str.ofString "no") = true := by decide +kernel
theorem sk_and : PyData.strOk (Str.ofString "and") = true := by decide +kernel
theorem sk_or : PyData.strOk (Str.ofString "or") = true := by decide +kernel
theorem sk_if : PyData.strOk (Str.ofString "if") = true := by decide +kernel
theorem sk_all : PyData.strOk (Str.ofString "all") = true := by decide +kernel
theorem sk_some : PyData.strOk (Str.ofString "some") = true := by decide +kernel
mutual
theorem lay_enc : ∀ t : Th, lay (enc t) = nms t
  | .var _ => by simp [enc, lay, lays, nms, sk_var]
  | .call f as => by simp [enc, lay, lays, nms, sk_call, lays_encs as]
  | .rel f as => by simp [enc, lay, lays, nms, sk_rel, lays_encs as]
  | .same a b => by simp [enc, lay, lays, nms, sk_same, lay_enc a, lay_enc b]
  | .no => by simp [enc, lay, lays, nms, sk_no]
  | .and a b => by simp [enc, lay, lays, nms, sk_and, lay_enc a, lay_enc b]
  | .or a b => by simp [enc, lay, lays, nms, sk_or, lay_enc a, lay_enc b]
  | .imp a b => by simp [enc, lay, lays, nms, sk_if, lay_enc a, lay_enc b]
  | .all s a => by simp [enc, lay, lays, nms, sk_all, lay_enc a]
  | .some s a => by simp [enc, lay, lays, nms, sk_some, lay_enc a]
theorem lays_encs : ∀ ts : List Th, lays (encs ts) = nmss ts
  | [] => by simp [encs, lays, nmss]
  | t :: r => by simp [encs, lays, nmss, lay_enc t, lays_encs r]
end
theorem nms_kids {t : Th} (h : nms t = true) : nmss (kids t) = true := by
  cases t <;> simp_all [nms, kids, nmss]
theorem nmss_append : ∀ xs ys : List Th, nmss (xs ++ ys) = (nmss xs && nmss ys)
  | [], ys => by simp [nmss]
  | x :: r, ys => by simp [nmss, nmss_append r ys, Bool.and_assoc]
theorem lays_append : ∀ xs ys : List D, lays (xs ++ ys) = (lays xs && lays ys)
  | [], ys => by simp [lays]
  | x :: r, ys => by simp [lays, lays_append r ys, Bool.and_assoc]
theorem encs_append : ∀ xs ys : List Th, encs (xs ++ ys) = encs xs ++ encs ys
  | [], ys => by simp [encs]
  | x :: r, ys => by simp [encs, encs_append r ys]
theorem encs_length : ∀ xs : List Th, (encs xs).length = xs.length
  | [] => by simp [encs]
  | x :: r => by simp [encs, encs_length r]
theorem sizes_len : ∀ ts : List Th, ts.length ≤ sizes ts
  | [] => by simp [sizes]
  | t :: r => by
    have h := sizes_len r
    have h2 := size_kids t
    simp only [List.length_cons, sizes]
    omega
theorem eqD_nil (xs : List D) : eqD (.lst xs) (.lst []) = xs.isEmpty := by
  cases xs with
  | nil => simp [eqD, toPy, toPys, PyData.eqv, PyData.eqvAll]
  | cons _ _ => simp [eqD, toPy, toPys, PyData.eqv, PyData.eqvAll]
theorem ne_nil {xs : List D} (h : lays xs = true) : dNe (.lst xs) (.lst []) = some (.d (.bl (!xs.isEmpty))) := by
  unfold dNe eqOk
  simp only [lay, h, lays, dep, deps, Bool.true_and, Nat.zero_add]
  rw [if_pos (decide_eq_true (by omega)), eqD_nil]
theorem eq_nil {xs : List D} (h : lays xs = true) : dEq (.lst xs) (.lst []) = some (.d (.bl xs.isEmpty)) := by
  unfold dEq eqOk
  simp only [lay, h, lays, dep, deps, Bool.true_and, Nat.zero_add]
  rw [if_pos (decide_eq_true (by omega)), eqD_nil]
/-! ### comprehensions that map -/
theorem lc_map {M : MI} {i : Nat} {e : Sm M S} {g : D → D} {z : Z M.T} (hz : wipeZ z [i] = z) : ∀ (ds acc : List D), acc.length + ds.length ≤ lim →
    (∀ d ∈ ds, ∃ z1, escf e { z with rho := z.rho.set i (some (.d d)) } = .ok (.d (g d)) z1 ∧ wipeZ z1 [i] = z) → lcL (kName i) (fun z => .ok true z) e [i] ds acc z = .ok (acc ++ ds.map g) z
  | [], acc, _, _ => by simp [lcL]
  | d :: r, acc, hl, h => by
    obtain ⟨z1, h1, h2⟩ := h d List.mem_cons_self
    rw [List.length_cons] at hl
    unfold lcL
    simp only [kName, nox, Rs.bind_ok, if_true, h1]
    rw [if_pos (by omega), h2, lc_map hz r (acc ++ [g d]) (by rw [List.length_append, List.length_singleton]; omega) (fun d hd => h d (List.mem_cons_of_mem _ hd))]
    simp
/-! ### draws -/
theorem next_le {t : Mach} {many : Int} (h : 0 < many) : 0 ≤ (nextM t many).1 ∧ (nextM t many).1 < many ∧ (nextM t many).2.at_ = t.at_ + 1 := by
  unfold nextM
  split
  · exact ⟨Int.emod_nonneg _ (by omega), Int.emod_lt_of_pos _ h, rfl⟩
  · exact ⟨Int.emod_nonneg _ (by omega), Int.emod_lt_of_pos _ h, rfl⟩
theorem next_ok {t : Mach} {many : Int} (h : 0 < many) (h2 : many < 1073741824) (h3 : t.at_ < drawLim) : ∃ (r : Int) (t' : Mach), nextS [.m 0, .d (.int many)] t = .ok (.d (.int r)) t' ∧ 0 ≤ r ∧ r < many ∧ t'.at_ = t.at_ + 1 := by
  obtain ⟨q1, q2, q3⟩ := next_le (t := t) h
  exact ⟨_, _, if_pos ⟨h, h2, h3⟩, q1, q2, q3⟩
theorem sum_map_cast : ∀ ts : List Th, (ts.map fun t => ((size t : Nat) : Int)).sum = ((sizes ts : Nat) : Int)
  | [] => by simp [sizes]
  | t :: r => by simp only [List.map_cons, List.sum_cons, sum_map_cast r, sizes]; omega
end G
namespace G
theorem lm0 : (0 ≤ lim) = True := eq_true (by decide)
theorem lm1 : (0 + 1 ≤ lim) = True := eq_true (by decide)
theorem lm2 : (0 + 1 + 1 ≤ lim) = True := eq_true (by decide)
theorem lm3 : (0 + 1 + 1 + 1 ≤ lim) = True := eq_true (by decide)
theorem lm4 : (0 + 1 + 1 + 1 + 1 ≤ lim) = True := eq_true (by decide)
theorem lm5 : (0 + 1 + 1 + 1 + 1 + 1 ≤ lim) = True := eq_true (by decide)
theorem lm6 : (0 + 1 + 1 + 1 + 1 + 1 + 1 ≤ lim) = True := eq_true (by decide)
theorem lm7 : (0 + 1 + 1 + 1 + 1 + 1 + 1 + 1 ≤ lim) = True := eq_true (by decide)
theorem lm8 : (0 + 1 + 1 + 1 + 1 + 1 + 1 + 1 + 1 ≤ lim) = True := eq_true (by decide)
theorem lm9 : (0 + 1 + 1 + 1 + 1 + 1 + 1 + 1 + 1 + 1 ≤ lim) = True := eq_true (by decide)
theorem lm10 : (0 + 1 + 1 + 1 + 1 + 1 + 1 + 1 + 1 + 1 + 1 ≤ lim) = True := eq_true (by decide)
theorem lm11 : (0 + 1 + 1 + 1 + 1 + 1 + 1 + 1 + 1 + 1 + 1 + 1 ≤ lim) = True := eq_true (by decide)
theorem lm12 : (0 + 1 + 1 + 1 + 1 + 1 + 1 + 1 + 1 + 1 + 1 + 1 + 1 ≤ lim) = True := eq_true (by decide)
end G
namespace G
open PySem L2
theorem lc_mapE {M : MI} {i : Nat} {e : Sm M S} {α : Type} (en : α → D) {g : α → D} {z : Z M.T} (hz : wipeZ z [i] = z) : ∀ (ts : List α) (acc : List D), acc.length + ts.length ≤ lim →
    (∀ t ∈ ts, ∃ z1, escf e { z with rho := z.rho.set i (some (.d (en t))) } = .ok (.d (g t)) z1 ∧ wipeZ z1 [i] = z) → lcL (kName i) (fun z => .ok true z) e [i] (ts.map en) acc z = .ok (acc ++ ts.map g) z
  | [], acc, _, _ => by simp [lcL]
  | d :: r, acc, hl, h => by
    obtain ⟨z1, h1, h2⟩ := h d List.mem_cons_self
    rw [List.length_cons] at hl
    rw [List.map_cons]
    unfold lcL
    simp only [kName, nox, Rs.bind_ok, if_true, h1]
    rw [if_pos (by omega), h2, lc_mapE en hz r (acc ++ [g d]) (by rw [List.length_append, List.length_singleton]; omega) (fun d hd => h d (List.mem_cons_of_mem _ hd))]
    simp
theorem intsOf_map {α : Type} (f : α → Int) : ∀ ts : List α, intsOf (ts.map fun t => D.int (f t)) = some (ts.map f)
  | [] => rfl
  | t :: r => by rw [List.map_cons, intsOf, intsOf_map f r]; rfl
theorem maxL_depths : ∀ ts : List Th, maxL (0 :: ts.map fun t => ((depth t : Nat) : Int)) = ((depths ts : Nat) : Int)
  | [] => by simp [maxL, depths]
  | t :: r => by
    have h := maxL_is (ns := 0 :: (t :: r).map fun t => ((depth t : Nat) : Int)) (by intro e; cases e)
    have up : ∀ ts : List Th, ∀ y ∈ (ts.map fun t => ((depth t : Nat) : Int)), y ≤ ((depths ts : Nat) : Int) := fun ts => by
      induction ts with
      | nil => intro y hy; cases hy
      | cons t r ih =>
        intro y hy
        rw [List.map_cons] at hy
        rw [depths]
        rcases List.mem_cons.mp hy with rfl | hy
        · omega
        · have := ih y hy; omega
    have lo : ∀ ts : List Th, ts = [] ∨ ((depths ts : Nat) : Int) ∈ (ts.map fun t => ((depth t : Nat) : Int)) := fun ts => by
      induction ts with
      | nil => exact .inl rfl
      | cons t r ih =>
        refine .inr ?_
        rw [depths, List.map_cons]
        rcases ih with rfl | ih
        · rw [depths]
          simp
        · by_cases c : depth t ≤ depths r
          · rw [Nat.max_eq_right c]; exact List.mem_cons_of_mem _ ih
          · rw [Nat.max_eq_left (by omega)]; exact List.mem_cons_self
    refine Int.le_antisymm ?_ ?_
    · rcases List.mem_cons.mp h.1 with e | e
      · rw [e]; omega
      · exact up (t :: r) _ e
    · rcases lo (t :: r) with e | e
      · cases e
      · exact h.2 _ (List.mem_cons_of_mem _ e)
theorem kb_int_bool : kitB "int" "bool" = some false := by decide +kernel
theorem kb_int_int : kitB "int" "int" = some true := by decide +kernel
theorem eqD_int (i j : Int) : eqD (.int i) (.int j) = (i == j) := by simp [eqD, toPy, PyData.eqv]
theorem eqD_str (i j : Str) : eqD (.str i) (.str j) = (i == j) := by simp [eqD, toPy, PyData.eqv]
def eqDs : List D → List D → Bool
  | [], [] => true
  | x :: r, y :: s => eqD x y && eqDs r s
  | _, _ => false
theorem eqvAll_toPys : ∀ xs ys : List D, PyData.eqvAll (toPys xs) (toPys ys) = eqDs xs ys
  | [], [] => by simp [toPys, PyData.eqvAll, eqDs]
  | [], _ :: _ => by simp [toPys, PyData.eqvAll, eqDs]
  | _ :: _, [] => by simp [toPys, PyData.eqvAll, eqDs]
  | x :: r, y :: s => by simp only [toPys, PyData.eqvAll, eqDs, eqD, eqvAll_toPys r s]
theorem eqD_lst (xs ys : List D) : eqD (.lst xs) (.lst ys) = eqDs xs ys := by
  unfold eqD
  rw [toPy, toPy, PyData.eqv, eqvAll_toPys]
theorem eqD_tup (xs ys : List D) : eqD (.tup xs) (.tup ys) = eqDs xs ys := by
  unfold eqD
  rw [toPy, toPy, PyData.eqv, eqvAll_toPys]
end G
namespace G
open PySem L2
theorem noOwn_one {rho : List (Option S)} {i : Nat} (h : rho.set i none = rho) : noOwn rho [i] = true := by
  unfold noOwn
  rw [List.all_cons, List.all_nil, Bool.and_true, ← h, List.getElem?_set]
  simp only [if_true]
  split
  · rename_i h; split at h <;> cases h
  · rfl
theorem rest_one {rho : List (Option S)} {i : Nat} (h : rho.set i none = rho) : restR rho rho [i] = rho := by
  unfold restR restR
  have e : rho[i]?.getD none = none := by
    rw [← h, List.getElem?_set]
    simp only [if_true]
    split <;> rfl
  rw [e, h]
/-- a comprehension that maps and leaves the machine -/
theorem elc_map {M : MI} {i : Nat} {its : Sm M (List D)} {e : Sm M S} {α : Type} (en : α → D) {g : α → D} {ts : List α} {z z0 : Z M.T} (h0 : its z0 = .ok (ts.map en) z) (hi : z.rho.set i none = z.rho) (hl : ts.length ≤ lim)
    (h : ∀ t ∈ ts, escf e { z with rho := z.rho.set i (some (.d (en t))) } = .ok (.d (g t)) { z with rho := z.rho.set i (some (.d (en t))) }) : eLc its (kName i) (fun z => .ok true z) e [i] z0 = .ok (.l (ts.map g)) z := by
  have hw : wipeZ z [i] = z := by unfold wipeZ wipeR wipeR; rw [hi]
  unfold eLc
  rw [h0, Rs.bind_ok, if_pos (noOwn_one hi), hw, lc_mapE en hw ts [] (by rw [List.length_nil]; omega) (fun t ht => ⟨_, h t ht, by unfold wipeZ wipeR wipeR; simp only [List.set_set, hi]⟩), Rs.bind_ok, rest_one hi]
  rfl
/-- a comprehension whose body draws -/
theorem lc_run {M : MI} {i : Nat} {e : Sm M S} {α : Type} {en : α → D} {P : α → Prop} {Q : Nat → M.T → Prop} {rho : List (Option S)} (hi : rho.set i none = rho)
    (h : ∀ k d m, Q (k + 1) m → ∃ t m', escf e ⟨rho.set i (some (.d d)), m⟩ = .ok (.d (en t)) ⟨rho.set i (some (.d d)), m'⟩ ∧ P t ∧ Q k m') :
    ∀ (ds : List D) (acc : List D) (m : M.T), acc.length + ds.length ≤ lim → Q ds.length m → ∃ (ts : List α) (m' : M.T), lcL (M := M) (kName i) (fun z => .ok true z) e [i] ds acc ⟨rho, m⟩ = .ok (acc ++ ts.map en) ⟨rho, m'⟩ ∧ ts.length = ds.length ∧ (∀ t ∈ ts, P t) ∧ Q 0 m'
  | [], acc, m, _, q => ⟨[], m, by simp [lcL], rfl, (fun t ht => by cases ht), q⟩
  | d :: r, acc, m, hl, q => by
    rw [List.length_cons] at hl q
    obtain ⟨t, m1, h1, h2, h3⟩ := h _ d m q
    obtain ⟨ts, m2, g1, g2, g3, g4⟩ := lc_run hi h r (acc ++ [en t]) m1 (by rw [List.length_append, List.length_singleton]; omega) h3
    refine ⟨t :: ts, m2, ?_, by rw [List.length_cons, g2, List.length_cons], ?_, g4⟩
    · unfold lcL
      simp only [kName, nox, Rs.bind_ok, if_true, h1]
      rw [if_pos (by omega)]
      have hw : wipeZ (⟨rho.set i (some (.d d)), m1⟩ : Z M.T) [i] = ⟨rho, m1⟩ := by unfold wipeZ wipeR wipeR; simp only [List.set_set, hi]
      rw [hw, g1]
      simp
    · intro u hu
      rcases List.mem_cons.mp hu with rfl | hu
      · exact h2
      · exact g3 u hu
theorem elc_run {M : MI} {i : Nat} {its : Sm M (List D)} {e : Sm M S} {α : Type} {en : α → D} {P : α → Prop} {Q : Nat → M.T → Prop} {rho : List (Option S)} {z0 : Z M.T} {ds : List D} {m : M.T} (h0 : its z0 = .ok ds ⟨rho, m⟩) (hi : rho.set i none = rho) (hl : ds.length ≤ lim) (q : Q ds.length m)
    (h : ∀ k d m, Q (k + 1) m → ∃ t m', escf e ⟨rho.set i (some (.d d)), m⟩ = .ok (.d (en t)) ⟨rho.set i (some (.d d)), m'⟩ ∧ P t ∧ Q k m') :
    ∃ (ts : List α) (m' : M.T), eLc its (kName i) (fun z => .ok true z) e [i] z0 = .ok (.l (ts.map en)) ⟨rho, m'⟩ ∧ ts.length = ds.length ∧ (∀ t ∈ ts, P t) ∧ Q 0 m' := by
  obtain ⟨ts, m', g1, g2, g3, g4⟩ := lc_run (M := M) hi h ds [] m (by rw [List.length_nil]; omega) q
  refine ⟨ts, m', ?_, g2, g3, g4⟩
  have hw : wipeZ (⟨rho, m⟩ : Z M.T) [i] = ⟨rho, m⟩ := by unfold wipeZ wipeR wipeR; simp only [hi]
  unfold eLc
  rw [h0, Rs.bind_ok, if_pos (noOwn_one hi), hw, g1, Rs.bind_ok]
  simp only [rest_one hi]
  rfl
end G
namespace G
open PySem L2
theorem atI0 {α : Type} (x : α) (r : List α) : atI (x :: r) 0 = some x := by
  unfold atI ixN
  simp
theorem atI1 {α : Type} (x y : α) (r : List α) : atI (x :: y :: r) 1 = some y := by
  unfold atI ixN
  have h : (1 : Int) < ((r.length + 1 + 1 : Nat) : Int) := by omega
  simp only [List.length_cons]
  rw [if_pos h]
  rfl
theorem atI2 {α : Type} (x y w : α) (r : List α) : atI (x :: y :: w :: r) 2 = some w := by
  unfold atI ixN
  have h : (2 : Int) < ((r.length + 1 + 1 + 1 : Nat) : Int) := by omega
  simp only [List.length_cons]
  rw [if_pos h]
  rfl
end G
namespace G
open PySem L2
theorem rg_lim {j : Int} (h0 : 0 ≤ j) (h1 : j ≤ 1000000) : -(2 ^ 62) ≤ j ∧ j < 2 ^ 62 := by
  have e : (2 : Int) ^ 62 = 4611686018427387904 := by decide +kernel
  rw [e]
  omega
theorem and_ok {ζ : Type} {a b : Prop} [Decidable a] [Decidable b] (z : ζ) : (if decide a = true then Rs.ok (decide b) z else Rs.ok false z) = Rs.ok (decide (a ∧ b)) z := by
  by_cases ha : a <;> by_cases hb : b <;> simp [ha, hb]
theorem or_ok {ζ : Type} {a b : Prop} [Decidable a] [Decidable b] (z : ζ) : (if decide a = true then Rs.ok true z else Rs.ok (decide b) z) = Rs.ok (decide (a ∨ b)) z := by
  by_cases ha : a <;> by_cases hb : b <;> simp [ha, hb]
theorem range_len (n : Nat) : (rangeD 0 n).length = n := by unfold rangeD; rw [List.length_map, List.length_range]
end G
namespace G
open PySem L2
theorem dSub_i (i j : Int) : dSub (.int i) (.int j) = some (.d (.int (i - j))) := rfl
theorem dLt_i (i j : Int) : dLt (.int i) (.int j) = some (.d (.bl (decide (i < j)))) := rfl
theorem dLe_i (i j : Int) : dLe (.int i) (.int j) = some (.d (.bl (decide (i ≤ j)))) := rfl
theorem dGt_i (i j : Int) : dGt (.int i) (.int j) = some (.d (.bl (decide (j < i)))) := rfl
theorem dGe_i (i j : Int) : dGe (.int i) (.int j) = some (.d (.bl (decide (j ≤ i)))) := rfl
theorem dAdd_i (i j : Int) : dAdd (.int i) (.int j) = some (.d (.int (i + j))) := rfl
theorem dEq_i (i j : Int) : dEq (.int i) (.int j) = some (.d (.bl (decide (i = j)))) := by
  unfold dEq
  rw [if_pos (by rfl), eqD_int]
  rfl
theorem dNe_i (i j : Int) : dNe (.int i) (.int j) = some (.d (.bl (!decide (i = j)))) := by
  unfold dNe
  rw [if_pos (by rfl), eqD_int]
  rfl
end G
namespace G
open PySem L2
theorem seq_nx {M : MI} {f g : Sm M Out} {z z1 : Z M.T} (h : f z = .ok .nx z1) : sSeq f g z = g z1 := by
  simp only [sSeq, h, Rs.bind_ok]
theorem seq_rt {M : MI} {f g : Sm M Out} {z z1 : Z M.T} {s : S} (h : f z = .ok (.rt s) z1) : sSeq f g z = .ok (.rt s) z1 := by
  simp only [sSeq, h, Rs.bind_ok]
theorem fnM_d {M : MI} {n : Nat} {b : Sm M Out} {args : List S} {t t' : M.T} {x : D} {rho' : List (Option S)} (h : b { rho := args.map some ++ List.replicate (n - args.length) none, m := t } = .ok (.rt (.d x)) ⟨rho', t'⟩) : fnM n b args t = .ok (.d x) t' := by
  simp only [fnM, h]
end G
namespace G
open PySem L2
/-! ### texts -/
theorem dAdd_s {x y : Str} (h : x.length + y.length ≤ lim) : dAdd (.str x) (.str y) = some (.d (.str (x ++ y))) := by
  unfold dAdd
  exact if_pos h
theorem fLen_s {w : Str} (h : w.length ≤ lim) : fLen [.str w] = some (.d (.int (w.length : Nat))) := by
  unfold fLen
  exact if_pos h
def sg (c : Nat) (s : Str) : Bool := decide (c ∈ s.cps.toList)
theorem dIn_c (c : Nat) (z : Str) : dIn (.str ⟨#[c]⟩) (.str z) = some (.d (.bl (sg c z))) := rfl
theorem dNotIn_c (c : Nat) (z : Str) : dNotIn (.str ⟨#[c]⟩) (.str z) = some (.d (.bl (!sg c z))) := rfl
def okS (w : Str) : Prop := ∀ c ∈ w.cps.toList, c < 0x110000
theorem okS_app {x y : Str} (a : okS x) (b : okS y) : okS (x ++ y) := by
  intro c hc
  have e : (x ++ y).cps.toList = x.cps.toList ++ y.cps.toList := by
    show (x.cps ++ y.cps).toList = _
    simp
  rw [e] at hc
  rcases List.mem_append.mp hc with h | h
  · exact a c h
  · exact b c h
theorem okS_cut {x : Str} (a : okS x) (lo hi : Option Int) : okS (cutS x lo hi) := by
  intro c hc
  unfold cutS at hc
  exact a c (List.mem_of_mem_drop (List.mem_of_mem_take hc))
theorem len_app (x y : Str) : (x ++ y).length = x.length + y.length := by
  show (x.cps ++ y.cps).size = x.cps.size + y.cps.size
  simp
theorem okS_of {x : Str} (h : PyData.strOk x = true) : okS x := by
  intro c hc
  unfold PyData.strOk at h
  rw [Array.all_eq_true_iff_forall_mem] at h
  have := h c (by simpa using hc)
  simpa using this
theorem atI_mem {α : Type} {xs : List α} {i : Int} (h : 0 ≤ i) (h2 : i < xs.length) : ∃ x ∈ xs, atI xs i = some x := by
  unfold atI ixN
  rw [if_pos h, if_pos h2]
  have hl : i.toNat < xs.length := by omega
  exact ⟨xs[i.toNat], List.getElem_mem hl, by rw [Option.bind_some, List.getElem?_eq_getElem hl]⟩
theorem dIx_s {z : Str} {i : Int} (hz : z.length ≤ lim) (ho : okS z) (h : 0 ≤ i) (h2 : i < z.length) : ∃ c, dIx (.str z) (.int i) = some (.d (.str ⟨#[c]⟩)) ∧ c < 0x110000 := by
  obtain ⟨c, hc, e⟩ := atI_mem (xs := z.cps.toList) h (by rw [Array.length_toList]; exact h2)
  refine ⟨c, ?_, ho c hc⟩
  unfold dIx
  refine (if_pos hz).trans ?_
  rw [e]
  rfl
theorem okS_one {c : Nat} (h : c < 0x110000) : okS ⟨#[c]⟩ := by
  intro d hd
  rcases List.mem_singleton.mp hd with rfl
  exact h
/-- a comprehension that sieves -/
theorem lc_filt {M : MI} {i : Nat} {t : Sm M Bool} {e : Sm M S} {α : Type} (en : α → D) {g : α → D} {p : α → Bool} {z : Z M.T} (hi : z.rho.set i none = z.rho) : ∀ (ts : List α) (acc : List D), acc.length + ts.length ≤ lim →
    (∀ x ∈ ts, t { z with rho := z.rho.set i (some (.d (en x))) } = .ok (p x) { z with rho := z.rho.set i (some (.d (en x))) } ∧ escf e { z with rho := z.rho.set i (some (.d (en x))) } = .ok (.d (g x)) { z with rho := z.rho.set i (some (.d (en x))) }) → lcL (kName i) t e [i] (ts.map en) acc z = .ok (acc ++ (ts.filter p).map g) z
  | [], acc, _, _ => by simp [lcL]
  | d :: r, acc, hl, h => by
    obtain ⟨h1, h2⟩ := h d List.mem_cons_self
    rw [List.length_cons] at hl
    have hw : wipeZ ({ z with rho := z.rho.set i (some (.d (en d))) } : Z M.T) [i] = z := by unfold wipeZ wipeR wipeR; simp only [List.set_set, hi]
    rw [List.map_cons]
    unfold lcL
    simp only [kName, nox, Rs.bind_ok, h1]
    cases hp : p d with
    | true =>
      simp only [if_true, h2, Rs.bind_ok]
      rw [if_pos (by omega), hw, lc_filt en hi r (acc ++ [g d]) (by rw [List.length_append, List.length_singleton]; omega) (fun x hx => h x (List.mem_cons_of_mem _ hx)), List.filter_cons_of_pos hp]
      simp
    | false =>
      simp only [Bool.false_eq_true, if_false]
      rw [hw, lc_filt en hi r acc (by omega) (fun x hx => h x (List.mem_cons_of_mem _ hx)), List.filter_cons_of_neg (by rw [hp]; exact Bool.false_ne_true)]
theorem elc_filt {M : MI} {i : Nat} {its : Sm M (List D)} {t : Sm M Bool} {e : Sm M S} {α : Type} (en : α → D) {g : α → D} {p : α → Bool} {ts : List α} {z z0 : Z M.T} (h0 : its z0 = .ok (ts.map en) z) (hi : z.rho.set i none = z.rho) (hl : ts.length ≤ lim)
    (h : ∀ x ∈ ts, t { z with rho := z.rho.set i (some (.d (en x))) } = .ok (p x) { z with rho := z.rho.set i (some (.d (en x))) } ∧ escf e { z with rho := z.rho.set i (some (.d (en x))) } = .ok (.d (g x)) { z with rho := z.rho.set i (some (.d (en x))) }) : eLc its (kName i) t e [i] z0 = .ok (.l ((ts.filter p).map g)) z := by
  have hw : wipeZ z [i] = z := by unfold wipeZ wipeR wipeR; rw [hi]
  unfold eLc
  rw [h0, Rs.bind_ok, if_pos (noOwn_one hi), hw, lc_filt en hi ts [] (by rw [List.length_nil]; omega) h, Rs.bind_ok, rest_one hi]
  rfl
theorem blsOf_map {α : Type} (f : α → Bool) : ∀ ts : List α, blsOf (ts.map fun t => D.bl (f t)) = some (ts.map f)
  | [] => rfl
  | t :: r => by rw [List.map_cons, blsOf, blsOf_map f r]; rfl
end G
/-! The store: mutable objects by their numbers. -/
namespace G
open PySem L2
theorem tag_inj {n m : Nat} (h : tag n = tag m) : n = m := by
  unfold tag at h
  injection h with h
  have h2 : [rawInt (n : Nat)] = [rawInt (m : Nat)] := congrArg Array.toList h
  injection h2 with h3
  unfold rawInt at h3
  injection h3 with h4
  exact Int.ofNat.inj h4
inductive MO where
  | lst (xs : List D)
  | dK (ps : List (Key × D))
  /-- an instance of a class, its attributes -/
  | ins (c : Str) (fs : List (Str × D))
inductive DaF (K : PySem.W.Frag) (F : Hp) : List (Str × V) → List (Str × D) → Prop
  | nil : DaF K F [] []
  | cons {k : Str} {v : V} {d : D} {r : List (Str × V)} {r' : List (Str × D)} : Da K F v d → DaF K F r r' → DaF K F ((k, v) :: r) ((k, d) :: r')
theorem DaF.mono {K : PySem.W.Frag} {F F' : Hp} (h : Same F F') : ∀ {a b}, DaF K F a b → DaF K F' a b
  | _, _, .nil => .nil
  | _, _, .cons q r => .cons (q.mono h) (DaF.mono h r)
inductive DaK (K : PySem.W.Frag) (F : Hp) : List (Key × V) → List (Key × D) → Prop
  | nil : DaK K F [] []
  | cons {k : Key} {v : V} {d : D} {r : List (Key × V)} {r' : List (Key × D)} : Da K F v d → DaK K F r r' → DaK K F ((k, v) :: r) ((k, d) :: r')
theorem DaK.mono {K : PySem.W.Frag} {F F' : Hp} (h : Same F F') : ∀ {a b}, DaK K F a b → DaK K F' a b
  | _, _, .nil => .nil
  | _, _, .cons q r => .cons (q.mono h) (DaK.mono h r)
theorem DaK.length {K : PySem.W.Frag} {F : Hp} : ∀ {a b}, DaK K F a b → a.length = b.length
  | _, _, .nil => rfl
  | _, _, .cons _ r => congrArg (· + 1) (DaK.length r)
def valD (ps : List (Key × D)) (k : Key) : Option D := match ps with
  | [] => none
  | p :: r => if p.1 = k then some p.2 else valD r k
def putD (ps : List (Key × D)) (k : Key) (d : D) : List (Key × D) :=
  if (ps.any fun kv => decide (kv.1 = k)) = true then ps.map (fun kv => if kv.1 = k then (kv.1, d) else kv) else ps ++ [(k, d)]
theorem DaK.val {K : PySem.W.Frag} {F : Hp} (k : Key) : ∀ {a b}, DaK K F a b → (valD b k = none ∧ valV a k = none) ∨ ∃ v d, valD b k = some d ∧ valV a k = some v ∧ Da K F v d
  | _, _, .nil => .inl ⟨rfl, rfl⟩
  | _, _, .cons (k := k') q r => by
    by_cases e : k' = k
    · exact .inr ⟨_, _, by rw [valD, if_pos e], valV_pos e, q⟩
    · rw [valD, if_neg e, valV_neg e]
      exact DaK.val k r
theorem DaK.any {K : PySem.W.Frag} {F : Hp} (k : Key) : ∀ {a b}, DaK K F a b → (a.any fun kv => decide (kv.1 = k)) = (b.any fun kv => decide (kv.1 = k))
  | _, _, .nil => rfl
  | _, _, .cons q r => by rw [List.any_cons, List.any_cons, DaK.any k r]
theorem DaK.app {K : PySem.W.Frag} {F : Hp} : ∀ {a b a' b'}, DaK K F a b → DaK K F a' b' → DaK K F (a ++ a') (b ++ b')
  | _, _, _, _, .nil, h => h
  | _, _, _, _, .cons q r, h => .cons q (DaK.app r h)
theorem DaK.map {K : PySem.W.Frag} {F : Hp} (k : Key) {v : V} {d : D} (hv : Da K F v d) : ∀ {a b}, DaK K F a b → DaK K F (a.map fun kv => if kv.1 = k then (kv.1, v) else kv) (b.map fun kv => if kv.1 = k then (kv.1, d) else kv)
  | _, _, .nil => .nil
  | _, _, .cons (k := k') q r => by
    rw [List.map_cons, List.map_cons]
    by_cases e : k' = k
    · rw [if_pos e, if_pos e]; exact .cons hv (DaK.map k hv r)
    · rw [if_neg e, if_neg e]; exact .cons q (DaK.map k hv r)
theorem DaK.put {K : PySem.W.Frag} {F : Hp} (k : Key) {v : V} {d : D} (hv : Da K F v d) {a b} (h : DaK K F a b) : DaK K F (putK a k v) (putD b k d) := by
  unfold putK putD
  rw [h.any k]
  split
  · exact h.map k hv
  · exact h.app (.cons hv .nil)
def Holds (K : PySem.W.Frag) (F H : Hp) (a : Addr) : MO → Prop
  | .lst xs => ∃ vs, H a = some (.lst vs) ∧ DaAll K F vs xs
  | .dK ps => ∃ kvs, H a = some (.dK kvs) ∧ DaK K F kvs ps
  | .ins c fs => ∃ C dx vs, xrK K c = some (.ref C) ∧ H a = some (.ins C dx vs) ∧ DaF K F vs fs
theorem Holds.mono {K : PySem.W.Frag} {F F' H H' : Hp} {a : Addr} {o : MO} (s : Same F F') (e : H' a = H a) (h : Holds K F H a o) : Holds K F' H' a o := by
  cases o with
  | lst xs =>
    obtain ⟨vs, h1, h2⟩ := h
    exact ⟨vs, e.trans h1, h2.mono s⟩
  | dK ps =>
    obtain ⟨vs, h1, h2⟩ := h
    exact ⟨vs, e.trans h1, h2.mono s⟩
  | ins c fs =>
    obtain ⟨C, dx, vs, h0, h1, h2⟩ := h
    exact ⟨C, dx, vs, h0, e.trans h1, h2.mono s⟩
theorem Holds.some {K : PySem.W.Frag} {F H : Hp} {a : Addr} {o : MO} (h : Holds K F H a o) : H a ≠ none := by
  cases o with
  | lst xs =>
    obtain ⟨vs, h1, h2⟩ := h
    rw [h1]; intro z; cases z
  | dK ps =>
    obtain ⟨vs, h1, h2⟩ := h
    rw [h1]; intro z; cases z
  | ins c fs =>
    obtain ⟨C, dx, vs, h0, h1, h2⟩ := h
    rw [h1]; intro z; cases z
abbrev MX : MI where
  T := List MO
  ok := fun K F H ms t => ms = [] ∧ (∀ n o, t[n]? = some o → ∃ a, F a = some (tag n) ∧ Holds K F H a o) ∧ (∀ a ps, F a = some (.tbl ps) → ∃ n, n < t.length ∧ HO.tbl ps = tag n) ∧ ∀ a b n, F a = some (tag n) → F b = some (tag n) → a = b
  mono := fun {K F F' H H' ms t} hF ht hm h => by
    obtain ⟨h0, h1, h2, h3⟩ := h
    refine ⟨h0, fun n o e => ?_, fun a ps e => h2 a ps (ht a ps e).1, fun a b n e1 e2 => h3 a b n (ht a _ e1).1 (ht b _ e2).1⟩
    obtain ⟨a, ha, hh⟩ := h1 n o e
    exact ⟨a, hF _ _ ha, hh.mono hF (ht a _ (hF _ _ ha)).2⟩
section
variable {G : Gx} {W : WX} {σ : St} {H H' F F' : Hp} {z : Z (List MO)}
theorem Ok.noms (ok : Ok MX G σ H F z) : G.ms = [] := ok.mach.1
theorem Ok.alloc (ok : Ok MX G σ H F z) {p : Addr} (hp : H p = none) {ho : HO} {o : MO} (hh : Holds G.K (upd F p (tag z.m.length)) (upd H p ho) p o) : Ok MX G σ (upd H p ho) (upd F p (tag z.m.length)) { z with m := z.m ++ [o] } where
  sub := fun b u q n => by
    by_cases e : b = p
    · subst e
      rw [upd_same] at q
      exact (n _ (Option.some.inj q).symm).elim
    · rw [upd_ne e] at q ⊢
      exact ok.sub b u q n
  len := ok.len
  slot := fun i s e => by
    obtain ⟨v, h1, h2⟩ := ok.slot i s e
    refine ⟨v, h1, ?_⟩
    have sm := same_upd (o := tag z.m.length) (ok.freshF hp)
    cases s with
    | d x => exact Da.mono sm h2
    | l xs =>
      obtain ⟨a, vs, rfl, h3, h4, h5, h6, h7⟩ := h2
      have nb := ne_of_none h3 hp
      exact ⟨a, vs, rfl, (upd_ne nb).trans h3, h4.mono sm, (upd_ne nb).trans h5, h6, h7⟩
    | v _ => exact h2
    | m j => exact h2
  dist := ok.dist
  mach := by
    have fp := ok.freshF hp
    obtain ⟨h0, h1, h2, h3⟩ := ok.mach
    have old : ∀ a n, upd F p (tag z.m.length) a = some (tag n) → (a = p ∧ n = z.m.length) ∨ (a ≠ p ∧ F a = some (tag n) ∧ n < z.m.length) := fun a n e => by
      by_cases q : a = p
      · subst q
        rw [upd_same] at e
        exact .inl ⟨rfl, (tag_inj (Option.some.inj e)).symm⟩
      · rw [upd_ne q] at e
        obtain ⟨k, hk, ek⟩ := h2 a _ e
        rw [tag_inj (show tag n = tag k from ek)]
        exact .inr ⟨q, by rw [← tag_inj (show tag n = tag k from ek)]; exact e, hk⟩
    refine ⟨h0, fun n u e => ?_, fun a ps e => ?_, fun a b n e1 e2 => ?_⟩
    · have e' : (z.m ++ [o])[n]? = some u := e
      by_cases q : n < z.m.length
      · rw [List.getElem?_append_left q] at e'
        obtain ⟨a, ha, hu⟩ := h1 n u e'
        have nb := ne_of_none ha fp
        exact ⟨a, (upd_ne nb).trans ha, hu.mono (same_upd fp) (upd_ne nb)⟩
      · have en : n = z.m.length := by
          have := (List.getElem?_eq_some_iff.mp e').1
          rw [List.length_append, List.length_singleton] at this
          omega
        subst en
        rw [List.getElem?_append_right (Nat.le_refl _), Nat.sub_self] at e'
        cases e'
        exact ⟨p, upd_same, hh⟩
    · by_cases q : a = p
      · subst q
        rw [upd_same] at e
        exact ⟨z.m.length, by show _ < (z.m ++ [o]).length; rw [List.length_append, List.length_singleton]; omega, (Option.some.inj e).symm⟩
      · rw [upd_ne q] at e
        obtain ⟨k, hk, ek⟩ := h2 a ps e
        exact ⟨k, by show _ < (z.m ++ [o]).length; rw [List.length_append]; omega, ek⟩
    · rcases old a n e1 with ⟨rfl, en⟩ | ⟨_, q1, ln⟩
      · rcases old b n e2 with ⟨rfl, _⟩ | ⟨_, _, ln⟩
        · rfl
        · omega
      · rcases old b n e2 with ⟨rfl, en⟩ | ⟨_, q2, _⟩
        · omega
        · exact h3 a b n q1 q2
  msF := fun a ha => by rw [ok.noms] at ha; cases ha
  msP := fun a ha => by rw [ok.noms] at ha; cases ha
  msH := fun a ha => by rw [ok.noms] at ha; cases ha
  fr := fun b u q => by
    obtain ⟨h1, h2⟩ := ok.fr b u q
    have nb := ne_of_none h1 hp
    exact ⟨(upd_ne nb).trans h1, (upd_ne nb).trans h2⟩
  tg := fun a ps e => by
    by_cases q : a = p
    · subst q
      exact ⟨(by rw [upd_same]; intro y; cases y), ok.freshP hp⟩
    · rw [upd_ne q] at e ⊢
      exact ok.tg a ps e
theorem Ok.putO (ok : Ok MX G σ H F z) {a : Addr} {n : Nat} (ha : F a = some (tag n)) {ho : HO} {o : MO} (hh : Holds G.K F (upd H a ho) a o) : Ok MX G σ (upd H a ho) F { z with m := z.m.set n o } where
  sub := fun b u q nt => by
    have nb : b ≠ a := fun e => by
      rw [e, ha] at q
      exact nt _ (Option.some.inj q).symm
    rw [upd_ne nb]
    exact ok.sub b u q nt
  len := ok.len
  slot := fun i s e => by
    obtain ⟨v, h1, h2⟩ := ok.slot i s e
    refine ⟨v, h1, ?_⟩
    cases s with
    | d x => exact h2
    | l xs =>
      obtain ⟨b, vs, rfl, h3, h4, h5, h6, h7⟩ := h2
      have nb : b ≠ a := fun e => by rw [e, ha] at h5; cases h5
      exact ⟨b, vs, rfl, (upd_ne nb).trans h3, h4, h5, h6, h7⟩
    | v _ => exact h2
    | m j => exact h2
  dist := ok.dist
  mach := by
    obtain ⟨h0, h1, h2, h3⟩ := ok.mach
    refine ⟨h0, fun k u e => ?_, fun b ps e => ?_, h3⟩
    · have e' : (z.m.set n o)[k]? = some u := e
      by_cases q : k = n
      · subst q
        have hl : k < z.m.length := by
          have := (List.getElem?_eq_some_iff.mp e').1
          rw [List.length_set] at this
          exact this
        rw [List.getElem?_set_self hl] at e'
        cases e'
        exact ⟨a, ha, hh⟩
      · rw [List.getElem?_set_ne (Ne.symm q)] at e'
        obtain ⟨b, hb, hu⟩ := h1 k u e'
        have nb : b ≠ a := fun e => by
          rw [e, ha] at hb
          exact q (tag_inj (Option.some.inj hb)).symm
        exact ⟨b, hb, hu.mono (Same.refl _) (upd_ne nb)⟩
    · obtain ⟨k, hk, ek⟩ := h2 b ps e
      exact ⟨k, by show _ < (z.m.set n o).length; rw [List.length_set]; exact hk, ek⟩
  msF := fun a ha => by rw [ok.noms] at ha; cases ha
  msP := fun a ha => by rw [ok.noms] at ha; cases ha
  msH := fun a ha => by rw [ok.noms] at ha; cases ha
  fr := fun b u q => by
    obtain ⟨h1, h2⟩ := ok.fr b u q
    have nb : b ≠ a := fun e => by rw [e, (ok.tg a _ ha).2] at q; cases q
    exact ⟨(upd_ne nb).trans h1, h2⟩
  tg := fun b ps e => by
    refine ⟨?_, (ok.tg b ps e).2⟩
    by_cases q : b = a
    · subst q
      rw [upd_same]; intro y; cases y
    · rw [upd_ne q]; exact (ok.tg b ps e).1
/-- the object that a value is -/
theorem Ok.objAt (ok : Ok MX G σ H F z) {v : V} {n : Nat} {o : MO} (h : Da G.K F v (.o n)) (e : z.m[n]? = some o) : ∃ a, v = .ref a ∧ F a = some (tag n) ∧ Holds G.K F H a o := by
  cases h with
  | o q =>
    obtain ⟨h0, h1, h2, h3⟩ := ok.mach
    obtain ⟨b, hb, hh⟩ := h1 n o e
    rename_i a
    cases h3 a b n q hb
    exact ⟨a, rfl, q, hh⟩
end
/-! ### dicts of the store -/
def keyD : D → Option Key
  | .int i => some (.inl i)
  | .str x => some (.inr x)
  | _ => none
theorem keyD_v {K : PySem.W.Frag} {F H : Hp} {v : V} {d : D} {k : Key} (h : Rv K F H v d) (e : keyD d = some k) : v = kV k := by
  cases d with
  | int i => cases e; exact h.int
  | str x => cases e; exact h.str
  | _ => cases e
section
variable {ι : Type} {xr : Str → Option Value} {K : PySem.W.Frag} {X : ι → Cx} {W : WX} {N : List Str} {mg : Str → Option Value}
def eNewD : Sm MX S := fun z => .ok (.d (.o z.m.length)) { z with m := z.m ++ [.dK []] }
theorem de_newD {pos : Pos} : DE MX xr K X W (.Dict [] [] pos) eNewD := by
  refine ⟨_, fun j => pe_dnewK, fun G σ H F z Q hK hx ok hh => fun p hp => ?_⟩
  exact hh (.ref p) (upd H p (.dK [])) (upd F p (tag z.m.length)) (same_upd (ok.freshF hp)) (ok.alloc hp ⟨[], upd_same, .nil⟩) (Da.o upd_same)
def dictAt (z : Z (List MO)) (s : S) : Option (Nat × List (Key × D)) := match rd z s with
  | some (.o n) => (match z.m[n]? with
    | some (.dK ps) => some (n, ps)
    | _ => none)
  | _ => none
theorem dictAt_rv {G : Gx} {σ : St} {H F : Hp} {z : Z (List MO)} (ok : Ok MX G σ H F z) {v : V} {s : S} {n : Nat} {ps : List (Key × D)} (e : EO G σ F v s) (h : dictAt z s = some (n, ps)) : ∃ a kvs, v = .ref a ∧ F a = some (tag n) ∧ z.m[n]? = some (.dK ps) ∧ H a = some (.dK kvs) ∧ DaK G.K F kvs ps := by
  unfold dictAt at h
  split at h
  · rename_i k er
    split at h
    · rename_i qs em
      cases h
      have r := (EO.rv ok e er).da (fun _ q => by cases q)
      obtain ⟨a, rfl, h1, kvs, h2, h3⟩ := ok.objAt r em
      exact ⟨a, kvs, rfl, h1, em, h2, h3⟩
    · cases h
  · cases h
/-- x.get(k) -/
def eDGet1 (f g : Sm MX S) : Sm MX S := fun z => (opd f z).bind fun s z1 => match dictAt z1 s with
  | some _ => (opd g z1).bind fun s' z2 => (match dictAt z2 s, (rd z2 s').bind keyD with
    | some (_, ps), some k => .ok (.d ((valD ps k).getD .non)) z2
    | _, _ => .bad)
  | none => .bad
theorem getD_da {K : PySem.W.Frag} {F : Hp} {kvs : List (Key × V)} {ps : List (Key × D)} (h : DaK K F kvs ps) (k : Key) {w : V} {x : D} (hw : Da K F w x) : Da K F ((valV kvs k).getD w) ((valD ps k).getD x) := by
  rcases h.val k with ⟨e1, e2⟩ | ⟨v, d, e1, e2, e3⟩
  · rw [e1, e2]; exact hw
  · rw [e1, e2]; exact e3
theorem de_dget1 {o e : Expr} {f g : Sm MX S} {apos cpos : Pos} (p : Pl K X N mg) (ho : DE MX xr K X W o f) (he : DE MX xr K X W e g) (m : ∀ j, L2.M1 (X j) o "get" apos e cpos) : DE MX xr K X W (.Call (.Attribute o "get" apos) [e] [] cpos) (eDGet1 f g) := by
  obtain ⟨t1, p1, c1⟩ := ho
  obtain ⟨t2, p2, c2⟩ := he
  refine ⟨_, fun j => pe_dget1 (by have := p.u j; omega) (p1 j) (p2 j) (m j), fun G σ H F z Q hK hx ok hh => ?_⟩
  refine cmp_opd c1 G σ H F z _ hK hx ok (hit_bind hh fun s z1 v H1 F1 _ sm1 ok1 ev h1 => ?_)
  cases e1 : dictAt z1 s with
  | none => rw [e1] at h1; exact h1.elim
  | some q =>
    obtain ⟨n, ps⟩ := q
    rw [e1] at h1
    obtain ⟨a, kvs, rfl, ha, em, hH, hk⟩ := dictAt_rv ok1 ev e1
    refine ⟨a, rfl, .inl ⟨kvs, .inl hH⟩, ?_⟩
    refine cmp_opd c2 G σ H1 F1 z1 _ hK hx ok1 (hit_bind h1 fun s' z2 v' H2 F2 _ sm2 ok2 ev2 h2 => ?_)
    cases e2 : dictAt z2 s with
    | none => simp only [e2] at h2; exact h2.elim
    | some q =>
      obtain ⟨n', ps'⟩ := q
      cases e3 : (rd z2 s').bind keyD with
      | none => simp only [e2, e3] at h2; exact h2.elim
      | some k =>
        simp only [e2, e3] at h2
        obtain ⟨a', kvs', ea, ha', em', hH', hk'⟩ := dictAt_rv ok2 (EO.mono sm2 ev) e2
        cases ea
        cases er : rd z2 s' with
        | none => rw [er] at e3; cases e3
        | some d =>
          rw [er] at e3
          have hv := keyD_v (EO.rv ok2 ev2 er) e3
          subst hv
          exact ⟨_, DGet.k hH', h2 _ H2 F2 (Same.refl _) ok2 (getD_da hk' k .non)⟩
/-- x.get(k, w) -/
def eDGet2 (f g h : Sm MX S) : Sm MX S := fun z => (opd f z).bind fun s z1 => match dictAt z1 s with
  | some _ => (opd g z1).bind fun s' z2 => (escf h z2).bind fun s'' z3 => (match dictAt z3 s, (rd z3 s').bind keyD, s'' with
    | some (_, ps), some k, .d x => .ok (.d ((valD ps k).getD x)) z3
    | _, _, _ => .bad)
  | none => .bad
theorem de_dget2 {o e e' : Expr} {f g h : Sm MX S} {apos cpos : Pos} (p : Pl K X N mg) (ho : DE MX xr K X W o f) (he : DE MX xr K X W e g) (he' : DE MX xr K X W e' h) (m : ∀ j, L2.M2 (X j) o "get" apos e e' cpos) : DE MX xr K X W (.Call (.Attribute o "get" apos) [e, e'] [] cpos) (eDGet2 f g h) := by
  obtain ⟨t1, p1, c1⟩ := ho
  obtain ⟨t2, p2, c2⟩ := he
  obtain ⟨t3, p3, c3⟩ := he'
  refine ⟨_, fun j => pe_dget2 (by have := p.u j; omega) (p1 j) (p2 j) (p3 j) (m j), fun G σ H F z Q hK hx ok hh => ?_⟩
  refine cmp_opd c1 G σ H F z _ hK hx ok (hit_bind hh fun s z1 v H1 F1 _ sm1 ok1 ev h1 => ?_)
  cases e1 : dictAt z1 s with
  | none => rw [e1] at h1; exact h1.elim
  | some q =>
    obtain ⟨n, ps⟩ := q
    rw [e1] at h1
    obtain ⟨a, kvs, rfl, ha, em, hH, hk⟩ := dictAt_rv ok1 ev e1
    refine ⟨a, rfl, .inl ⟨kvs, .inl hH⟩, ?_⟩
    refine cmp_opd c2 G σ H1 F1 z1 _ hK hx ok1 (hit_bind h1 fun s' z2 v' H2 F2 _ sm2 ok2 ev2 h2 => ?_)
    refine cmp_esc c3 G σ H2 F2 z2 _ hK hx ok2 (hit_bind h2 fun s'' z3 v'' H3 F3 _ sm3 ok3 ev3 h3 => ?_)
    cases e2 : dictAt z3 s with
    | none => simp only [e2] at h3; exact h3.elim
    | some q =>
      obtain ⟨n', ps'⟩ := q
      cases e3 : (rd z3 s').bind keyD with
      | none => simp only [e2, e3] at h3; exact h3.elim
      | some k =>
        cases s'' with
        | d x =>
          simp only [e2, e3] at h3
          obtain ⟨a', kvs', ea, ha', em', hH', hk'⟩ := dictAt_rv ok3 (EO.mono sm3 (EO.mono sm2 ev)) e2
          cases ea
          cases er : rd z3 s' with
          | none => rw [er] at e3; cases e3
          | some d =>
            rw [er] at e3
            have hv := keyD_v (EO.rv ok3 (EO.mono sm3 ev2) er) e3
            subst hv
            exact ⟨_, DGet.k hH', h3 _ H3 F3 (Same.refl _) ok3 (getD_da hk' k ev3)⟩
        | l _ => simp only [e2, e3] at h3; exact h3.elim
        | v _ => simp only [e2, e3] at h3; exact h3.elim
        | m _ => simp only [e2, e3] at h3; exact h3.elim
/-- x[k] = v -/
def sDPutM (fv fd fk : Sm MX S) : Sm MX Out := fun z => (escf fv z).bind fun s z1 => (opd fd z1).bind fun s' z2 => (opd fk z2).bind fun s'' z3 => match s, dictAt z3 s', (rd z3 s'').bind keyD with
  | .d x, some (n, ps), some k => if ps.length < lim then .ok .nx { z3 with m := z3.m.set n (.dK (putD ps k x)) } else .bad
  | _, _, _ => .bad
theorem ds_dput {o i value : Expr} {fv fd fk : Sm MX S} {pos pos' : Pos} (p : Pl K X N mg) (hv : DE MX xr K X W value fv) (ho : DE MX xr K X W o fd) (hi : DE MX xr K X W i fk) (hs : ∀ j, swapsWith value (some (.Subscript o i pos')) pos.line (X j).env = pure false := by intro _; rfl) : DS MX xr K X W (.Assign [.Subscript o i pos'] value pos) (sDPutM fv fd fk) := by
  obtain ⟨t1, p1, c1⟩ := hv
  obtain ⟨t2, p2, c2⟩ := ho
  obtain ⟨t3, p3, c3⟩ := hi
  refine ⟨_, fun j => ps_dput (by have := p.u j; omega) (p2 j) (p3 j) (p1 j) (hs j), fun G σ H F z D hK hx ok hh => ?_⟩
  refine cmp_esc c1 G σ H F z _ hK hx ok (hits_bind hh fun s z1 v H1 F1 _ sm1 ok1 ev h1 => ?_)
  refine cmp_opd c2 G σ H1 F1 z1 _ hK hx ok1 (hits_bind h1 fun s' z2 v' H2 F2 _ sm2 ok2 ev2 h2 => ?_)
  refine cmp_opd c3 G σ H2 F2 z2 _ hK hx ok2 (hits_bind h2 fun s'' z3 v'' H3 F3 _ sm3 ok3 ev3 h3 => ?_)
  cases s with
  | d x =>
    cases e2 : dictAt z3 s' with
    | none => simp only [e2] at h3; exact h3.elim
    | some q =>
      obtain ⟨n, ps⟩ := q
      cases e3 : (rd z3 s'').bind keyD with
      | none => simp only [e2, e3] at h3; exact h3.elim
      | some k =>
        simp only [e2, e3] at h3
        by_cases hl : ps.length < lim
        · rw [if_pos hl] at h3
          obtain ⟨a, kvs, rfl, ha, em, hH, hk⟩ := dictAt_rv ok3 (EO.mono sm3 ev2) e2
          cases er : rd z3 s'' with
          | none => rw [er] at e3; cases e3
          | some d =>
            rw [er] at e3
            have hv := keyD_v (EO.rv ok3 ev3 er) e3
            subst hv
            have dv : Da G.K F3 v x := Da.mono sm3 (Da.mono sm2 ev)
            exact ⟨a, _, rfl, DPut.k hH (by rw [hk.length]; exact Nat.lt_trans hl lim_line), h3 σ _ F3 (Same.refl _) (ok3.putO ha ⟨_, upd_same, hk.put k dv⟩)⟩
        · rw [if_neg hl] at h3; exact h3.elim
  | l _ => exact h3.elim
  | v _ => exact h3.elim
  | m _ => exact h3.elim
/-! ### lists of the store -/
def eNewL (g : Sm MX (List S)) : Sm MX S := fun z => (g z).bind fun ss z1 => match dsOf ss with
  | some ds => if ds.length ≤ lim then .ok (.d (.o z1.m.length)) { z1 with m := z1.m ++ [.lst ds] } else .bad
  | none => .bad
theorem de_newL {es : List Expr} {g : Sm MX (List S)} {pos} (h : DA MX xr K X W es g) : DE MX xr K X W (.List es pos) (eNewL g) := by
  obtain ⟨t, p, c⟩ := h
  refine ⟨_, fun j => pe_lst (p j), fun G σ H F z Q hK hx ok hh => ?_⟩
  refine c G σ H F z _ hK hx ok (hit_bind hh fun ss z1 vs H1 F1 _ sm1 ok1 e1 h1 => ?_)
  cases e : dsOf ss with
  | none => rw [e] at h1; exact h1.elim
  | some ds =>
    rw [e] at h1
    have da := paired_ds e1 e
    by_cases hl : ds.length ≤ lim
    · simp only [if_pos hl] at h1
      refine ⟨by rw [da.length]; exact Nat.le_trans hl (Nat.le_of_lt lim_line), fun p hp => ?_⟩
      exact h1 (.ref p) (upd H1 p (.lst vs)) (upd F1 p (tag z1.m.length)) (same_upd (ok1.freshF hp)) (ok1.alloc hp ⟨vs, upd_same, da.mono (same_upd (ok1.freshF hp))⟩) (Da.o upd_same)
    · simp only [if_neg hl] at h1
      exact h1.elim
def listAt (z : Z (List MO)) (s : S) : Option (Nat × List D) := match rd z s with
  | some (.o n) => (match z.m[n]? with
    | some (.lst xs) => some (n, xs)
    | _ => none)
  | _ => none
theorem listAt_rv {G : Gx} {σ : St} {H F : Hp} {z : Z (List MO)} (ok : Ok MX G σ H F z) {v : V} {s : S} {n : Nat} {xs : List D} (e : EO G σ F v s) (h : listAt z s = some (n, xs)) : ∃ a vs, v = .ref a ∧ F a = some (tag n) ∧ z.m[n]? = some (.lst xs) ∧ H a = some (.lst vs) ∧ DaAll G.K F vs xs := by
  unfold listAt at h
  split at h
  · rename_i k er
    split at h
    · rename_i qs em
      cases h
      have r := (EO.rv ok e er).da (fun _ q => by cases q)
      obtain ⟨a, rfl, h1, vs, h2, h3⟩ := ok.objAt r em
      exact ⟨a, vs, rfl, h1, em, h2, h3⟩
    · cases h
  · cases h
theorem DaAll.at {K : PySem.W.Frag} {F : Hp} {vs : List V} {ds : List D} (h : DaAll K F vs ds) {i : Int} {d : D} (e : atI ds i = some d) : ∃ v, atI vs i = some v ∧ Da K F v d := by
  unfold atI at e ⊢
  rw [h.length]
  cases q : ixN ds.length i with
  | none => rw [q] at e; cases e
  | some j =>
    rw [q] at e
    exact h.get e
/-- x[i] of a list of the store -/
def eIxO (f g : Sm MX S) : Sm MX S := fun z => (opd f z).bind fun s z1 => (opd g z1).bind fun s' z2 => match listAt z2 s, rd z2 s' with
  | some (_, xs), some (.int i) => (match atI xs i with
    | some d => .ok (.d d) z2
    | none => .bad)
  | _, _ => .bad
theorem de_ixO {a b : Expr} {f g : Sm MX S} {pos : Pos} (p : Pl K X N mg) (ha : DE MX xr K X W a f) (hb : DE MX xr K X W b g) (hs : PlainIx b := by exact fun _ _ => rfl) : DE MX xr K X W (.Subscript a b pos) (eIxO f g) := by
  obtain ⟨t1, p1, c1⟩ := ha
  obtain ⟨t2, p2, c2⟩ := hb
  refine ⟨tOp (rIxL K) t1 t2, fun j => by rw [← p.k j]; exact pe_ix ix_list (p1 j) (p2 j) hs, fun G σ H F z Q hK hx ok hh => ?_⟩
  refine cmp_opd c1 G σ H F z _ hK hx ok (hit_bind hh fun s z1 v H1 F1 _ sm1 ok1 ev h1 => ?_)
  refine cmp_opd c2 G σ H1 F1 z1 _ hK hx ok1 (hit_bind h1 fun s' z2 v' H2 F2 _ sm2 ok2 ev2 h2 => ?_)
  cases e2 : listAt z2 s with
  | none => simp only [e2] at h2; exact h2.elim
  | some q =>
    obtain ⟨n, xs⟩ := q
    cases er : rd z2 s' with
    | none => simp only [e2, er] at h2; exact h2.elim
    | some d =>
      cases d with
      | int i =>
        simp only [e2, er] at h2
        cases ea : atI xs i with
        | none => rw [ea] at h2; exact h2.elim
        | some d =>
          rw [ea] at h2
          obtain ⟨a, vs, rfl, ha, em, hH, hd⟩ := listAt_rv ok2 (EO.mono sm2 ev) e2
          have hv := (EO.rv ok2 ev2 er).int
          subst hv
          obtain ⟨w, e3, da⟩ := hd.at ea
          exact ⟨a, vs, i, w, rfl, rfl, SqL.of hH, e3, h2 w H2 F2 (Same.refl _) ok2 da⟩
      | _ => simp only [e2, er] at h2; exact h2.elim
/-- x[i] = v, x a list of the store -/
def sLPutM (fv fd fk : Sm MX S) : Sm MX Out := fun z => (escf fv z).bind fun s z1 => (opd fd z1).bind fun s' z2 => (opd fk z2).bind fun s'' z3 => match s, listAt z3 s', rd z3 s'' with
  | .d x, some (n, xs), some (.int i) => (match ixN xs.length i with
    | some j => .ok .nx { z3 with m := z3.m.set n (.lst (xs.set j x)) }
    | none => .bad)
  | _, _, _ => .bad
theorem ds_lput {o i value : Expr} {fv fd fk : Sm MX S} {pos pos' : Pos} (p : Pl K X N mg) (hv : DE MX xr K X W value fv) (ho : DE MX xr K X W o fd) (hi : DE MX xr K X W i fk)
    (hs : ∀ q, swapsWithSole [.Subscript o i pos'] value pos.line (X q).env = pure false := by intro _; rfl) (hw : ∀ q, swappedStores [.Subscript o i pos'] value (X q).env = pure none := by intro _; rfl)
    (h1 : ∀ q, (assignEach [.Subscript o i pos'] (X q).env).map (·.2) = [assign (.Subscript o i pos') (X q).env] := by intro _; rfl)
    (hg : ∀ q t1 t2, PE (X q) o t1 → PE (X q) i t2 → PG (X q) (.Subscript o i pos') (gSub t1 t2 rSetL) := by exact fun _ _ _ q1 q2 => pg_sub q1 q2 set_list) : DS MX xr K X W (.Assign [.Subscript o i pos'] value pos) (sLPutM fv fd fk) := by
  obtain ⟨t1, p1, c1⟩ := hv
  obtain ⟨t2, p2, c2⟩ := ho
  obtain ⟨t3, p3, c3⟩ := hi
  refine ⟨tAsg t1 (gSub t2 t3 rSetL), fun q => ps_asg (p1 q) (hg q t2 t3 (p2 q) (p3 q)) (hs q) (hw q) (h1 q), fun G σ H F z D hK hx ok hh => ?_⟩
  refine cmp_esc c1 G σ H F z _ hK hx ok (hits_bind hh fun s z1 v H1 F1 _ sm1 ok1 ev h1 => ?_)
  refine cmp_opd c2 G σ H1 F1 z1 _ hK hx ok1 (hits_bind h1 fun s' z2 v' H2 F2 _ sm2 ok2 ev2 h2 => ?_)
  refine cmp_opd c3 G σ H2 F2 z2 _ hK hx ok2 (hits_bind h2 fun s'' z3 v'' H3 F3 _ sm3 ok3 ev3 h3 => ?_)
  cases s with
  | d x =>
    cases e2 : listAt z3 s' with
    | none => simp only [e2] at h3; exact h3.elim
    | some q =>
      obtain ⟨n, xs⟩ := q
      cases er : rd z3 s'' with
      | none => simp only [e2, er] at h3; exact h3.elim
      | some d =>
        cases d with
        | int i =>
          simp only [e2, er] at h3
          cases ej : ixN xs.length i with
          | none => rw [ej] at h3; exact h3.elim
          | some j =>
            rw [ej] at h3
            obtain ⟨a, vs, rfl, ha, em, hH, hd⟩ := listAt_rv ok3 (EO.mono sm3 ev2) e2
            have hv := (EO.rv ok3 ev3 er).int
            subst hv
            have dv : Da G.K F3 v x := Da.mono sm3 (Da.mono sm2 ev)
            exact ⟨a, vs, i, j, rfl, rfl, hH, by rw [hd.length]; exact ej, h3 σ _ F3 (Same.refl _) (ok3.putO ha ⟨_, upd_same, DaAll.set dv j hd⟩)⟩
        | _ => simp only [e2, er] at h3; exact h3.elim
  | l _ => exact h3.elim
  | v _ => exact h3.elim
  | m _ => exact h3.elim
end
end G
/-! zip of two lists, a slot's own list changed at a place, a list times a number -/
namespace G
open PySem L2
section
variable {ι : Type} {M : MI} {xr : Str → Option Value} {K : PySem.W.Frag} {X : ι → Cx} {W : WX} {N : List Str} {mg : Str → Option Value}
def zipD : List D → List D → List D
  | x :: r, y :: q => .tup [x, y] :: zipD r q
  | _, _ => []
theorem zipD_len : ∀ xs ys, (zipD xs ys).length = min xs.length ys.length
  | [], ys => by simp [zipD]
  | x :: r, [] => by simp [zipD]
  | x :: r, y :: q => by simp [zipD, zipD_len r q]
theorem zipD_at : ∀ {xs ys : List D} {i : Nat} {x y : D}, xs[i]? = some x → ys[i]? = some y → (zipD xs ys)[i]? = some (.tup [x, y])
  | [], _, i, x, y, h, _ => by simp at h
  | x' :: r, [], i, x, y, _, h => by simp at h
  | x' :: r, y' :: q, 0, x, y, h1, h2 => by simp at h1 h2; subst h1 h2; rfl
  | x' :: r, y' :: q, i + 1, x, y, h1, h2 => by
    rw [List.getElem?_cons_succ] at h1 h2
    rw [zipD, List.getElem?_cons_succ]
    exact zipD_at h1 h2
theorem yd_zip {F H H' : Hp} {vs ws : List V} {ds es : List D} {i : Nat} {v x y : V} {T : Addr} (r : DaAll K F vs ds) (r2 : DaAll K F ws es) (hi : vs[i]? = some x) (hj : ws[i]? = some y) (e1 : v = .ref T) (e2 : H T = none) (e3 : H' = upd H T (.tup [x, y])) : YD K F (zipD ds es) i H v H' := by
  subst e1 e3
  obtain ⟨d, hd, da⟩ := r.getV hi
  obtain ⟨d2, hd2, da2⟩ := r2.getV hj
  refine ⟨_, zipD_at hd hd2, fun F1 s1 s2 st => ⟨upd F1 T (.tup [x, y]), same_upd (freeX s2 st e2), same_upd2 s2, fun b o e => ?_, fun a ps e => (tgk_newF (o := .tup [x, y]) (H := H) (u := .tup []) (freeX s2 st e2) tupNT a ps e).1, .tup (SqT.of upd_same) (.cons ((da.mono s1).mono (same_upd (freeX s2 st e2))) (.cons ((da2.mono s1).mono (same_upd (freeX s2 st e2))) .nil))⟩⟩
  have nb := ne_of_none e e2
  exact ⟨by rw [upd_ne nb]; exact e, upd_ne nb⟩
def iZipM (g : Sm M (List S)) : Sm M (List D) := fun z => (g z).bind fun ss z1 => match ss with
  | [.d (.lst xs), .d (.lst ys)] => .ok (zipD xs ys) z1
  | _ => .bad
theorem di_zip {elts : List Expr} {kk : Nat} {tpos pp pos : Pos} {e e2 : Expr} {g : Sm M (List S)} (p : Pl K X N mg) (hm : mg "zip" = none) (h : DA M xr K X W [e, e2] g) (hg : ∀ j, Gl (X j) "zip" := by intro _; rfl) (hs : ∀ j, starEach [e, e2] (X j).env = (false, eval e (X j).env) :: starEach [e2] (X j).env := by intro _; rfl) (hpl : ∀ j, (backTo pos (starEach [e2] (X j).env)).any (·.1) = false := by intro _; rfl) :
    DI M xr K X W (.Tuple elts kk tpos) (.Call (.Name "zip" pp) [e, e2] [] pos) (iZipM g) := by
  obtain ⟨t, pa, c⟩ := h
  refine ⟨RZ.iZipA K t, fun j => by rw [← p.k j]; exact RZ.pi_zipA (hg j) (by rw [p.g j]; exact hm) (pa j) (hs j) (hpl j), fun G σ H F z Q hK hx ok hh => ?_⟩
  refine c G σ H F z _ hK hx ok (hit_bind hh fun ss z1 vs H1 F1 _ sm ok1 ea h1 => ?_)
  subst hK
  unfold RelA at ea
  split at h1
  · cases ea with
    | cons a0 b0 =>
      cases b0 with
      | cons b1 c0 =>
        cases c0
        rename_i xs ys eg va vb
        have a' : Da G.K F1 va (.lst xs) := a0
        have b' : Da G.K F1 vb (.lst ys) := b1
        clear a0 b1
        cases a' with
        | lst q r =>
          cases b' with
          | lst q2 r2 =>
            rename_i a vs b ws
            refine ⟨a, b, vs, ws, rfl, .inl ⟨SqL.of (ok1.sub.lst q), SqL.of (ok1.sub.lst q2), h1 _ H1 F1 (Same.refl _) ok1 ?_⟩⟩
            have wk := (walk_zip (K := G.K) (a := a) (b := b) (xs := vs) (ys := ws) rfl).mono (G' := fun H => SameX F1 H) (Y' := YD G.K F1 (zipD xs ys)) (fun H s => ⟨SqL.of (s.lst q), SqL.of (s.lst q2)⟩) (fun i H x H' hi _ ⟨T, x1, y1, e1, e2, e3, e4, e5⟩ => yd_zip r r2 e4 e5 e1 e2 e3)
            rw [r.length, r2.length, ← zipD_len] at wk
            exact wk
  · exact h1.elim
/-- x[k] = v, x a slot's own list -/
def sLSet (i : Nat) (fv fk : Sm M S) : Sm M Out := fun z => (escf fv z).bind fun s z1 => if (ownAt z1 i).isSome = true then (opd fk z1).bind fun s' z2 => match s, z2.rho[i]?, rd z2 s' with
  | .d x, some (some (.l xs)), some (.int k) => (match ixN xs.length k with
    | some j => .ok .nx { z2 with rho := z2.rho.set i (some (.l (xs.set j x))) }
    | none => .bad)
  | _, _, _ => .bad
  else .bad
theorem ds_lset (n : Nat) {x : Str} {i value : Expr} {fv fk : Sm M S} {p1 pos pos' : Pos} (p : Pl K X N mg) (hv : DE M xr K X W value fv) (hi : DE M xr K X W i fk) (hN : ∀ j, (X j).N[n]? = some x := by intro _; rfl) (hvi : ∀ j, Vis (X j).env.scope x := by first | exact fun _ => Or.inl rfl | exact fun _ => Or.inr (Or.inl rfl) | exact fun _ => Or.inr (Or.inr rfl)) (hd : (x == ("__debug__" : Str)) = false := by decide)
    (hcd : (x == ("__classdict__" : Str)) = false := by decide)
    (hs : ∀ q, swapsWithSole [.Subscript (.Name x p1) i pos'] value pos.line (X q).env = pure false := by intro _; rfl) (hw : ∀ q, swappedStores [.Subscript (.Name x p1) i pos'] value (X q).env = pure none := by intro _; rfl)
    (h1 : ∀ q, (assignEach [.Subscript (.Name x p1) i pos'] (X q).env).map (·.2) = [assign (.Subscript (.Name x p1) i pos') (X q).env] := by intro _; rfl)
    (hg : ∀ q t1 t2, PE (X q) (.Name x p1) t1 → PE (X q) i t2 → PG (X q) (.Subscript (.Name x p1) i pos') (gSub t1 t2 rSetL) := by exact fun _ _ _ q1 q2 => pg_sub q1 q2 set_list) : DS M xr K X W (.Assign [.Subscript (.Name x p1) i pos'] value pos) (sLSet n fv fk) := by
  obtain ⟨t1, e1, c1⟩ := hv
  obtain ⟨t3, e3, c3⟩ := hi
  refine ⟨tAsg t1 (gSub (tVar n) t3 rSetL), fun q => ps_asg (e1 q) (hg q _ t3 (pe_var (hN q) (hvi q) hd hcd) (e3 q)) (hs q) (hw q) (h1 q), fun G σ H F z D hK hx ok hh => ?_⟩
  refine cmp_esc c1 G σ H F z _ hK hx ok (hits_bind hh fun s z1 v H1 F1 _ sm1 ok1 ev h1 => ?_)
  by_cases ho : (ownAt z1 n).isSome = true
  · rw [if_pos ho] at h1
    obtain ⟨w, hw⟩ : ∃ w, σ[n]? = some (some w) := by
      cases q : ownAt z1 n with
      | none => rw [q] at ho; cases ho
      | some xs =>
        obtain ⟨w, e, _⟩ := ok1.slot n _ (ownAt_some q)
        exact ⟨w, e⟩
    refine ⟨w, hw, ?_⟩
    refine cmp_opd c3 G σ H1 F1 z1 _ hK hx ok1 (hits_bind h1 fun s' z2 v' H2 F2 _ sm2 ok2 ev2 h2 => ?_)
    cases s with
    | d x =>
      cases es : z2.rho[n]? with
      | none => simp only [es] at h2; exact h2.elim
      | some o =>
        match o, es, h2 with
        | some (.l xs), es, h2 =>
          cases er : rd z2 s' with
          | none => simp only [es, er] at h2; exact h2.elim
          | some d =>
            cases d with
            | int k =>
              simp only [es, er] at h2
              cases ej : ixN xs.length k with
              | none => rw [ej] at h2; exact h2.elim
              | some j =>
                rw [ej] at h2
                obtain ⟨w', e, a, vs, rfl, q1, q2, q3, q4, q5⟩ := ok2.slot n _ es
                rw [hw] at e
                cases e
                have hv := (EO.rv ok2 ev2 er).int
                subst hv
                have dv : Da G.K F2 v x := Da.mono sm2 ev
                exact ⟨a, vs, k, j, rfl, rfl, q1, by rw [q2.length]; exact ej, h2 σ _ F2 (Same.refl _) (ok2.setL es hw (DaAll.set dv j q2))⟩
            | _ => simp only [es, er] at h2; exact h2.elim
        | none, es, h2 => simp only [es] at h2; exact h2.elim
        | some (.d _), es, h2 => simp only [es] at h2; exact h2.elim
        | some (.v _), es, h2 => simp only [es] at h2; exact h2.elim
        | some (.m _), es, h2 => simp only [es] at h2; exact h2.elim
    | l _ => exact h2.elim
    | v _ => exact h2.elim
    | m _ => exact h2.elim
  · rw [if_neg ho] at h1; exact h1.elim
/-- [..] * k -/
def dRep : D → D → Option R := fun a b => match a, b with
  | .lst xs, .int k => if xs.length * k.toNat ≤ lim ∧ -(2 ^ 62) ≤ k ∧ k < 2 ^ 62 then some (.l (List.replicate k.toNat xs).flatten) else none
  | _, _ => none
theorem DaAll.rep {F : Hp} {vs : List V} {ds : List D} (h : DaAll K F vs ds) : ∀ n : Nat, DaAll K F (List.replicate n vs).flatten (List.replicate n ds).flatten
  | 0 => .nil
  | n + 1 => by
    rw [List.replicate_succ, List.replicate_succ, List.flatten_cons, List.flatten_cons]
    exact h.append (DaAll.rep h n)
theorem op2_rep : Op2 K rRep dRep := by
  intro F H x y a b Q s ha hb h
  unfold dRep at h
  split at h
  · rename_i xs k
    obtain ⟨l, vs, rfl, h1, h2⟩ := ha.lst s
    have hv := hb.int
    subst hv
    split at h
    · rename_i hc
      exact ⟨l, k, vs, rfl, rfl, h1, by omega, by omega, by rw [h2.length]; exact Nat.le_trans hc.1 (Nat.le_of_lt lim_line), fun p hp => h p _ hp (h2.rep _)⟩
    · exact h.elim
  · exact h.elim
theorem de_rep {a b : Expr} {f f' : Sm M S} {pos : Pos} (ha : DE M xr K X W a f) (hb : DE M xr K X W b f') : DE M xr K X W (.BinOp a .Mult b pos) (eBin dRep f f') := de_bin (fun j => op_rep) op2_rep ha hb
end
end G
/-! The law runs over an empty store. -/
namespace G
open PySem L2
section
variable {ι : Type} {M : MI} {xr : Str → Option Value} {K : PySem.W.Frag} {X : ι → Cx} {W : WX} {N : List Str} {mg : Str → Option Value}
/-- x or y, as a value -/
def eOrV (f g : Sm M S) : Sm M S := fun z => (escf f z).bind fun s z1 => match s with
  | .d x => (match dTru x with
    | some true => .ok (.d x) z1
    | some false => g z1
    | none => .bad)
  | _ => .bad
theorem de_orV {a b : Expr} {rest : List Expr} {f g : Sm M S} {pos : Pos} (p : Pl K X N mg) (ha : DE M xr K X W a f) (hb : DE M xr K X W (.BoolOp .Or (b :: rest) pos) g) : DE M xr K X W (.BoolOp .Or (a :: b :: rest) pos) (eOrV f g) := by
  obtain ⟨t1, p1, c1⟩ := ha
  obtain ⟨t2, p2, c2⟩ := hb
  refine ⟨tOrT K t1 t2, fun j => by rw [← p.k j]; exact pe_orT (p1 j) (p2 j), fun G σ H F z Q hK hx ok hh => ?_⟩
  refine cmp_esc c1 G σ H F z _ hK hx ok (hit_bind hh fun s z1 v H1 F1 _ sm1 ok1 ev h1 => ?_)
  cases s with
  | d x =>
    cases ek : dTru x with
    | none => simp only [ek] at h1; exact h1.elim
    | some k =>
      refine ⟨k, by rw [← hK]; exact tru_rv ok1.sub (.inl ev) ek, ?_⟩
      cases k with
      | true => simp only [ek] at h1; exact h1 v H1 F1 (Same.refl _) ok1 ev
      | false => simp only [ek] at h1; exact c2 G σ H1 F1 z1 Q hK hx ok1 h1
  | l _ => exact h1.elim
  | v _ => exact h1.elim
  | m _ => exact h1.elim
end
def zX (n : Nat) (ns : List Int) : Z (List MO) := { rho := some (.d (.scr ns)) :: List.replicate n none, m := [] }
theorem law_runX {K : PySem.W.Frag} {xr : Str → Option Value} {E : XK} {N : List Str} {t : TS} {f : Sm MX Out} {vs : List V} {H : Hp} {Q : VK} (hN : 1 ≤ N.length)
    (hf : ∀ ns : List Int, ns.length ≤ 63 → (∀ z ∈ ns, Builtin.Int.intBits z ≤ 1048576) → ∃ z', f (zX (N.length - 1) ns) = .ok (.rt (.d (.bl true))) z')
    (c : SR MX K xr (fun cls d _ H => E cls d H) t f) (h : spLaw K vs H Q E) : t { nx := fun _ H' => Q .non H', rt := Q } (L2.start N vs) H := by
  obtain ⟨a, ns, rfl, hs, hl, hbits, hq⟩ := h
  obtain ⟨z', e1⟩ := hf ns hl hbits
  have st : L2.start N [.ref a] = some (.ref a) :: List.replicate (N.length - 1) none := rfl
  rw [st]
  let F : Hp := fun b => if b = a then noT H a else none
  have Fo : ∀ b o, F b = some o → b = a ∧ noT H a = some o := fun b o q => by
    have q' : (if b = a then noT H a else none) = some o := q
    by_cases e : b = a
    · rw [if_pos e] at q'; exact ⟨e, q'⟩
    · rw [if_neg e] at q'; cases q'
  have noTag : ∀ b ps, F b ≠ some (.tbl ps) := fun b ps q => (noT_of (Fo b _ q).2).2 ps rfl
  have sF : SameX F H := fun b o q _ => by
    obtain ⟨rfl, q2⟩ := Fo b o q
    exact (noT_of q2).1
  have hsF : SqL K F a (ns.map V.int) := by
    have Fa : ∀ o, H a = some o → (∀ ps, o ≠ .tbl ps) → F a = some o := fun o q n => by
      show (if a = a then noT H a else none) = some o
      rw [if_pos rfl]
      exact noT_at q n
    rcases hs with (q | ⟨o, q⟩) | q
    · exact .inl (.inl (Fa _ q lstNT))
    · exact .inl (.inr ⟨o, Fa _ q (fun _ e => by cases e)⟩)
    · exact .inr q
  have key : ∀ (k : Nat) (s : S), (zX (N.length - 1) ns).rho[k]? = some (some s) → k = 0 ∧ s = .d (.scr ns) := fun k s e => by
    have e' : (some (S.d (.scr ns)) :: List.replicate (N.length - 1) none)[k]? = some (some s) := e
    match k, e' with
    | 0, e' => cases e'; exact ⟨rfl, rfl⟩
    | k + 1, e' =>
      rw [List.getElem?_cons_succ, List.getElem?_replicate] at e'
      split at e' <;> cases e'
  refine c ⟨K, xr, [], fun _ => none, F⟩ _ H F (zX (N.length - 1) ns) _ rfl rfl ⟨sF, by simp [zX], fun k s e => ?_, fun k j xs ys v q1 _ _ _ => ?_, ⟨rfl, fun n o e => ?_, fun b ps e => (noTag b ps e).elim, fun b b' n e => (noTag b _ e).elim⟩, (fun b hb => by cases hb), (fun b hb => by cases hb), (fun b hb => by cases hb), (fun b o q => by cases q), fun b ps e => (noTag b ps e).elim⟩ ?_
  · obtain ⟨rfl, rfl⟩ := key k s e
    exact ⟨_, rfl, Da.scr hsF⟩
  · obtain ⟨_, q⟩ := key k _ q1
    cases q
  · have e' : ([] : List MO)[n]? = some o := e
    simp at e'
  · rw [e1]
    intro v H2 F2 s2 r
    have hv : v = .bl true := by
      have := r.val
      cases (show Da K F2 v (.bl true) from this)
      rfl
    rw [hv]
    exact hq H2
end G
namespace G
open PySem L2
/-! ### texts of data: they are texts, and not too long -/
theorem okS_litN (s : String) : okS (Str.ofString s) := by
  intro c hc
  have e : (Str.ofString s).cps.toList = s.toList.map Char.toNat := by
    show (cpsOfBytes 0 0 s.toByteArray.data.toList).toArray.toList = _
    rw [List.toList_toArray, cpsOfBytes_string]
  rw [e] at hc
  obtain ⟨d, _, rfl⟩ := List.mem_map.mp hc
  have h := d.valid
  have e2 : d.toNat = d.val.toNat := rfl
  rw [e2]
  rcases h with h | ⟨_, h⟩
  · have : d.val.toNat < 0xd800 := h
    omega
  · exact h
theorem okS_toN {x : Str} (h : okS x) : PyData.strOk x = true := by
  unfold PyData.strOk
  rw [Array.all_eq_true_iff_forall_mem]
  intro c hc
  have := h c (by simpa using hc)
  simpa using this
theorem charN (d : Char) : d.toNat < 0x110000 := by
  have h := d.valid
  have e2 : d.toNat = d.val.toNat := rfl
  rw [e2]
  rcases h with h | ⟨_, h⟩
  · have : d.val.toNat < 0xd800 := h
    omega
  · exact h
theorem hexN (w c : Nat) : ∀ x ∈ List.replicate (w - ((Nat.toDigits 16 c).map Char.toNat).length) 48 ++ (Nat.toDigits 16 c).map Char.toNat, x < 0x110000 := by
  intro x hx
  rcases List.mem_append.mp hx with h | h
  · rw [List.mem_replicate] at h; omega
  · obtain ⟨d, _, rfl⟩ := List.mem_map.mp h
    exact charN d
theorem reprChar_ok (q c : Nat) (hc : c < 0x110000) : ∀ x ∈ Builtin.Str.reprChar q c, x < 0x110000 := by
  intro x hx
  unfold Builtin.Str.reprChar at hx
  simp only [] at hx
  have two : ∀ {a b : Nat}, a < 0x110000 → b < 0x110000 → x ∈ [a, b] → x < 0x110000 := fun ha hb h => by
    rcases List.mem_cons.mp h with rfl | h
    · exact ha
    · rcases List.mem_cons.mp h with rfl | h
      · exact hb
      · cases h
  split at hx
  · exact two (by omega) hc hx
  split at hx
  · exact two (by omega) (by omega) hx
  split at hx
  · exact two (by omega) (by omega) hx
  split at hx
  · exact two (by omega) (by omega) hx
  split at hx
  · rcases List.mem_singleton.mp hx with rfl; exact hc
  split at hx
  · rcases List.mem_append.mp hx with h | h
    · exact two (by omega) (by omega) h
    · exact hexN _ _ x h
  split at hx
  · rcases List.mem_append.mp hx with h | h
    · exact two (by omega) (by omega) h
    · exact hexN _ _ x h
  · rcases List.mem_append.mp hx with h | h
    · exact two (by omega) (by omega) h
    · exact hexN _ _ x h
theorem fold_ok (q : Nat) : ∀ (l : List Nat) (acc : Array Nat), (∀ c ∈ l, c < 0x110000) → (∀ c ∈ acc.toList, c < 0x110000) → ∀ c ∈ (l.foldl (fun out c => out ++ (Builtin.Str.reprChar q c).toArray) acc).toList, c < 0x110000
  | [], acc, _, h => by simpa using h
  | c :: r, acc, h1, h2 => by
    rw [List.foldl_cons]
    refine fold_ok q r _ (fun x hx => h1 x (List.mem_cons_of_mem _ hx)) fun x hx => ?_
    rw [Array.toList_append] at hx
    rcases List.mem_append.mp hx with h | h
    · exact h2 x h
    · exact reprChar_ok q c (h1 c List.mem_cons_self) x (by simpa using h)
theorem reprQuote_ok (x : Str) : reprQuote x < 0x110000 := by
  unfold reprQuote
  split <;> omega
theorem reprText_ok {x : Str} (h : okS x) : okS (reprText x) := by
  intro c hc
  unfold reprText at hc
  simp only [Array.toList_push] at hc
  rcases List.mem_append.mp hc with h1 | h1
  · rw [← Array.foldl_toList] at h1
    exact fold_ok _ x.cps.toList _ h (fun c hc => by rcases List.mem_singleton.mp hc with rfl; exact reprQuote_ok x) c h1
  · rcases List.mem_singleton.mp h1 with rfl
    exact reprQuote_ok x
theorem okS_joinN : ∀ ts : List Str, (∀ t ∈ ts, okS t) → okS (Str.join ", " ts)
  | [], _ => okS_litN ""
  | [x], h => h x List.mem_cons_self
  | x :: y :: r, h => by
    have ih := okS_joinN (y :: r) (fun t ht => h t (List.mem_cons_of_mem _ ht))
    show okS (x ++ Str.ofString ", " ++ Str.join ", " (y :: r))
    exact okS_app (okS_app (h x List.mem_cons_self) (okS_litN _)) ih
theorem okS_tupN (ts : List Str) (h : ∀ t ∈ ts, okS t) : okS (tupleText ts) := by
  unfold tupleText
  exact okS_app (okS_app (okS_litN _) (okS_joinN ts h)) (okS_litN _)
theorem okS_from : ∀ (ts : List Str) (k : Nat) (acc : Str), okS acc → (∀ t ∈ ts, okS t) → okS (textFrom k acc ts)
  | [], k, acc, h, _ => h
  | t :: r, k, acc, h, h2 => okS_from r (k + 1) _ (okS_app (okS_app h (okS_litN _)) (h2 t List.mem_cons_self)) (fun x hx => h2 x (List.mem_cons_of_mem _ hx))
theorem okS_lstN (ts : List Str) (h : ∀ t ∈ ts, okS t) : okS (listText ts) := by
  show okS (textFrom 0 "[" ts ++ "]")
  exact okS_app (okS_from ts 0 _ (okS_litN _) h) (okS_litN _)
mutual
theorem shown_ok : ∀ d : PyData, d.canLay0 = true → okS d.shown
  | .none, _ => by rw [PyData.shown]; exact okS_litN _
  | .bool b, _ => by rw [PyData.shown]; cases b <;> exact okS_litN _
  | .int i, _ => by rw [PyData.shown]; exact okS_litN _
  | .str x, h => by rw [PyData.shown]; exact reprText_ok (okS_of (by simpa [PyData.canLay0] using h))
  | .list xs, h => by rw [PyData.shown]; exact okS_lstN _ (shown_oks xs (by simpa [PyData.canLay0] using h))
  | .tuple xs, h => by rw [PyData.shown]; exact okS_tupN _ (shown_oks xs (by simpa [PyData.canLay0] using h))
  | .dict _, h => by simp [PyData.canLay0] at h
theorem shown_oks : ∀ ds : List PyData, PyData.canLayAll0 ds = true → ∀ t ∈ PyData.shownAll ds, okS t
  | [], _ => by intro t ht; rw [PyData.shownAll] at ht; cases ht
  | d :: r, h => by
    rw [PyData.canLayAll0, Bool.and_eq_true] at h
    intro t ht
    rw [PyData.shownAll] at ht
    rcases List.mem_cons.mp ht with rfl | ht
    · exact shown_ok d h.1
    · exact shown_oks r h.2 t ht
end
theorem shw_ok {d : D} (h : lay d = true) : okS (shw d) := shown_ok (toPy d) (by rw [canLay_toPy]; exact h)

mutual
def ib : D → Bool
  | .int i => decide (i.natAbs < 1000000000000)
  | .tup xs => ibs xs
  | .lst xs => ibs xs
  | .scr ns => ns.all fun i => decide (i.natAbs < 1000000000000)
  | _ => true
def ibs : List D → Bool
  | [] => true
  | x :: r => ib x && ibs r
end
def wtN (d : D) : Nat := (toPy d).weight
theorem int_ib {i : Int} (h : i.natAbs < 1000000000000) : i.natAbs.log2 < 1920 ∧ (PyData.shown (.int i)).length ≤ 13 := by
  have b := PyData.shown_int_le (i := i) (by have : (10 : Nat) ^ 12 = 1000000000000 := by decide
                                             omega)
  refine ⟨?_, b⟩
  rcases Nat.eq_zero_or_pos i.natAbs with e | e
  · rw [e]; decide
  · have : i.natAbs.log2 < 40 := (Nat.log2_lt (by omega)).mpr (by show i.natAbs < 1099511627776; omega)
    omega
theorem scr_ib : ∀ ns : List Int, (ns.all fun i => decide (i.natAbs < 1000000000000)) = true → PyData.showableAll (ns.map fun i => .int i) = true ∧ PyData.intsShortAll 13 (ns.map fun i => .int i) = true
  | [], _ => ⟨rfl, rfl⟩
  | i :: r, h => by
    rw [List.all_cons, Bool.and_eq_true] at h
    have a := scr_ib r h.2
    have b := int_ib (of_decide_eq_true h.1)
    rw [List.map_cons, PyData.showableAll, PyData.intsShortAll, a.1, a.2, PyData.showable, PyData.intsShort, decide_eq_true b.1, decide_eq_true b.2]
    exact ⟨rfl, rfl⟩
mutual
theorem ib_sh : ∀ d : D, ib d = true → (toPy d).showable = true ∧ (toPy d).intsShort 13 = true
  | .non, _ => by simp [toPy, PyData.showable, PyData.intsShort]
  | .bl b, _ => by simp [toPy, PyData.showable, PyData.intsShort]
  | .int i, h => by
    have b := int_ib (of_decide_eq_true (by rw [ib] at h; exact h))
    rw [toPy, PyData.showable, PyData.intsShort, decide_eq_true b.1, decide_eq_true b.2]
    exact ⟨rfl, rfl⟩
  | .str x, _ => by simp [toPy, PyData.showable, PyData.intsShort]
  | .tup xs, h => by rw [ib] at h; have := ibs_sh xs h; rw [toPy, PyData.showable, PyData.intsShort]; exact this
  | .lst xs, h => by rw [ib] at h; have := ibs_sh xs h; rw [toPy, PyData.showable, PyData.intsShort]; exact this
  | .scr ns, h => by rw [ib] at h; have := scr_ib ns h; rw [toPy, PyData.showable, PyData.intsShort]; exact this
  | .emp, _ => by simp [toPy, PyData.showable, PyData.intsShort]
  | .exc _ _, _ => by simp [toPy, PyData.showable, PyData.intsShort]
  | .o _, _ => by simp [toPy, PyData.showable, PyData.intsShort]
theorem ibs_sh : ∀ ds : List D, ibs ds = true → PyData.showableAll (toPys ds) = true ∧ PyData.intsShortAll 13 (toPys ds) = true
  | [], _ => by rw [toPys]; exact ⟨rfl, rfl⟩
  | d :: r, h => by
    rw [ibs, Bool.and_eq_true] at h
    have a := ib_sh d h.1
    have b := ibs_sh r h.2
    rw [toPys, PyData.showableAll, PyData.intsShortAll, a.1, a.2, b.1, b.2]
    exact ⟨rfl, rfl⟩
end
theorem showOk_of {d : D} (h1 : lay d = true) (h2 : ib d = true) (h3 : dep d ≤ 290) (h4 : wtN d ≤ 900000) : showOk d = true := by
  have s := ib_sh d h2
  have ln := PyData.shown_le 13 (by decide) (toPy d) (PyData.leavesShort_of_canLay0 13 _ (by rw [canLay_toPy]; exact h1) s.2)
  have e : (toPy d).weight = wtN d := rfl
  rw [e] at ln
  have hl : (shw d).length ≤ 15000000 := by
    show (toPy d).shown.length ≤ 15000000
    omega
  unfold showOk
  rw [h1, s.1, decide_eq_true h3, decide_eq_true hl]
  rfl
theorem reprT_of {xs : List D} (h1 : lays xs = true) (h2 : ibs xs = true) (h3 : deps xs ≤ 289) (h4 : wtN (.tup xs) ≤ 900000) : fRepr [.tup xs] = some (.d (.str (shw (.tup xs)))) ∧ PyData.strOk (shw (.tup xs)) = true := by
  have l : lay (.tup xs) = true := by rw [lay]; exact h1
  have ok := showOk_of (d := .tup xs) l (by rw [ib]; exact h2) (by rw [dep]; omega) h4
  refine ⟨?_, okS_toN (shw_ok l)⟩
  unfold fRepr
  exact if_pos ok
def wtsN (ds : List D) : Nat := PyData.weightAll (toPys ds)
theorem wtN_tup (ds : List D) : wtN (.tup ds) = wtsN ds := by unfold wtN wtsN; rw [toPy, PyData.weight]
theorem wtsN_nil : wtsN [] = 0 := by unfold wtsN; rw [toPys, PyData.weightAll]
theorem wtsN_cons (d : D) (r : List D) : wtsN (d :: r) = wtN d + 1 + wtsN r := by unfold wtsN wtN; rw [toPys, PyData.weightAll]
theorem wtN_str (s : Str) : wtN (.str s) = s.cps.size := by unfold wtN; rw [toPy, PyData.weight]
theorem wtN_non : wtN .non ≤ 1 := by unfold wtN; rw [toPy, PyData.weight]; omega
end G
namespace G
open PySem L2
/-! ### comprehensions with any targets -/
theorem lc_mapK {M : MI} {kk : D → Z M.T → Option (Z M.T)} {e : Sm M S} {vs : List Nat} {α : Type} (en : α → D) {g : α → D} {z : Z M.T} : ∀ (ts : List α) (acc : List D), acc.length + ts.length ≤ lim →
    (∀ t ∈ ts, ∃ z1 z2, kk (en t) z = some z1 ∧ escf e z1 = .ok (.d (g t)) z2 ∧ wipeZ z2 vs = z) → lcL kk (fun z => .ok true z) e vs (ts.map en) acc z = .ok (acc ++ ts.map g) z
  | [], acc, _, _ => by simp [lcL]
  | d :: r, acc, hl, h => by
    obtain ⟨z1, z2, h0, h1, h2⟩ := h d List.mem_cons_self
    rw [List.length_cons] at hl
    rw [List.map_cons]
    unfold lcL
    simp only [h0, nox, Rs.bind_ok, if_true, h1]
    rw [if_pos (by omega), h2, lc_mapK en r (acc ++ [g d]) (by rw [List.length_append, List.length_singleton]; omega) (fun d hd => h d (List.mem_cons_of_mem _ hd))]
    simp
theorem elc_mapK {M : MI} {its : Sm M (List D)} {kk : D → Z M.T → Option (Z M.T)} {e : Sm M S} {vs : List Nat} {α : Type} (en : α → D) {g : α → D} {ts : List α} {z z0 : Z M.T} (h0 : its z0 = .ok (ts.map en) z) (hn : noOwn z.rho vs = true) (hw : wipeZ z vs = z) (hr : restR z.rho z.rho vs = z.rho) (hl : ts.length ≤ lim)
    (h : ∀ t ∈ ts, ∃ z1 z2, kk (en t) z = some z1 ∧ escf e z1 = .ok (.d (g t)) z2 ∧ wipeZ z2 vs = z) : eLc its kk (fun z => .ok true z) e vs z0 = .ok (.l (ts.map g)) z := by
  unfold eLc
  rw [h0, Rs.bind_ok, if_pos hn, hw, lc_mapK en ts [] (by rw [List.length_nil]; omega) h, Rs.bind_ok, hr]
  rfl
end G
namespace G
open PySem L2 PySem.Spec PyProof.Rows
/-! ### attributes -/
def putFD (f : Str) (d : D) : List (Str × D) → List (Str × D)
  | [] => [(f, d)]
  | (g, x) :: r => if g = f then (g, d) :: r else (g, x) :: putFD f d r
theorem DaF.put {K : PySem.W.Frag} {F : Hp} (f : Str) {v : V} {d : D} (hv : Da K F v d) : ∀ {a b}, DaF K F a b → DaF K F (putF f v a) (putFD f d b)
  | _, _, .nil => .cons hv .nil
  | _, _, .cons (k := k) q r => by
    unfold putF putFD
    by_cases e : k = f
    · rw [if_pos e, if_pos e]; exact .cons hv r
    · rw [if_neg e, if_neg e]; exact .cons q (DaF.put f hv r)
theorem DaF.length {K : PySem.W.Frag} {F : Hp} : ∀ {a b}, DaF K F a b → a.length = b.length
  | _, _, .nil => rfl
  | _, _, .cons _ r => congrArg (· + 1) (DaF.length r)
theorem DaF.look {K : PySem.W.Frag} {F : Hp} (f : Str) : ∀ {a b}, DaF K F a b → (b.lookup f = none ∧ a.lookup f = none) ∨ ∃ v d, b.lookup f = some d ∧ a.lookup f = some v ∧ Da K F v d
  | _, _, .nil => .inl ⟨rfl, rfl⟩
  | _, _, .cons (k := k) q r => by
    rw [List.lookup_cons, List.lookup_cons]
    cases (f == k) with
    | true => exact .inr ⟨_, _, rfl, rfl, q⟩
    | false => exact DaF.look f r
/-- what of the text a class must have -/
structure ClF (K : PySem.W.Frag) (c : Str) (C : Addr) : Prop where
  at_ : xrK K c = some (.ref C)
  cls : Cls K C
def insAt (z : Z (List MO)) (s : S) : Option (Nat × Str × List (Str × D)) := match rd z s with
  | some (.o n) => (match z.m[n]? with
    | some (.ins c fs) => some (n, c, fs)
    | _ => none)
  | _ => none
theorem insAt_rv {G : Gx} {σ : L2.St} {H F : Hp} {z : Z (List MO)} (ok : Ok MX G σ H F z) {v : V} {s : S} {n : Nat} {c : Str} {fs : List (Str × D)} (e : EO G σ F v s) (h : insAt z s = some (n, c, fs)) : ∃ a C dx vs, v = .ref a ∧ F a = some (tag n) ∧ z.m[n]? = some (.ins c fs) ∧ xrK G.K c = some (.ref C) ∧ H a = some (.ins C dx vs) ∧ DaF G.K F vs fs := by
  unfold insAt at h
  split at h
  · rename_i k er
    split at h
    · rename_i c' qs em
      cases h
      have r := (EO.rv ok e er).da (fun _ q => by cases q)
      obtain ⟨a, rfl, h1, C, dx, vs, h0, h2, h3⟩ := ok.objAt r em
      exact ⟨a, C, dx, vs, rfl, h1, em, h0, h2, h3⟩
    · cases h
  · cases h
section
variable {ι : Type} {xr : Str → Option Value} {K : PySem.W.Frag} {X : ι → Cx} {W : WX} {N : List Str} {mg : Str → Option Value}
/-- e.x -/
def eFld (cs : List Str) (x : Str) (f : Sm MX S) : Sm MX S := fun z => (opd f z).bind fun s z1 => match insAt z1 s with
  | some (_, c, fs) => if c ∈ cs then (match fs.lookup x with
    | some d => .ok (.d d) z1
    | none => .bad) else .bad
  | none => .bad
theorem de_fld {cs : List Str} {x : Str} {e : Expr} {f : Sm MX S} {pos : Pos} (p : Pl K X N mg) (hc : ∀ c ∈ cs, ∃ C, ClF K c C ∧ NoAttr K C x) (he : DE MX xr K X W e f) (hb : ∀ j, attributeBase e x (X j).env (eval e (X j).env) = eval e (X j).env := by intro _; rfl) : DE MX xr K X W (.Attribute e x pos) (eFld cs x f) := by
  obtain ⟨t, pt, ct⟩ := he
  refine ⟨tFld K t x, fun j => by have := pe_fld (f := x) (pos := pos) (pt j) (hb j); rw [p.k j] at this; exact this, fun G σ H F z Q hK hx ok hh => ?_⟩
  refine cmp_opd ct G σ H F z _ hK hx ok (hit_bind hh fun s z1 v H1 F1 _ sm1 ok1 ev h1 => ?_)
  cases e1 : insAt z1 s with
  | none => rw [e1] at h1; exact h1.elim
  | some q =>
    obtain ⟨n, c, fs⟩ := q
    simp only [e1] at h1
    by_cases hm : c ∈ cs
    · rw [if_pos hm] at h1
      obtain ⟨a, C, dx, vs, rfl, ha, em, hC, hH, hk⟩ := insAt_rv ok1 ev e1
      obtain ⟨C', hC', hN⟩ := hc c hm
      rw [hK] at hC hk
      have e2 := hC'.at_
      rw [hC] at e2
      cases e2
      rcases hk.look x with ⟨e3, e4⟩ | ⟨v, d, e3, e4, e5⟩
      · rw [e3] at h1; exact h1.elim
      · rw [e3] at h1
        exact ⟨a, C, dx, vs, v, rfl, hH, hC'.cls, hN, e4, h1 v H1 F1 (Same.refl _) ok1 (show Da G.K F1 v d by rw [hK]; exact e5)⟩
    · rw [if_neg hm] at h1; exact h1.elim
/-- e.x = v -/
def sFldM (cs : List Str) (x : Str) (fv fo : Sm MX S) : Sm MX Out := fun z => (escf fv z).bind fun s z1 => (opd fo z1).bind fun s' z2 => match s, insAt z2 s' with
  | .d d, some (n, c, fs) => if c ∈ cs ∧ fs.length < 999 then .ok .nx { z2 with m := z2.m.set n (.ins c (putFD x d fs)) } else .bad
  | _, _ => .bad
theorem ds_fld {cs : List Str} {x : Str} {o value : Expr} {fv fo : Sm MX S} {pos pos' : Pos} (p : Pl K X N mg) (hc : ∀ c ∈ cs, ∃ C, ClF K c C ∧ NoAttr K C x) (hv : DE MX xr K X W value fv) (ho : DE MX xr K X W o fo) (hs : ∀ j, swapsWith value (some (.Attribute o x pos')) pos.line (X j).env = pure false := by intro _; rfl) : DS MX xr K X W (.Assign [.Attribute o x pos'] value pos) (sFldM cs x fv fo) := by
  obtain ⟨t1, p1, c1⟩ := hv
  obtain ⟨t2, p2, c2⟩ := ho
  refine ⟨sFld K t2 t1 x, fun j => by have := ps_fld (f := x) (pos := pos) (pos' := pos') (p2 j) (p1 j) (hs j); rw [p.k j] at this; exact this, fun G σ H F z D hK hx ok hh => ?_⟩
  refine cmp_esc c1 G σ H F z _ hK hx ok (hits_bind hh fun s z1 v H1 F1 _ sm1 ok1 ev h1 => ?_)
  refine cmp_opd c2 G σ H1 F1 z1 _ hK hx ok1 (hits_bind h1 fun s' z2 v' H2 F2 _ sm2 ok2 ev2 h2 => ?_)
  cases s with
  | d d =>
    cases e1 : insAt z2 s' with
    | none => simp only [e1] at h2; exact h2.elim
    | some q =>
      obtain ⟨n, c, fs⟩ := q
      simp only [e1] at h2
      by_cases hm : c ∈ cs ∧ fs.length < 999
      · rw [if_pos hm] at h2
        obtain ⟨a, C, dx, vs, rfl, ha, em, hC, hH, hk⟩ := insAt_rv ok2 ev2 e1
        obtain ⟨C', hC', hN⟩ := hc c hm.1
        have e2 := hC'.at_
        rw [← hK, hC] at e2
        cases e2
        have l := hk.length
        have dv : Da G.K F2 v d := Da.mono sm2 ev
        refine ⟨a, C, dx, vs, rfl, hH, hC'.cls, hN, by omega, ?_⟩
        exact h2 σ (upd H2 a (.ins C dx (putF x v vs))) F2 (Same.refl _) (ok2.putO ha ⟨C, dx, _, hC, upd_same, hk.put x dv⟩)
      · rw [if_neg hm] at h2; exact h2.elim
  | l _ => exact h2.elim
  | v _ => exact h2.elim
  | m _ => exact h2.elim
end
end G
namespace G
open PySem L2 PySem.Spec PyProof.Rows
/-! ### methods -/
/-- the receiver, then the arguments -/
def tArgM (C : Addr) (m : Str) (ta : TE) (t : TA) : TA := fun σ H Q => ta σ H fun x H1 => ∃ a dx fs, x = .ref a ∧ H1 a = some (.ins C dx fs) ∧ fs.lookup m = none ∧ t σ H1 fun vs H2 => Q (x :: vs) H2
section
variable {X : Cx} {CX : CXT} {n : Nat} {f C : Addr} {fd : FuncData} {ps : List Str} {sp : Sp} {E : L2.St → XK} {x m : Str} {p pos apos : Pos} {e o : Expr} {es : List Expr} {ta : TE} {t : TA}
theorem pe_methG {pl : Sem Bool} (he : PE X o ta) (c : Cls X.K C) (hm : Meth X.K C m f) (F : FnG X.prog X.w X.K X.mg X.base CX n f fd ps sp) (hr : Room n X.A) (hgu : X.A.guards = some []) (hb : Binds X.K fd ps []) (hx : ∀ σ, PassesAt CX X σ (E σ)) (ha : PA X (e :: es) t)
    (hst : starEach (e :: es) X.env = (false, eval e X.env) :: starEach es X.env) (hpl : (backTo pos (starEach es X.env)).any (·.1) = false)
    (ht : eval (.Call (.Attribute o m apos) (e :: es) [] pos) X.env = (do
      let ov ← eval o X.env
      standAt apos.atName
      let (f, first) ← holding [ov] (getMethod ov m pl)
      callWith pos f first (backTo pos (starEach (e :: es) X.env)) (backToKw pos (keywordEach [] X.env)))) :
    PE X (.Call (.Attribute o m apos) (e :: es) [] pos) (tCallS sp E (tArgM C m ta t)) := by
  refine ⟨fun pins s σ H Q I h => ?_⟩
  refine PySem.W.methodCall_KW (pl := pl) (thn (he.run pins s σ H _ I h) fun u s1 ⟨x, H1, I1, rx, a, dx, fs, ex, ea, l, q⟩ => ?_) ht
  subst ex
  obtain rfl : u = Value.ref a := rx
  refine getmeth_ok I1 ea c hm l ?_
  refine PySem.W.callWith_K (first := [.ref a]) (h₀ := X.base) I.ok.mod.kin hm.kp (thn (ha.run pos pins s1 σ H1 _ I1 q) fun us s2 ⟨vs, H2, I2, r, q2⟩ => ⟨I2.kIn, ?_⟩) hst hpl
  exact run_fnG (us := .ref a :: us) (ws := .ref a :: vs) (dvs := []) (ds := []) (E := E) F hr hgu hb .nil (hx σ) I2 (.cons rfl r) (by rw [List.append_nil]; exact q2)
theorem pe_meth0G {pl : Sem Bool} (he : PE X o ta) (c : Cls X.K C) (hm : Meth X.K C m f) (F : FnG X.prog X.w X.K X.mg X.base CX n f fd ps sp) (hr : Room n X.A) (hgu : X.A.guards = some []) (hb : Binds X.K fd ps []) (hx : ∀ σ, PassesAt CX X σ (E σ))
    (ht : eval (.Call (.Attribute o m apos) [] [] pos) X.env = (do
      let ov ← eval o X.env
      standAt apos.atName
      let (f, first) ← holding [ov] (getMethod ov m pl)
      callWith pos f first (backTo pos (starEach [] X.env)) (backToKw pos (keywordEach [] X.env)))) :
    PE X (.Call (.Attribute o m apos) [] [] pos) (tCallS sp E (tArgM C m ta tNil)) := by
  refine ⟨fun pins s σ H Q I h => ?_⟩
  refine PySem.W.methodCall_KW (pl := pl) (thn (he.run pins s σ H _ I h) fun u s1 ⟨x, H1, I1, rx, a, dx, fs, ex, ea, l, q⟩ => ?_) ht
  subst ex
  obtain rfl : u = Value.ref a := rx
  refine getmeth_ok I1 ea c hm l ?_
  exact PySem.W.callWith_K0 (first := [.ref a]) I1.kIn hm.kp (run_fnG (us := [.ref a]) (ws := [.ref a]) (dvs := []) (ds := []) (E := E) F hr hgu hb .nil (hx σ) I1 (.cons rfl .nil) q)
/-- a new instance: x and its dict dx -/
def tNewI (C : Addr) (sp : Sp) (E : L2.St → XK) (t : TA) : TE := fun σ H Q => t σ H fun vs H1 => ∀ x dx, H1 x = none → H1 dx = none → dx ≠ x → sp (.ref x :: vs) (upd (upd H1 dx (.own x)) x (.ins C dx [])) (fun v H2 => v = .non ∧ Q (.ref x) H2) (E σ)
theorem run_makeG {pins : List (Addr × Obj)} {σ : L2.St} {H : Hp} {s : Shared} {Q : VK} {us : List Value} {vs : List V} (M : Mk X.K C f) (F : FnG X.prog X.w X.K X.mg X.base CX n f fd ps sp) (hr : Room (n + 1) X.A) (hgu : X.A.guards = some []) (hb : Binds X.K fd ps [])
    (hx : PassesAt CX X σ (E σ)) (I : Inv X pins σ H s) (r : Vals vs us)
    (h : ∀ x dx, H x = none → H dx = none → dx ≠ x → sp (.ref x :: vs) (upd (upd H dx (.own x)) x (.ins C dx [])) (fun v H2 => v = .non ∧ Q (.ref x) H2) (E σ)) :
    wpAny (model X.prog X.w) X.A (call (.ref C) us) (EP X pins σ Q) X.xe s := by
  have hq := h (s.heap.objs.size + 1) s.heap.objs.size (I.hok.fresh (Nat.le_succ _)) (I.hok.fresh (Nat.le_refl _)) (Nat.ne_of_lt (Nat.lt_succ_self _))
  have I2 := Inv.made (C := C) I
  have r2 : Vals (V.ref (s.heap.objs.size + 1) :: vs) (Value.ref (s.heap.objs.size + 1) :: us) := .cons rfl r
  have hl : (Value.ref (s.heap.objs.size + 1) :: us).length = ps.length := by
    have e := r2.length
    rw [F.len _ _ _ _ hq] at e
    exact e.symm
  have hb2 := hb { s with heap := (s.heap.push PySem.W.emptyDict).push (PySem.W.instObj C s.heap.objs.size) } (Value.ref (s.heap.objs.size + 1) :: us) I2.kIn (by rw [List.append_nil]; exact hl)
  rw [List.append_nil] at hb2
  refine wpAny_call (make_map (f := f) I.kIn M.makes M.init (beq_iff_eq.mp M.fn) (codeAny_mono (F.run _ X.stack _ _ ⟨Value.ref (s.heap.objs.size + 1) :: us, []⟩ (Value.ref (s.heap.objs.size + 1) :: us) _ _ (E σ) (hr.make C us []) hgu
    (I2.env0.make C us []) hb2 r2 hq) fun r s' hq' => ?_))
  cases r with
  | error e => exact hx pins _ _ e s' I2 hq'
  | ok fl =>
    cases fl with
    | ret u =>
      obtain ⟨v, H', I3, rv, ev, q3⟩ := I2.after hq'
      subst ev
      exact ⟨rv, ⟨V.ref (s.heap.objs.size + 1), H', I3, rfl, q3⟩⟩
    | next => exact False.elim hq'
    | brk => exact False.elim hq'
    | cont => exact False.elim hq'
theorem pe_makeG (M : Mk X.K C f) (F : FnG X.prog X.w X.K X.mg X.base CX n f fd ps sp) (hr : Room (n + 1) X.A) (hgu : X.A.guards = some []) (hg : Gl X x) (hm : X.mg x = some (.ref C)) (hb : Binds X.K fd ps []) (hx : ∀ σ, PassesAt CX X σ (E σ))
    (ha : PA X (e :: es) t) (hdb : (x == ("__debug__" : Str)) = false) (he : starEach (e :: es) X.env = (false, eval e X.env) :: starEach es X.env) (hpl : (backTo pos (starEach es X.env)).any (·.1) = false) :
    PE X (.Call (.Name x p) (e :: es) [] pos) (tNewI C sp E t) := by
  refine ⟨fun pins s σ H Q I h => ?_⟩
  refine wpAny_Call_Name_kw (ld_glob I hg hm ?_ hdb)
  refine PySem.W.callWith_K (h₀ := X.base) I.ok.mod.kin M.kp (thn (ha.run pos pins s σ H _ I h) fun us s1 ⟨vs, H1, I1, r, q⟩ => ⟨I1.kIn, ?_⟩) he hpl
  exact run_makeG (E := E) M F hr hgu hb (hx σ) I1 r q
theorem pe_make0G (M : Mk X.K C f) (F : FnG X.prog X.w X.K X.mg X.base CX n f fd ps sp) (hr : Room (n + 1) X.A) (hgu : X.A.guards = some []) (hg : Gl X x) (hm : X.mg x = some (.ref C)) (hb : Binds X.K fd ps []) (hx : ∀ σ, PassesAt CX X σ (E σ)) (hdb : (x == ("__debug__" : Str)) = false) :
    PE X (.Call (.Name x p) [] [] pos) (tNewI C sp E tNil) := by
  refine ⟨fun pins s σ H Q I h => ?_⟩
  refine wpAny_Call_Name_kw (ld_glob I hg hm ?_ hdb)
  exact PySem.W.callWith_K0 I.kIn M.kp (run_makeG (us := []) (E := E) M F hr hgu hb (hx σ) I .nil h)
end
section
variable {ι : Type} {P : Program} {w : World} {base : Heap} {n : Nat} {xr : Str → Option Value} {K : PySem.W.Frag} {X : ι → Cx} {W : WX} {N : List Str} {mg : Str → Option Value}
/-- a method of a class keeps the mirror c at level n -/
def MeAt (P : Program) (w : World) (K : PySem.W.Frag) (mg : Str → Option Value) (base : Heap) (xr : Str → Option Value) (n : Nat) (cl m : Str) (ps : List Str) (c : List S → List MO → Rs S (List MO)) : Prop :=
  ∃ C f fd, ClF K cl C ∧ Meth K C m f ∧ FnG P w K mg base (L2.CX P w) (n + 8) f fd ps (spM MX K xr ps.length c) ∧ Binds K fd ps []
def aMeth (cl m : Str) (f : Sm MX S) (g : Sm MX (List S)) : Sm MX (List S) := fun z => (opd f z).bind fun s z1 => match insAt z1 s with
  | some (k, c, fs) => if c = cl ∧ fs.lookup m = none then (g z1).bind fun ss z2 => .ok (.d (.o k) :: ss) z2 else .bad
  | none => .bad
theorem cmp_argM {cl m : Str} {C : Addr} {ta : TE} {t : TA} {f : Sm MX S} {g : Sm MX (List S)} (hC : ClF K cl C) (cf : Cmp MX K xr W ta RelE f) (cg : Cmp MX K xr W t RelA g) : Cmp MX K xr W (tArgM C m ta t) RelA (aMeth cl m f g) := by
  intro G σ H F z Q hK hx ok hh
  refine cmp_opd cf G σ H F z _ hK hx ok (hit_bind hh fun s z1 v H1 F1 _ sm1 ok1 ev h1 => ?_)
  cases e1 : insAt z1 s with
  | none => rw [e1] at h1; exact h1.elim
  | some q =>
    obtain ⟨k, c, fs⟩ := q
    simp only [e1] at h1
    by_cases hm : c = cl ∧ fs.lookup m = none
    · rw [if_pos hm] at h1
      obtain ⟨a, C', dx, vs, rfl, ha, em, hC', hH, hk⟩ := insAt_rv ok1 ev e1
      have e2 := hC.at_
      rw [← hm.1, ← hK, hC'] at e2
      cases e2
      have l : vs.lookup m = none := by
        rcases hk.look m with ⟨_, e4⟩ | ⟨_, _, e3, _, _⟩
        · exact e4
        · rw [hm.2] at e3; cases e3
      refine ⟨a, dx, vs, rfl, hH, l, ?_⟩
      refine cg G σ H1 F1 z1 _ hK hx ok1 (hit_bind h1 fun ss z2 us H2 F2 _ sm2 ok2 ea h2 => ?_)
      exact h2 (.ref a :: us) H2 F2 (Same.refl _) ok2 (.cons (show Da G.K F2 (.ref a) (.o k) from Da.o (sm2 _ _ ha)) ea)
    · rw [if_neg hm] at h1; exact h1.elim
theorem len_meth {cl m : Str} {f : Sm MX S} {g : Sm MX (List S)} {k : Nat} (hn : ∀ z ss z1, g z = .ok ss z1 → ss.length = k) : ∀ z ss z1, aMeth cl m f g z = .ok ss z1 → ss.length = k + 1 := by
  intro z ss z1 h
  unfold aMeth at h
  cases e1 : opd f z with
  | ex _ _ => rw [e1] at h; cases h
  | bad => rw [e1] at h; cases h
  | ok s z2 =>
    rw [e1, Rs.bind_ok] at h
    cases e2 : insAt z2 s with
    | none => rw [e2] at h; cases h
    | some q =>
      obtain ⟨i, c, fs⟩ := q
      simp only [e2] at h
      by_cases hm : c = cl ∧ fs.lookup m = none
      · rw [if_pos hm] at h
        cases e3 : g z2 with
        | ex _ _ => rw [e3] at h; cases h
        | bad => rw [e3] at h; cases h
        | ok ts z3 =>
          rw [e3, Rs.bind_ok] at h
          cases h
          rw [List.length_cons, hn _ _ _ e3]
      · rw [if_neg hm] at h; cases h
theorem de_meth {cl m : Str} {pl : Sem Bool} {ps : List Str} {o e : Expr} {es : List Expr} {f : Sm MX S} {g : Sm MX (List S)} {c : List S → List MO → Rs S (List MO)} {apos pos : Pos} {k : Nat} (p : Pc P w K mg base N W n X) (h : MeAt P w K mg base xr n cl m ps c) (ho : DE MX xr K X W o f) (ha : DA MX xr K X W (e :: es) g) (hn : ∀ z ss z1, g z = .ok ss z1 → ss.length = k) (hk : ps.length = k + 1 := by rfl)
    (he : ∀ j, starEach (e :: es) (X j).env = (false, eval e (X j).env) :: starEach es (X j).env := by intro _; rfl) (hpl : ∀ j, (backTo pos (starEach es (X j).env)).any (·.1) = false := by intro _; rfl)
    (ht : ∀ j, eval (.Call (.Attribute o m apos) (e :: es) [] pos) (X j).env = (do
      let ov ← eval o (X j).env
      standAt apos.atName
      let (f, first) ← holding [ov] (getMethod ov m pl)
      callWith pos f first (backTo pos (starEach (e :: es) (X j).env)) (backToKw pos (keywordEach [] (X j).env))) := by intro _; rfl) :
    DE MX xr K X W (.Call (.Attribute o m apos) (e :: es) [] pos) (eCall c (aMeth cl m f g)) := by
  obtain ⟨C, fa, fd, hC, hm, hF, hb⟩ := h
  obtain ⟨t1, p1, c1⟩ := ho
  obtain ⟨t2, p2, c2⟩ := ha
  refine ⟨_, fun j => pe_methG (CX := L2.CX P w) (E := WE W) (p1 j) (by rw [p.k j]; exact hC.cls) (by rw [p.k j]; exact hm) (by rw [p.pr j, p.pw j, p.k j, p.g j, p.pb j]; exact hF) (p.room j) (p.gd j) (by rw [p.k j]; exact hb) (p.pass j) (p2 j) (he j) (hpl j) (ht j), ?_⟩
  exact cmp_call (cmp_argM hC c1 c2) (by rw [hk]; exact len_meth hn)
theorem de_meth0 {cl m : Str} {pl : Sem Bool} {ps : List Str} {o : Expr} {f : Sm MX S} {c : List S → List MO → Rs S (List MO)} {apos pos : Pos} (p : Pc P w K mg base N W n X) (h : MeAt P w K mg base xr n cl m ps c) (ho : DE MX xr K X W o f) (hk : ps.length = 1 := by rfl)
    (ht : ∀ j, eval (.Call (.Attribute o m apos) [] [] pos) (X j).env = (do
      let ov ← eval o (X j).env
      standAt apos.atName
      let (f, first) ← holding [ov] (getMethod ov m pl)
      callWith pos f first (backTo pos (starEach [] (X j).env)) (backToKw pos (keywordEach [] (X j).env))) := by intro _; rfl) :
    DE MX xr K X W (.Call (.Attribute o m apos) [] [] pos) (eCall c (aMeth cl m f aNil)) := by
  obtain ⟨C, fa, fd, hC, hm, hF, hb⟩ := h
  obtain ⟨t1, p1, c1⟩ := ho
  refine ⟨_, fun j => pe_meth0G (CX := L2.CX P w) (E := WE W) (p1 j) (by rw [p.k j]; exact hC.cls) (by rw [p.k j]; exact hm) (by rw [p.pr j, p.pw j, p.k j, p.g j, p.pb j]; exact hF) (p.room j) (p.gd j) (by rw [p.k j]; exact hb) (p.pass j) (ht j), ?_⟩
  exact cmp_call (cmp_argM hC c1 (fun G σ H F z Q _ _ ok h => h [] H F (Same.refl _) ok .nil)) (by rw [hk]; exact len_meth (fun _ _ _ h => len_nil h))
theorem paired_imp {α β : Type} {R R' : α → β → Prop} (h : ∀ a b, R a b → R' a b) : ∀ {as : List α} {bs : List β}, Paired R as bs → Paired R' as bs
  | _, _, .nil => .nil
  | _, _, .cons r t => .cons (h _ _ r) (paired_imp h t)
/-! ### making -/
def MkAt (P : Program) (w : World) (K : PySem.W.Frag) (mg : Str → Option Value) (base : Heap) (xr : Str → Option Value) (n : Nat) (cl : Str) (ps : List Str) (c : List S → List MO → Rs S (List MO)) : Prop :=
  ∃ C f fd, ClF K cl C ∧ Mk K C f ∧ mg cl = some (.ref C) ∧ FnG P w K mg base (L2.CX P w) (n + 7) f fd ps (spM MX K xr ps.length c) ∧ Binds K fd ps []
def eMake (cl : Str) (c : List S → List MO → Rs S (List MO)) (g : Sm MX (List S)) : Sm MX S := fun z => (g z).bind fun ss z1 => if ss.all okArg = true then (match c (.d (.o z1.m.length) :: ss) (z1.m ++ [.ins cl []]) with
  | .ok (.d .non) t => .ok (.d (.o z1.m.length)) { z1 with m := t }
  | .ok _ _ => .bad
  | .ex x t => .ex x { z1 with m := t }
  | .bad => .bad) else .bad
theorem cmp_make {cl : Str} {C : Addr} {k : Nat} {t : TA} {g : Sm MX (List S)} {c : List S → List MO → Rs S (List MO)} (hC : ClF K cl C) (cg : Cmp MX K xr W t RelA g) (hn : ∀ z ss z1, g z = .ok ss z1 → ss.length + 1 = k) : Cmp MX K xr W (tNewI C (spM MX K xr k c) (WE W) t) RelE (eMake cl c g) := by
  intro G σ H F z Q hK hx ok hh
  refine cg G σ H F z _ hK hx ok (hit_bind hh fun ss z1 vs H1 F1 eg sm ok1 ea h1 => ?_)
  intro x dx nx nd ne
  by_cases hd : ss.all okArg = true
  · rw [if_pos hd] at h1
    have hv := paired_av ea hd
    have okd := ok1.new nd (.own x)
    have nx2 : upd H1 dx (.own x) x = none := by rw [upd_ne (Ne.symm ne)]; exact nx
    have ok2 := okd.alloc (p := x) nx2 (ho := .ins C dx []) (o := .ins cl []) ⟨C, dx, [], by rw [hK]; exact hC.at_, upd_same, .nil⟩
    have sF : Same F1 (upd F1 x (tag z1.m.length)) := same_upd (okd.freshF nx2)
    have av : Paired (AV G.K (upd F1 x (tag z1.m.length)) G.ms) (.ref x :: vs) (.d (.o z1.m.length) :: ss) := .cons (show Da G.K _ (.ref x) (.o z1.m.length) from Da.o upd_same) (paired_av (paired_imp (fun _ _ q => EO.mono sF q) ea) hd)
    refine ⟨by rw [List.length_cons, hv.length, hn z ss z1 eg], G.ms, upd F1 x (tag z1.m.length), .d (.o z1.m.length) :: ss, z1.m ++ [.ins cl []], ok2.sub, by rw [← hK]; exact ok2.mach, fun a ha => ⟨ok2.msF a ha, ok2.msH a ha⟩, fun a ps e => (ok2.tg a ps e).1, by rw [← hK]; exact av, ?_⟩
    subst hK hx
    cases e : c (.d (.o z1.m.length) :: ss) (z1.m ++ [.ins cl []]) with
    | bad => rw [e] at h1; exact h1
    | ex x' t' =>
      rw [e] at h1
      exact fun cls d H' F' s' r xo => h1 cls d H' F' (sF.trans s') (ok2.call s' r) xo
    | ok s t' =>
      rw [e] at h1
      intro v H' F' s' r rv
      cases s with
      | d y =>
        cases y with
        | non =>
          cases (show Da G.K F' v .non from rv)
          exact ⟨rfl, h1 (.ref x) H' F' (sF.trans s') (ok2.call s' r) (show Da G.K F' (.ref x) (.o z1.m.length) from Da.o (s' _ _ upd_same))⟩
        | _ => exact h1.elim
      | _ => exact h1.elim
  · rw [if_neg hd] at h1; exact h1.elim
theorem de_make {cl : Str} {ps : List Str} {e : Expr} {es : List Expr} {g : Sm MX (List S)} {c : List S → List MO → Rs S (List MO)} {pp pos : Pos} (p : Pc P w K mg base N W n X) (h : MkAt P w K mg base xr n cl ps c) (ha : DA MX xr K X W (e :: es) g) (hn : ∀ z ss z1, g z = .ok ss z1 → ss.length + 1 = ps.length) (hg : ∀ j, Gl (X j) cl := by intro _; rfl)
    (hdb : (cl == ("__debug__" : Str)) = false := by decide) (he : ∀ j, starEach (e :: es) (X j).env = (false, eval e (X j).env) :: starEach es (X j).env := by intro _; rfl) (hpl : ∀ j, (backTo pos (starEach es (X j).env)).any (·.1) = false := by intro _; rfl) :
    DE MX xr K X W (.Call (.Name cl pp) (e :: es) [] pos) (eMake cl c g) := by
  obtain ⟨C, fa, fd, hC, hm, hmg, hF, hb⟩ := h
  obtain ⟨t2, p2, c2⟩ := ha
  refine ⟨_, fun j => pe_makeG (CX := L2.CX P w) (E := WE W) (n := n + 7) (by rw [p.k j]; exact hm) (by rw [p.pr j, p.pw j, p.k j, p.g j, p.pb j]; exact hF) (p.room j) (p.gd j) (hg j) (by rw [p.g j]; exact hmg) (by rw [p.k j]; exact hb) (p.pass j) (p2 j) hdb (he j) (hpl j), cmp_make hC c2 hn⟩
theorem de_make0 {cl : Str} {ps : List Str} {c : List S → List MO → Rs S (List MO)} {pp pos : Pos} (p : Pc P w K mg base N W n X) (h : MkAt P w K mg base xr n cl ps c) (hk : ps.length = 1 := by rfl) (hg : ∀ j, Gl (X j) cl := by intro _; rfl)
    (hdb : (cl == ("__debug__" : Str)) = false := by decide) : DE MX xr K X W (.Call (.Name cl pp) [] [] pos) (eMake cl c aNil) := by
  obtain ⟨C, fa, fd, hC, hm, hmg, hF, hb⟩ := h
  refine ⟨_, fun j => pe_make0G (CX := L2.CX P w) (E := WE W) (n := n + 7) (by rw [p.k j]; exact hm) (by rw [p.pr j, p.pw j, p.k j, p.g j, p.pb j]; exact hF) (p.room j) (p.gd j) (hg j) (by rw [p.g j]; exact hmg) (by rw [p.k j]; exact hb) (p.pass j) hdb, cmp_make hC (fun G σ H F z Q _ _ ok h => h [] H F (Same.refl _) ok .nil) (fun z ss z1 h => by rw [hk, len_nil h])⟩
/-! ### where methods stand in the text -/
def MeIn (K : PySem.W.Frag) (cl m qual : Str) (st : Stmt) (ps : List Str) : Prop := ∃ C f fd, ClF K cl C ∧ Meth K C m f ∧ FunD K m qual (defArgs st) (defBody st) (defScope st) [] [] f fd ∧ Binds K fd ps []
def MkIn (K : PySem.W.Frag) (mg : Str → Option Value) (cl qual : Str) (st : Stmt) (ps : List Str) : Prop := ∃ C f fd, ClF K cl C ∧ Mk K C f ∧ mg cl = some (.ref C) ∧ FunD K "__init__" qual (defArgs st) (defBody st) (defScope st) [] [] f fd ∧ Binds K fd ps []
theorem spBad {ps : List Str} {k : Nat} {f : Addr} {fd : FuncData} : FnG P w K mg base (L2.CX P w) k f fd ps (spM MX K xr ps.length (fun _ _ => .bad)) := by
  have no : ∀ vs H Q E, ¬ spM MX K xr ps.length (fun _ _ => .bad) vs H Q E := fun vs H Q E h => by
    obtain ⟨_, _, _, _, _, _, _, _, _, _, z⟩ := h
    exact z
  exact ⟨fun vs H Q E h => absurd h (no vs H Q E), fun A outer s H args us vs Q E _ _ _ _ _ h => absurd h (no vs H Q E)⟩
theorem meAt_zero {cl m qual : Str} {st : Stmt} {ps : List Str} (h : MeIn K cl m qual st ps) : MeAt P w K mg base xr 0 cl m ps (fun _ _ => .bad) := by
  obtain ⟨C, f, fd, hC, hm, hF, hb⟩ := h
  exact ⟨C, f, fd, hC, hm, spBad, hb⟩
theorem meAt_succ {cl m qual : Str} {st : Stmt} {ps : List Str} {b : Sm MX Out} (h : MeIn K cl m qual st ps) (Sc : FnScope N ps (defScope st))
    (hb : ∀ (f : Addr) (cdv : Value) (A : Around) (outer : List Env) (s : Shared) (H : Hp) (E : XK), Room (n + 8) (A.deeper (PyProof.Rows.envOfC qual (defScope st) s.heap.objs.size f cdv)) → A.guards = some [] →
      DSs MX xr K (fun _ : Unit => cxOf (L2.CX P w) P w K mg base N qual (defScope st) f cdv A outer s H E) (fun cls d _ H => E cls d H) (defBody st) b) : MeAt P w K mg base xr (n + 1) cl m ps (fnM N.length b) := by
  obtain ⟨C, f, fd, hC, hm, hF, hbd⟩ := h
  exact ⟨C, f, fd, hC, hm, okM hF Sc (hb f), hbd⟩
/-- __init__, one level lower -/
theorem mkAt_zero {cl qual : Str} {st : Stmt} {ps : List Str} (h : MkIn K mg cl qual st ps) (k : Nat) : MkAt P w K mg base xr k cl ps (fun _ _ => .bad) := by
  obtain ⟨C, f, fd, hC, hm, hg, hF, hb⟩ := h
  exact ⟨C, f, fd, hC, hm, hg, spBad, hb⟩
theorem mkAt_succ {cl qual : Str} {st : Stmt} {ps : List Str} {b : Sm MX Out} (h : MkIn K mg cl qual st ps) (Sc : FnScope N ps (defScope st))
    (hb : ∀ (f : Addr) (cdv : Value) (A : Around) (outer : List Env) (s : Shared) (H : Hp) (E : XK), Room (n + 8) (A.deeper (PyProof.Rows.envOfC qual (defScope st) s.heap.objs.size f cdv)) → A.guards = some [] →
      DSs MX xr K (fun _ : Unit => cxOf (L2.CX P w) P w K mg base N qual (defScope st) f cdv A outer s H E) (fun cls d _ H => E cls d H) (defBody st) b) : MkAt P w K mg base xr (n + 2) cl ps (fnM N.length b) := by
  obtain ⟨C, f, fd, hC, hm, hg, hF, hbd⟩ := h
  exact ⟨C, f, fd, hC, hm, hg, okM hF Sc (hb f), hbd⟩
end
theorem clF_mk {K : PySem.W.Frag} {c : Str} {C : Addr} (a : PySem.W.nsIn K mainGlobals c = some (some (.ref C))) (c1 : PySem.W.plainGet K C Str.empty = true) (c2 : PySem.W.hasDictIn K C = true) (c3 : PySem.W.plainOver K C = true) (c4 : PySem.W.findIn K (.ref C) "__setattr__" = some (some (.builtin "object.__setattr__"))) : ClF K c C :=
  ⟨by unfold xrK; rw [a], c1, c2, c3, c4⟩
theorem funQ_mk {K : PySem.W.Frag} {x qual : Str} {st : Stmt} {f : Addr} {oc : Value} {od an : Option Addr} {osl : Array (Option Value)} {kV doc pm cdv ct : Value} (l : K.lookup f = some ⟨oc, od, .func (PySem.W.fnOf x qual (defArgs st) (defBody st) (defScope st) .none kV doc pm an cdv ct), osl⟩) (c : PySem.W.codeIn K cdv qual = true) (k : PySem.W.keepIn K (.ref f) = true) :
    FunD K x qual (defArgs st) (defBody st) (defScope st) [] [] f (PySem.W.fnOf x qual (defArgs st) (defBody st) (defScope st) .none kV doc pm an cdv ct) := ⟨⟨oc, od, .none, kV, doc, pm, an, cdv, ct, osl, rfl, l, c, .inl ⟨rfl, rfl⟩, .inl rfl⟩, k⟩
theorem meIn_mk {K : PySem.W.Frag} {cl m qual : Str} {st : Stmt} {ps : List Str} {C f : Addr} {oc : Value} {od an : Option Addr} {osl : Array (Option Value)} {kV doc pm cdv ct : Value} (hC : ClF K cl C) (a : PySem.W.findIn K (.ref C) m = some (some (.ref f))) (fn : PySem.W.isFn K (.ref f) = true)
    (l : K.lookup f = some ⟨oc, od, .func (PySem.W.fnOf m qual (defArgs st) (defBody st) (defScope st) .none kV doc pm an cdv ct), osl⟩) (c : PySem.W.codeIn K cdv qual = true) (k : PySem.W.keepIn K (.ref f) = true)
    (hb : ∀ (kV doc pm : Value) (an : Option Addr) (cdv ct : Value) (us : List Value), us.length = ps.length → bindArgs (PySem.W.fnOf m qual (defArgs st) (defBody st) (defScope st) .none kV doc pm an cdv ct) ⟨us, []⟩ = pure (ps.zip us)) : MeIn K cl m qual st ps :=
  ⟨C, f, _, hC, ⟨a, fn, k⟩, funQ_mk (st := st) l c k, fun s us _ hl => by rw [List.append_nil] at hl ⊢; exact .of_eq (hb _ _ _ _ _ _ us hl)⟩
theorem mkIn_mk {K : PySem.W.Frag} {h : Heap} {mg : Str → Option Value} {cl qual : Str} {st : Stmt} {ps : List Str} {C f : Addr} {oc : Value} {od an : Option Addr} {osl : Array (Option Value)} {kV doc pm cdv ct : Value} (X : K.In h) (G : h.Ns mainGlobals mg) (hC : ClF K cl C) (ca : PySem.W.nsIn K mainGlobals cl = some (some (.ref C))) (mk : PySem.W.makesIn K C = true) (kC : PySem.W.keepIn K (.ref C) = true) (a : PySem.W.findIn K (.ref C) "__init__" = some (some (.ref f))) (fn : PySem.W.isFn K (.ref f) = true)
    (l : K.lookup f = some ⟨oc, od, .func (PySem.W.fnOf "__init__" qual (defArgs st) (defBody st) (defScope st) .none kV doc pm an cdv ct), osl⟩) (c : PySem.W.codeIn K cdv qual = true) (k : PySem.W.keepIn K (.ref f) = true)
    (hb : ∀ (kV doc pm : Value) (an : Option Addr) (cdv ct : Value) (us : List Value), us.length = ps.length → bindArgs (PySem.W.fnOf "__init__" qual (defArgs st) (defBody st) (defScope st) .none kV doc pm an cdv ct) ⟨us, []⟩ = pure (ps.zip us)) : MkIn K mg cl qual st ps :=
  ⟨C, f, _, hC, ⟨mk, a, fn, kC⟩, PySem.W.mg_of X G ca, funQ_mk (st := st) l c k, fun s us _ hl => by rw [List.append_nil] at hl ⊢; exact .of_eq (hb _ _ _ _ _ _ us hl)⟩
end G
namespace G
open PySem L2 PySem.Spec PyProof.Rows
/-! ### texts in order -/
def ltL (a b : List Nat) : Bool := ltCps a b
def leS (a b : Str) : Bool := !ltCps b.cps.toList a.cps.toList
theorem lt_irr : ∀ a : List Nat, ltCps a a = false
  | [] => by simp [ltCps]
  | x :: r => by simp [ltCps, lt_irr r]
theorem lt_tri : ∀ a b : List Nat, ltCps a b = false → ltCps b a = false → a = b
  | [], [], _, _ => rfl
  | [], _ :: _, h, _ => by simp [ltCps] at h
  | _ :: _, [], _, h => by simp [ltCps] at h
  | x :: r, y :: s, h1, h2 => by
    by_cases q : x = y
    · subst q
      simp only [ltCps, Nat.lt_irrefl, decide_false, Bool.false_or, beq_self_eq_true, Bool.true_and] at h1 h2
      rw [lt_tri r s (by simpa using h1) (by simpa using h2)]
    · exfalso
      simp only [ltCps] at h1 h2
      rcases Nat.lt_or_gt_of_ne q with z | z
      · simp [z] at h1
      · simp [z] at h2
theorem lt_asy : ∀ a b : List Nat, ltCps a b = true → ltCps b a = false
  | [], [], h => by simp [ltCps] at h
  | [], _ :: _, _ => by simp [ltCps]
  | _ :: _, [], h => by simp [ltCps] at h
  | x :: r, y :: s, h => by
    simp only [ltCps] at h ⊢
    by_cases q : x = y
    · subst q
      simp at h ⊢
      exact lt_asy r s h
    · rcases Nat.lt_or_gt_of_ne q with z | z
      · have : ¬ y < x := by omega
        simp [z, this, Ne.symm q]
        try omega
      · have : ¬ x < y := by omega
        simp [this, q] at h
theorem lt_trn : ∀ a b c : List Nat, ltCps a b = true → ltCps b c = true → ltCps a c = true
  | [], _, [], _, h => by cases ‹List Nat› <;> simp [ltCps] at h
  | [], _, _ :: _, _, _ => by simp [ltCps]
  | _ :: _, [], _, h, _ => by simp [ltCps] at h
  | _ :: _, _ :: _, [], _, h => by simp [ltCps] at h
  | x :: r, y :: s, z :: t, h1, h2 => by
    simp only [ltCps] at h1 h2 ⊢
    by_cases q : x = y
    · subst q
      by_cases q2 : x = z
      · subst q2
        simp at h1 h2 ⊢
        exact lt_trn r s t h1 h2
      · have z1 : x < z := by
          rcases Nat.lt_or_gt_of_ne q2 with w | w
          · exact w
          · have : ¬ x < z := by omega
            simp [this, q2] at h2
        simp [z1]
    · have z1 : x < y := by
        rcases Nat.lt_or_gt_of_ne q with w | w
        · exact w
        · have : ¬ x < y := by omega
          simp [this, q] at h1
      have z2 : y ≤ z := by
        by_cases q3 : y = z
        · omega
        · rcases Nat.lt_or_gt_of_ne q3 with w | w
          · omega
          · have : ¬ y < z := by omega
            simp [this, q3] at h2
      have : x < z := by omega
      simp [this]
theorem str_ext {a b : Str} (h : a.cps.toList = b.cps.toList) : a = b := by
  cases a; cases b
  simp only at h
  congr 1
  exact Array.toList_inj.mp h
theorem leS_anti {a b : Str} (h1 : leS a b = true) (h2 : leS b a = true) : a = b := by
  unfold leS at h1 h2
  exact str_ext (lt_tri _ _ (by simpa using h2) (by simpa using h1))
theorem leS_total (a b : Str) : leS a b = true ∨ leS b a = true := by
  unfold leS
  cases h : ltCps b.cps.toList a.cps.toList with
  | false => exact .inl rfl
  | true => rw [lt_asy _ _ h]; exact .inr rfl
theorem leS_trans {a b c : Str} (h1 : leS a b = true) (h2 : leS b c = true) : leS a c = true := by
  unfold leS at *
  cases h : ltCps c.cps.toList a.cps.toList with
  | false => rfl
  | true =>
    cases hb : ltCps a.cps.toList b.cps.toList with
    | true => rw [lt_trn _ _ _ h hb] at h2; cases h2
    | false =>
      have e := lt_tri _ _ hb (by simpa using h1)
      rw [e] at h
      rw [h] at h2
      cases h2
theorem rising_pw : ∀ (ys : List Str) (p : Str), risingS p ys = true → (p :: ys).Pairwise (fun a b => leS a b = true)
  | [], p, _ => List.pairwise_singleton _ _
  | y :: r, p, h => by
    rw [risingS, Bool.and_eq_true] at h
    have ih := rising_pw r y h.2
    refine List.pairwise_cons.mpr ⟨fun z hz => ?_, ih⟩
    rcases List.mem_cons.mp hz with rfl | hz
    · exact h.1
    · exact leS_trans (show leS p y = true from h.1) ((List.pairwise_cons.mp ih).1 z hz)
theorem sorted_pw {ys : List Str} (h : sortedS ys = true) : ys.Pairwise (fun a b => leS a b = true) := by
  cases ys with
  | nil => exact List.Pairwise.nil
  | cons y r => exact rising_pw r y h
theorem perm_uniq : ∀ {xs ys : List Str}, xs.Perm ys → xs.Pairwise (fun a b => leS a b = true) → ys.Pairwise (fun a b => leS a b = true) → xs = ys
  | [], ys, p, _, _ => by have := p.length_eq; cases ys with
    | nil => rfl
    | cons _ _ => cases this
  | x :: r, [], p, _, _ => by have := p.length_eq; cases this
  | x :: r, y :: s, p, h1, h2 => by
    have a := List.pairwise_cons.mp h1
    have b := List.pairwise_cons.mp h2
    have e : x = y := by
      rcases List.mem_cons.mp (p.mem_iff.mp List.mem_cons_self : x ∈ y :: s) with e | hx
      · exact e
      · rcases List.mem_cons.mp (p.mem_iff.mpr List.mem_cons_self : y ∈ x :: r) with e | hy
        · exact e.symm
        · exact leS_anti (a.1 y hy) (b.1 x hx)
    subst e
    rw [perm_uniq (List.Perm.cons_inv p) a.2 b.2]
def srtS (ks : List Str) : List Str := ks.mergeSort leS
theorem srt_perm (ks : List Str) : (srtS ks).Perm ks := List.mergeSort_perm ks leS
theorem srt_pw (ks : List Str) : (srtS ks).Pairwise (fun a b => leS a b = true) := List.pairwise_mergeSort (le := leS) (fun a b c h1 h2 => leS_trans h1 h2) (fun a b => by rcases leS_total a b with h | h <;> simp [h]) ks
theorem srt_uniq {ks ys : List Str} (p : ys.Perm ks) (h : sortedS ys = true) : ys = srtS ks := perm_uniq (p.trans (srt_perm ks).symm) (sorted_pw h) (srt_pw ks)
/-! ### dicts of the store, more -/
theorem DaK.keys {K : PySem.W.Frag} {F : Hp} : ∀ {a b}, DaK K F a b → a.map (·.1) = b.map (·.1)
  | _, _, .nil => rfl
  | _, _, .cons _ r => by rw [List.map_cons, List.map_cons, DaK.keys r]
def keyS : List Key → Option (List Str)
  | [] => some []
  | .inr x :: r => (keyS r).map (x :: ·)
  | .inl _ :: _ => none
theorem keyS_eq : ∀ {ks : List Key} {ss : List Str}, keyS ks = some ss → ks = ss.map Sum.inr
  | [], ss, h => by cases h; rfl
  | .inr x :: r, ss, h => by
    rw [keyS] at h
    cases e : keyS r with
    | none => rw [e] at h; cases h
    | some ts => rw [e] at h; cases h; rw [List.map_cons, keyS_eq e]
  | .inl _ :: _, ss, h => by cases h
def kD : Key → D
  | .inl i => .int i
  | .inr x => .str x
section
variable {ι : Type} {xr : Str → Option Value} {K : PySem.W.Frag} {X : ι → Cx} {W : WX} {N : List Str} {mg : Str → Option Value}
/-- o[k] of a dict of the store -/
def eDIx (f g : Sm MX S) : Sm MX S := fun z => (opd f z).bind fun s z1 => (opd g z1).bind fun s' z2 => match dictAt z2 s, (rd z2 s').bind keyD with
  | some (_, ps), some k => (match valD ps k with
    | some d => .ok (.d d) z2
    | none => .bad)
  | _, _ => .bad
theorem de_dix {o i : Expr} {f g : Sm MX S} {pos : Pos} (p : Pl K X N mg) (ho : DE MX xr K X W o f) (hi : DE MX xr K X W i g) (hs : NoSl i := by exact fun _ _ => rfl) : DE MX xr K X W (.Subscript o i pos) (eDIx f g) := by
  obtain ⟨t1, p1, c1⟩ := ho
  obtain ⟨t2, p2, c2⟩ := hi
  refine ⟨tDGet t1 t2, fun j => pe_dget (by have := p.u j; omega) (p1 j) (p2 j) hs, fun G σ H F z Q hK hx ok hh => ?_⟩
  refine cmp_opd c1 G σ H F z _ hK hx ok (hit_bind hh fun s z1 v H1 F1 _ sm1 ok1 ev h1 => ?_)
  refine cmp_opd c2 G σ H1 F1 z1 _ hK hx ok1 (hit_bind h1 fun s' z2 v' H2 F2 _ sm2 ok2 ev2 h2 => ?_)
  cases e2 : dictAt z2 s with
  | none => simp only [e2] at h2; exact h2.elim
  | some q =>
    obtain ⟨n, ps⟩ := q
    cases e3 : (rd z2 s').bind keyD with
    | none => simp only [e2, e3] at h2; exact h2.elim
    | some k =>
      simp only [e2, e3] at h2
      obtain ⟨a, kvs, rfl, ha, em, hH, hk⟩ := dictAt_rv ok2 (EO.mono sm2 ev) e2
      cases er : rd z2 s' with
      | none => rw [er] at e3; cases e3
      | some d =>
        rw [er] at e3
        have hv := keyD_v (EO.rv ok2 ev2 er) e3
        subst hv
        rcases hk.val k with ⟨e4, e5⟩ | ⟨v, d, e4, e5, e6⟩
        · rw [e4] at h2; exact h2.elim
        · rw [e4] at h2
          have dg := DGet.k (k := k) hH
          rw [e5] at dg
          exact ⟨a, v, rfl, dg, h2 v H2 F2 (Same.refl _) ok2 e6⟩
/-- k in o -/
def eDIn (b : Bool) (g f : Sm MX S) : Sm MX S := fun z => (opd g z).bind fun s' z1 => (opd f z1).bind fun s z2 => match dictAt z2 s, (rd z2 s').bind keyD with
  | some (_, ps), some k => .ok (.d (.bl (if b = true then (valD ps k).isSome else !(valD ps k).isSome))) z2
  | _, _ => .bad
theorem cmp_din {b : Bool} {t1 t2 : TE} {f g : Sm MX S} (c2 : Cmp MX K xr W t2 RelE g) (c1 : Cmp MX K xr W t1 RelE f) : Cmp MX K xr W (fun σ H Q => t2 σ H fun y H1 => t1 σ H1 fun x H2 => ∃ a o, x = .ref a ∧ DGet H2 a y o ∧ Q (.bl (if b = true then o.isSome else !o.isSome)) H2) RelE (eDIn b g f) := by
  intro G σ H F z Q hK hx ok hh
  refine cmp_opd c2 G σ H F z _ hK hx ok (hit_bind hh fun s' z1 v' H1 F1 _ sm1 ok1 ev2 h1 => ?_)
  refine cmp_opd c1 G σ H1 F1 z1 _ hK hx ok1 (hit_bind h1 fun s z2 v H2 F2 _ sm2 ok2 ev h2 => ?_)
  cases e2 : dictAt z2 s with
  | none => simp only [e2] at h2; exact h2.elim
  | some q =>
    obtain ⟨n, ps⟩ := q
    cases e3 : (rd z2 s').bind keyD with
    | none => simp only [e2, e3] at h2; exact h2.elim
    | some k =>
      simp only [e2, e3] at h2
      obtain ⟨a, kvs, rfl, ha, em, hH, hk⟩ := dictAt_rv ok2 ev e2
      cases er : rd z2 s' with
      | none => rw [er] at e3; cases e3
      | some d =>
        rw [er] at e3
        have hv := keyD_v (EO.rv ok2 (EO.mono sm2 ev2) er) e3
        subst hv
        have es : (valD ps k).isSome = (valV kvs k).isSome := by
          rcases hk.val k with ⟨e4, e5⟩ | ⟨v, d, e4, e5, e6⟩ <;> rw [e4, e5] <;> rfl
        rw [es] at h2
        exact ⟨a, _, rfl, DGet.k hH, h2 _ H2 F2 (Same.refl _) ok2 (Da.bl _)⟩
theorem de_din {o i : Expr} {f g : Sm MX S} {pos : Pos} (p : Pl K X N mg) (hi : DE MX xr K X W i g) (ho : DE MX xr K X W o f) (hb : behindInMarks .In o = false := by first | exact nobehind _ (by decide) (by decide) | rfl) : DE MX xr K X W (.Compare i [.In] [o] pos) (eDIn true g f) := by
  obtain ⟨t1, p1, c1⟩ := ho
  obtain ⟨t2, p2, c2⟩ := hi
  exact ⟨_, fun j => pe_cmp (pc_din (by have := p.u j; omega) (p2 j) (p1 j)) hb, cmp_din (b := true) c2 c1⟩
theorem de_dnotin {o i : Expr} {f g : Sm MX S} {pos : Pos} (p : Pl K X N mg) (hi : DE MX xr K X W i g) (ho : DE MX xr K X W o f) (hb : behindInMarks .NotIn o = false := by first | exact nobehind _ (by decide) (by decide) | rfl) : DE MX xr K X W (.Compare i [.NotIn] [o] pos) (eDIn false g f) := by
  obtain ⟨t1, p1, c1⟩ := ho
  obtain ⟨t2, p2, c2⟩ := hi
  exact ⟨_, fun j => pe_cmp (pc_dnotin (by have := p.u j; omega) (p2 j) (p1 j)) hb, cmp_din (b := false) c2 c1⟩
/-- dict(o) -/
def eDCopy (f : Sm MX S) : Sm MX S := fun z => (opd f z).bind fun s z1 => match dictAt z1 s with
  | some (_, ps) => .ok (.d (.o z1.m.length)) { z1 with m := z1.m ++ [.dK ps] }
  | none => .bad
theorem de_dcopy {e : Expr} {f : Sm MX S} {pp pos : Pos} (p : Pl K X N mg) (hm : mg "dict" = none) (he : DE MX xr K X W e f) (hg : ∀ j, Gl (X j) "dict" := by intro _; rfl) (hst : ∀ j, starEach [e] (X j).env = (false, eval e (X j).env) :: starEach [] (X j).env := by intro _; rfl) : DE MX xr K X W (.Call (.Name "dict" pp) [e] [] pos) (eDCopy f) := by
  obtain ⟨t1, p1, c1⟩ := he
  refine ⟨_, fun j => pe_callTy call_dictD (hg j) (by rw [p.g j]; exact hm) (by decide +kernel) (pa_cons (p1 j) pa_nil (hst j)) (by decide) (by decide) (hst j) (by rfl), fun G σ H F z Q hK hx ok hh => ?_⟩
  refine cmp_opd c1 G σ H F z _ hK hx ok (hit_bind hh fun s z1 v H1 F1 _ sm1 ok1 ev h1 => ?_)
  cases e2 : dictAt z1 s with
  | none => simp only [e2] at h1; exact h1.elim
  | some q =>
    obtain ⟨n, ps⟩ := q
    simp only [e2] at h1
    obtain ⟨a, kvs, rfl, ha, em, hH, hk⟩ := dictAt_rv ok1 ev e2
    refine ⟨a, kvs, rfl, .inl hH, fun q hq => ?_⟩
    have sF : Same F1 (upd F1 q (tag z1.m.length)) := same_upd (ok1.freshF hq)
    exact h1 (.ref q) (upd H1 q (.dK kvs)) (upd F1 q (tag z1.m.length)) sF (ok1.alloc hq ⟨kvs, upd_same, hk.mono sF⟩) (Da.o upd_same)
/-- sorted(o), o a dict of texts -/
def eDSort (f : Sm MX S) : Sm MX S := fun z => (opd f z).bind fun s z1 => match dictAt z1 s with
  | some (_, ps) => (match keyS (ps.map (·.1)) with
    | some ss => if ss.length < 64 then .ok (.l ((srtS ss).map D.str)) z1 else .bad
    | none => .bad)
  | none => .bad
theorem de_dsort {e : Expr} {f : Sm MX S} {pp pos : Pos} (p : Pl K X N mg) (hm : mg "sorted" = none) (he : DE MX xr K X W e f) (hg : ∀ j, Gl (X j) "sorted" := by intro _; rfl) (hst : ∀ j, starEach [e] (X j).env = (false, eval e (X j).env) :: starEach [] (X j).env := by intro _; rfl) : DE MX xr K X W (.Call (.Name "sorted" pp) [e] [] pos) (eDSort f) := by
  obtain ⟨t1, p1, c1⟩ := he
  refine ⟨_, fun j => pe_callB (call_sortedD (p.c j)) (hg j) (by rw [p.g j]; exact hm) (by decide +kernel) (pa_cons (p1 j) pa_nil (hst j)) (by decide) (by decide) (hst j) (by rfl), fun G σ H F z Q hK hx ok hh => ?_⟩
  refine cmp_opd c1 G σ H F z _ hK hx ok (hit_bind hh fun s z1 v H1 F1 _ sm1 ok1 ev h1 => ?_)
  cases e2 : dictAt z1 s with
  | none => simp only [e2] at h1; exact h1.elim
  | some q =>
    obtain ⟨n, ps⟩ := q
    simp only [e2] at h1
    obtain ⟨a, kvs, rfl, ha, em, hH, hk⟩ := dictAt_rv ok1 ev e2
    cases e3 : keyS (ps.map (·.1)) with
    | none => rw [e3] at h1; exact h1.elim
    | some ss =>
      simp only [e3] at h1
      by_cases hl : ss.length < 64
      · rw [if_pos hl] at h1
        refine ⟨a, kvs, ss, rfl, .inl hH, by rw [hk.keys]; exact keyS_eq e3, hl, fun ys q pm so hq => ?_⟩
        have := srt_uniq pm so
        subst this
        exact h1 (.ref q) (upd H1 q (.lst ((srtS ss).map V.str))) F1 (Same.refl _) (ok1.new hq _) ⟨q, _, rfl, upd_same, daAll_strs _, ok1.freshF hq, ok1.freshP hq, ok1.freshM hq, ok1.freshO hq⟩
      · rw [if_neg hl] at h1; exact h1.elim
/-- list(o) -/
def eDList (f : Sm MX S) : Sm MX S := fun z => (opd f z).bind fun s z1 => match dictAt z1 s with
  | some (_, ps) => .ok (.l (ps.map fun kv => kD kv.1)) z1
  | none => .bad
theorem daAll_keys {F : Hp} : ∀ ks : List Key, DaAll K F (ks.map kV) (ks.map kD)
  | [] => .nil
  | .inl i :: r => .cons (.int i) (daAll_keys r)
  | .inr x :: r => .cons (.str x) (daAll_keys r)
theorem de_dlist {e : Expr} {f : Sm MX S} {pp pos : Pos} (p : Pl K X N mg) (hm : mg "list" = none) (he : DE MX xr K X W e f) (hg : ∀ j, Gl (X j) "list" := by intro _; rfl) (hst : ∀ j, starEach [e] (X j).env = (false, eval e (X j).env) :: starEach [] (X j).env := by intro _; rfl) : DE MX xr K X W (.Call (.Name "list" pp) [e] [] pos) (eDList f) := by
  obtain ⟨t1, p1, c1⟩ := he
  refine ⟨_, fun j => pe_callTy (call_listD (p.c j)) (hg j) (by rw [p.g j]; exact hm) (by decide +kernel) (pa_cons (p1 j) pa_nil (hst j)) (by decide) (by decide) (hst j) (by rfl), fun G σ H F z Q hK hx ok hh => ?_⟩
  refine cmp_opd c1 G σ H F z _ hK hx ok (hit_bind hh fun s z1 v H1 F1 _ sm1 ok1 ev h1 => ?_)
  cases e2 : dictAt z1 s with
  | none => simp only [e2] at h1; exact h1.elim
  | some q =>
    obtain ⟨n, ps⟩ := q
    simp only [e2] at h1
    obtain ⟨a, kvs, rfl, ha, em, hH, hk⟩ := dictAt_rv ok1 ev e2
    refine ⟨a, kvs, rfl, .inl hH, fun q hq => ?_⟩
    have ek : (kvs.map fun kv => kV kv.1) = (ps.map (·.1)).map kV := by rw [← hk.keys, List.map_map]; rfl
    have ed : (ps.map fun kv => kD kv.1) = (ps.map (·.1)).map kD := by rw [List.map_map]; rfl
    rw [ek]
    rw [ed] at h1
    exact h1 (.ref q) (upd H1 q (.lst ((ps.map (·.1)).map kV))) F1 (Same.refl _) (ok1.new hq _) ⟨q, _, rfl, upd_same, daAll_keys _, ok1.freshF hq, ok1.freshP hq, ok1.freshM hq, ok1.freshO hq⟩
/-! ### (..) * k -/
def dRepT : D → D → Option R := fun a b => match a, b with
  | .tup xs, .int k => if xs ≠ [] ∧ 2 ≤ k ∧ k ≤ 1000 ∧ xs.length ≤ 1000 then some (.t (List.replicate k.toNat xs).flatten) else none
  | _, _ => none
theorem op2_repT : Op2 K (rRepT K) dRepT := by
  intro F H x y a b Q s ha hb h
  unfold dRepT at h
  split at h
  · rename_i xs k
    by_cases c : xs ≠ [] ∧ 2 ≤ k ∧ k ≤ 1000 ∧ xs.length ≤ 1000
    · rw [if_pos c] at h
      obtain ⟨l, vs, rfl, q, r⟩ := ha.tup s
      have hl := r.length
      refine ⟨l, k, vs, rfl, hb.int, q, fun e => c.1 (by rw [e] at hl; cases xs with
        | nil => rfl
        | cons _ _ => cases hl), c.2.1, c.2.2.1, by omega, fun p hp => h.2 p _ hp (r.rep _)⟩
    · rw [if_neg c] at h; exact h.elim
  · exact h.elim
theorem de_repT {a b : Expr} {f f' : Sm MX S} {pos : Pos} (p : Pl K X N mg) (ha : DE MX xr K X W a f) (hb : DE MX xr K X W b f') : DE MX xr K X W (.BinOp a .Mult b pos) (eBin dRepT f f') := de_bin (fun j => by rw [← p.k j]; exact op_repT) op2_repT ha hb
end
end G
namespace G
open PySem L2
def methS (st : Stmt) (j : Nat) : Stmt := match st with
  | .ClassDef _ _ _ body _ _ _ _ _ _ _ => body.getD j (.Pass ⟨0, 0, 0, 0⟩)
  | _ => .Pass ⟨0, 0, 0, 0⟩
theorem cls1 {K : PySem.W.Frag} {c x : Str} {C : Addr} (h : ClF K c C) (n : NoAttr K C x) : ∀ c' ∈ [c], ∃ C, ClF K c' C ∧ NoAttr K C x := by
  intro c' hc
  rcases List.mem_singleton.mp hc with rfl
  exact ⟨C, h, n⟩
end G
namespace G
open PySem L2
section
variable {ι : Type} {M : MI} {xr : Str → Option Value} {K : PySem.W.Frag} {X : ι → Cx} {W : WX}
/-- a, b, c = x, y, z -/
def sPar3 (i j l : Nat) (g : Sm M (List S)) : Sm M Out := fun z => (g z).bind fun ss z1 => match ss with
  | [.d x, .d y, .d w] => .ok .nx { z1 with rho := ((z1.rho.set i (some (.d x))).set j (some (.d y))).set l (some (.d w)) }
  | _ => .bad
theorem ds_par3 {i j l : Nat} {x y w : Str} {a b c : Expr} {g : Sm M (List S)} {px py pw pt pos : Pos} {kt k2 pt2} (hc : ∀ q, (X q).calm = true) (hN : ∀ q, (X q).N.Nodup) (hi : ∀ q, (X q).N[i]? = some x) (hj : ∀ q, (X q).N[j]? = some y) (hl : ∀ q, (X q).N[l]? = some w) (hij : i ≠ j) (hil : i ≠ l) (hjl : j ≠ l) (hx : ∀ q, (X q).env.scope.names.lookup x = some .local) (hy : ∀ q, (X q).env.scope.names.lookup y = some .local) (hz : ∀ q, (X q).env.scope.names.lookup w = some .local) (ha : DA M xr K X W [a, b, c] g)
    (hw : ∀ q, swappedStores [.Tuple [.Name x px, .Name y py, .Name w pw] kt pt] (.Tuple [a, b, c] k2 pt2) (X q).env = pure (some [x, y, w]) := by intro _; rfl) (hs : ∀ q, swapsWithSole [.Tuple [.Name x px, .Name y py, .Name w pw] kt pt] (.Tuple [a, b, c] k2 pt2) pos.line (X q).env = pure false := by intro _; rfl) :
    DS M xr K X W (.Assign [.Tuple [.Name x px, .Name y py, .Name w pw] kt pt] (.Tuple [a, b, c] k2 pt2) pos) (sPar3 i j l g) := by
  obtain ⟨t, p, cc⟩ := ha
  refine ⟨_, fun q => ps_par3 (hc q) (hN q) (hi q) (hj q) (hl q) hij hil hjl (hx q) (hy q) (hz q) (p q) (hw q) (hs q), fun G σ H F z D hK hx ok hh => ?_⟩
  refine cc G σ H F z _ hK hx ok (hits_bind hh fun ss z1 vs H1 F1 _ sm ok1 ea h2 => ?_)
  match ss, vs, ea, h2 with
  | [.d x, .d y, .d w], _, .cons a (.cons b (.cons c .nil)), h2 =>
    refine ⟨_, _, _, rfl, h2 _ H1 F1 (Same.refl _) ?_⟩
    have ok2 := ok1.set (i := i) (s := .d x) (show Da G.K F1 _ x from a) (fun _ e => by cases e)
    have ok3 := ok2.set (i := j) (s := .d y) (show Da G.K F1 _ y from b) (fun _ e => by cases e)
    exact ok3.set (i := l) (s := .d w) (show Da G.K F1 _ w from c) (fun _ e => by cases e)
  | [], _, _, h2 => exact h2.elim
  | [.d _], _, _, h2 => exact h2.elim
  | [.d _, .d _], _, _, h2 => exact h2.elim
  | .l _ :: _, _, _, h2 => exact h2.elim
  | .v _ :: _, _, _, h2 => exact h2.elim
  | .m _ :: _, _, _, h2 => exact h2.elim
  | .d _ :: .l _ :: _, _, _, h2 => exact h2.elim
  | .d _ :: .v _ :: _, _, _, h2 => exact h2.elim
  | .d _ :: .m _ :: _, _, _, h2 => exact h2.elim
  | .d _ :: .d _ :: .l _ :: _, _, _, h2 => exact h2.elim
  | .d _ :: .d _ :: .v _ :: _, _, _, h2 => exact h2.elim
  | .d _ :: .d _ :: .m _ :: _, _, _, h2 => exact h2.elim
  | .d _ :: .d _ :: .d _ :: _ :: _, _, _, h2 => exact h2.elim
end
end G
namespace G
open PySem L2 PySem.Spec PyProof.Rows
/-! ### a display of texts -/
def ksV (ps : List (Str × Str)) : List (Key × V) := ps.map fun p => (Sum.inr p.1, V.str p.2)
def ksD (ps : List (Str × Str)) : List (Key × D) := ps.map fun p => (Sum.inr p.1, D.str p.2)
def mergeD (kvs more : List (Key × D)) : List (Key × D) := more.foldl (fun acc kv => putD acc kv.1 kv.2) kvs
theorem DaK.merge {K : PySem.W.Frag} {F : Hp} : ∀ (ps : List (Str × Str)) {a : List (Key × V)} {b : List (Key × D)}, DaK K F a b → DaK K F (mergeK a (ksV ps)) (mergeD b (ksD ps))
  | [], _, _, h => h
  | p :: r, a, b, h => DaK.merge r (h.put (.inr p.1) (.str p.2))
def tKS (ps : List (Str × Str)) : List (TE × TE) := ps.map fun p => (tC (.str p.1), tC (.str p.2))
theorem tKS_run {σ : L2.St} : ∀ (ps : List (Str × Str)) {H : Hp} {Q : List (V × V) → Hp → Prop}, Q ((ksV ps).map fun kv => (kV kv.1, kv.2)) H → tPairs (tKS ps) σ H Q
  | [], _, _, h => h
  | p :: r, H, Q, h => tKS_run r h
section
variable {ι : Type} {xr : Str → Option Value} {K : PySem.W.Frag} {X : ι → Cx} {W : WX} {N : List Str} {mg : Str → Option Value}
theorem ks_nil {pos : Pos} : ∀ j, PPs (X j) pos [] [] (tKS []) := fun _ => pps_nil
theorem ks_cons {pos p1 p2 : Pos} {i1 i2} {k v : Str} {ks : List (Option Expr)} {vs : List Expr} {ps : List (Str × Str)} (h : ∀ j, PPs (X j) pos ks vs (tKS ps)) : ∀ j, PPs (X j) pos (some (.Constant (.str k) i1 p1) :: ks) (.Constant (.str v) i2 p2 :: vs) (tKS ((k, v) :: ps)) := fun j => pps_cons pe_str pe_str (h j)
def eDisp (ps : List (Str × Str)) : Sm MX S := fun z => if ps.length ≤ 15 then .ok (.d (.o z.m.length)) { z with m := z.m ++ [.dK (mergeD [] (ksD ps))] } else .bad
theorem de_disp {ps : List (Str × Str)} {keys : List (Option Expr)} {values : List Expr} {pos : Pos} (h : ∀ j, PPs (X j) pos keys values (tKS ps)) (hall : keys.all (·.isSome) = true) (hl : keys.length = values.length) (h0 : keys ≠ []) (h15 : keys.length ≤ 15) : DE MX xr K X W (.Dict keys values pos) (eDisp ps) := by
  refine ⟨_, fun j => pe_disp (h j) hall hl h0 h15, fun G σ H F z Q hK hx ok hh => fun p hp => ?_⟩
  unfold eDisp at hh
  by_cases c : ps.length ≤ 15
  · rw [if_pos c] at hh
    refine tKS_run ps ⟨upd_same, ksV ps, rfl, by unfold ksV; rw [List.length_map]; exact c, ?_⟩
    rw [upd_upd]
    exact hh (.ref p) (upd H p (.dK (mergeK [] (ksV ps)))) (upd F p (tag z.m.length)) (same_upd (ok.freshF hp)) (ok.alloc hp ⟨_, upd_same, DaK.merge ps .nil⟩) (Da.o upd_same)
  · rw [if_neg c] at hh; exact hh.elim
end
/-! ### d.update(e), two dicts of the store -/
def tDUpd (td te : TE) : TE := fun σ H Q => td σ H fun x H1 => ∃ a, x = .ref a ∧ IsD H1 a ∧ te σ H1 fun y H2 => ∃ (b : Addr) (kvs more : List (Key × V)), y = .ref b ∧ a ≠ b ∧ H2 a = some (.dK kvs) ∧ H2 b = some (.dK more) ∧ kvs.length + more.length ≤ sizeLine ∧ Q .non (upd H2 a (.dK (mergeK kvs more)))
theorem pe_dupd {X : Cx} {o e : Expr} {apos cpos : Pos} {td te : TE} (ho : PE X o td) (he : PE X e te) (m : L2.M1 X o "update" apos e cpos) : PE X (.Call (.Attribute o "update" apos) [e] [] cpos) (tDUpd td te) := by
  refine ⟨fun pins s σ H Q I h => ?_⟩
  refine wpAny_Call_method m.base m.few m.line PySem.F.plainAttrs_dict PySem.F.slot_dict_update PySem.F.type_dict_update (thn (ho.run pins s σ H _ I h) fun u s1 ⟨x, H1, I1, rx, a, ex, d, q1⟩ => ?_)
  subst ex
  obtain rfl : u = Value.ref a := rx
  obtain ⟨t1, t2, _⟩ := isD_at I1 d
  refine ⟨t1, t2, ?_⟩
  rw [m.trees]
  refine Calls.callWith_builtin rfl (Calls.evalArgs_plain (Calls.spliced_cons (thn (he.run pins s1 σ H1 _ I1 q1) fun iv s2 ⟨y, H2, I2, ry, b, kvs, more, ey, ne, ha, hb, sz, q2⟩ => Calls.spliced_nil ?_)))
  subst ey
  obtain rfl : iv = Value.ref b := ry
  obtain ⟨z1, d1, vs1, r1, dd1⟩ := dk_of I2.hok ha
  obtain ⟨z2, d2, vs2, r2, dd2⟩ := dk_of I2.hok hb
  refine call_meetsIn PySem.F.slot_dict_update dd1.typeIs PySem.F.entry_dict_update (PySem.F.args_dict_update_2 _ _) (meets_dict_update (mixKind X.prog X.w) a b ne d2) ⟨vs1, vs2, dd1, dd2, by rw [← r1.length, ← r2.length]; exact sz, fun h' e1 e2 hs => ⟨.non, _, ?_, rfl, q2⟩⟩
  have hz : (mergeK kvs more).length ≤ sizeLine := Nat.le_trans (length_mergeK more kvs) sz
  have hq : ∃ q, h'.get? a = some q := let ⟨q, _, _, hq, _⟩ := e1; ⟨q, hq⟩
  exact d_write I2 (by rw [ha]; exact True.intro) hs hq (dk_new hz d1 (r2.merge r1) e1)
section
variable {ι : Type} {xr : Str → Option Value} {K : PySem.W.Frag} {X : ι → Cx} {W : WX} {N : List Str} {mg : Str → Option Value}
theorem DaK.mergeA {K : PySem.W.Frag} {F : Hp} : ∀ {c : List (Key × V)} {d : List (Key × D)}, DaK K F c d → ∀ {a : List (Key × V)} {b : List (Key × D)}, DaK K F a b → DaK K F (mergeK a c) (mergeD b d)
  | _, _, .nil, _, _, h => h
  | _, _, .cons q r, _, _, h => DaK.mergeA r (h.put _ q)
def eDUpd (f g : Sm MX S) : Sm MX S := fun z => (opd f z).bind fun s z1 => match dictAt z1 s with
  | some _ => (opd g z1).bind fun s' z2 => (match dictAt z2 s, dictAt z2 s' with
    | some (n, ps), some (k, qs) => if n ≠ k ∧ ps.length + qs.length ≤ lim then .ok (.d .non) { z2 with m := z2.m.set n (.dK (mergeD ps qs)) } else .bad
    | _, _ => .bad)
  | none => .bad
theorem de_dupd {o e : Expr} {f g : Sm MX S} {apos cpos : Pos} (ho : DE MX xr K X W o f) (he : DE MX xr K X W e g) (m : ∀ j, L2.M1 (X j) o "update" apos e cpos) : DE MX xr K X W (.Call (.Attribute o "update" apos) [e] [] cpos) (eDUpd f g) := by
  obtain ⟨t1, p1, c1⟩ := ho
  obtain ⟨t2, p2, c2⟩ := he
  refine ⟨_, fun j => pe_dupd (p1 j) (p2 j) (m j), fun G σ H F z Q hK hx ok hh => ?_⟩
  refine cmp_opd c1 G σ H F z _ hK hx ok (hit_bind hh fun s z1 v H1 F1 _ sm1 ok1 ev h1 => ?_)
  cases e1 : dictAt z1 s with
  | none => rw [e1] at h1; exact h1.elim
  | some q =>
    obtain ⟨n, ps⟩ := q
    rw [e1] at h1
    obtain ⟨a, kvs, rfl, ha, em, hH, hk⟩ := dictAt_rv ok1 ev e1
    refine ⟨a, rfl, .inl ⟨kvs, .inl hH⟩, ?_⟩
    refine cmp_opd c2 G σ H1 F1 z1 _ hK hx ok1 (hit_bind h1 fun s' z2 v' H2 F2 _ sm2 ok2 ev2 h2 => ?_)
    cases e2 : dictAt z2 s with
    | none => simp only [e2] at h2; exact h2.elim
    | some q =>
      obtain ⟨n', ps'⟩ := q
      cases e3 : dictAt z2 s' with
      | none => simp only [e2, e3] at h2; exact h2.elim
      | some q =>
        obtain ⟨k, qs⟩ := q
        simp only [e2, e3] at h2
        by_cases c : n' ≠ k ∧ ps'.length + qs.length ≤ lim
        · rw [if_pos c] at h2
          obtain ⟨a', kvs', ea, ha', em', hH', hk'⟩ := dictAt_rv ok2 (EO.mono sm2 ev) e2
          cases ea
          obtain ⟨b, more, eb, hb, emb, hHb, hkb⟩ := dictAt_rv ok2 ev2 e3
          subst eb
          have l1 := hk'.length
          have l2 := hkb.length
          refine ⟨b, kvs', more, rfl, fun q => ?_, hH', hHb, limLe (by omega), ?_⟩
          · subst q
            rw [ha'] at hb
            exact c.1 (tag_inj (Option.some.inj hb))
          · exact h2 .non (upd H2 a (.dK (mergeK kvs' more))) F2 (Same.refl _) (ok2.putO ha' ⟨_, upd_same, DaK.mergeA hkb hk'⟩) Da.non
        · rw [if_neg c] at h2; exact h2.elim
end
end G
/-! dicts of the module with texts for keys; x == (), x != []; x += e -/
namespace G
open PySem L2 PySem.Spec PyProof.Rows
inductive EsD (K : PySem.W.Frag) (P : Params) : List DictEntry → List (Str × D) → Prop
  | nil : EsD K P [] []
  | cons {x : Str} {t : Tok} {u : Value} {v : V} {d : D} {r : List DictEntry} {tb : List (Str × D)} : RelV v u → (∀ F, Da K F v d) → EsD K P r tb → EsD K P (⟨PyData.keyHash P x, .str x t, u⟩ :: r) ((x, d) :: tb)
/-- what the entries tell of a text: the value as the walk knows it -/
def EsV (es : List DictEntry) (x : Str) (dv v : V) : Prop := match (es.find? fun e => Value.isStrOf x e.key).map (·.val) with
  | some u => RelV v u
  | none => v = dv
theorem EsD.lit {K : PySem.W.Frag} {P : Params} : ∀ {es : List DictEntry} {tb : List (Str × D)}, EsD K P es tb → PySem.W.KeysLit P es
  | _, _, .nil => True.intro
  | _, _, .cons _ _ r => ⟨⟨_, _, rfl, rfl⟩, r.lit⟩
theorem EsD.find {K : PySem.W.Frag} {P : Params} (x : Str) : ∀ {es : List DictEntry} {tb : List (Str × D)}, EsD K P es tb → (∃ d u v, tb.lookup x = some d ∧ (es.find? fun e => Value.isStrOf x e.key).map (·.val) = some u ∧ RelV v u ∧ ∀ F, Da K F v d) ∨ (tb.lookup x = none ∧ (es.find? fun e => Value.isStrOf x e.key).map (·.val) = none)
  | _, _, .nil => .inr ⟨rfl, rfl⟩
  | _, _, .cons (x := y) (t := t) (u := u) (v := v) (d := d) (r := r) (tb := tb) h1 h2 h3 => by
    by_cases e : x = y
    · subst e
      refine .inl ⟨d, u, v, ?_, ?_, h1, h2⟩
      · rw [List.lookup_cons, beq_self_eq_true]
      · rw [List.find?_cons_of_pos (by show (x == x) = true; exact beq_self_eq_true x)]
        rfl
    · have e1 : (x == y) = false := beq_eq_false_iff_ne.mpr e
      have e2 : Value.isStrOf x (.str y t) = false := by show (y == x) = false; exact beq_eq_false_iff_ne.mpr (fun q => e q.symm)
      rw [List.lookup_cons, e1, List.find?_cons_of_neg (by show ¬ Value.isStrOf x (.str y t) = true; rw [e2]; exact Bool.false_ne_true)]
      exact h3.find x
/-- a dict of the module with texts for keys -/
def KDD (K : PySem.W.Frag) (P : Params) (mg : Str → Option Value) (x : Str) (tb : List (Str × D)) : Prop :=
  ∃ d es n, mg x = some (.ref d) ∧ K.lookup d = some ⟨.type "dict", none, .dict es n, #[]⟩ ∧ (d == sysModules) = false ∧ EsD K P es.toList tb
def tKGet (es : List DictEntry) (te tx : TE) : TE := fun σ H Q => te σ H fun y H1 => tx σ H1 fun dv H2 => ∃ z v, y = .str z ∧ EsV es z dv v ∧ Q v H2
theorem pe_kget {X : Cx} {d : Addr} {es : Array DictEntry} {n : Nat} {x : Str} {e f : Expr} {p1 apos cpos : Pos} {te tx : TE} (hl : X.K.lookup d = some ⟨.type "dict", none, .dict es n, #[]⟩) (hk : PySem.W.KeysLit X.w.params es.toList) (hd : (d == sysModules) = false) (hg : Gl X x) (hm : X.mg x = some (.ref d)) (he : PE X e te) (hf : PE X f tx) (m : L2.M2 X (.Name x p1) "get" apos e f cpos) (hdb : (x == ("__debug__" : Str)) = false) :
    PE X (.Call (.Attribute (.Name x p1) "get" apos) [e, f] [] cpos) (tKGet es.toList te tx) := by
  constructor
  intro pins s σ H Q I h
  have kd : ∀ {s : Shared}, X.K.In s.heap → s.heap.MapOf (strKind X.prog X.w) d (fun k => findBy Value.isStrOf es k) := fun kin => PySem.W.mapOf_K (prog := X.prog) (w := X.w) kin hl hk
  refine wpAny_Call_method m.base m.few m.line PySem.F.plainAttrs_dict PySem.F.slot_dict_get PySem.F.type_dict_get (ld_glob I hg hm ?_ hdb)
  refine ⟨(kd I.kIn).typeIs, fun b q => ?_, ?_⟩
  · cases q
    exact ⟨_, I.kIn _ _ hl, rfl⟩
  rw [m.trees]
  refine Calls.callWith_builtin rfl (Calls.evalArgs_plain (Calls.spliced_cons (thn (he.run pins s σ H _ I h) fun iv s2 ⟨y, H2, I2, ry, q2⟩ => Calls.spliced_cons (thn (hf.run pins s2 σ H2 _ I2 q2) fun fv s3 ⟨dv, H3, I3, rz, z, v, ez, ev, q3⟩ => Calls.spliced_nil ?_))))
  subst ez
  obtain ⟨t, rfl⟩ := ry
  refine call_meetsIn PySem.F.slot_dict_get (kd I3.kIn).typeIs PySem.F.entry_dict_get (PySem.F.args_dict_get_3 _ _ _) (meets_dict_get_default (strKind X.prog X.w) d (PySem.strKind_is X.prog X.w z t) hd fv) ⟨_, kd I3.kIn, ?_⟩
  have ef : findBy Value.isStrOf es z = (es.toList.find? fun e => Value.isStrOf z e.key).map (·.val) := by
    unfold findBy
    rw [← Array.find?_toList]
  show EP X pins σ Q ((findBy Value.isStrOf es z).getD fv) _
  rw [ef]
  unfold EsV at ev
  cases e1 : (es.toList.find? fun e => Value.isStrOf z e.key).map (·.val) with
  | none =>
    rw [e1] at ev
    cases ev
    exact ⟨dv, H3, I3.tok _, rz, q3⟩
  | some u =>
    rw [e1] at ev
    exact ⟨v, H3, I3.tok _, ev, q3⟩
section
variable {ι : Type} {M : MI} {xr : Str → Option Value} {K : PySem.W.Frag} {X : ι → Cx} {W : WX} {N : List Str} {mg : Str → Option Value}
def eKGet (tb : List (Str × D)) (f g : Sm M S) : Sm M S := fun z => (opd f z).bind fun s z1 => (escf g z1).bind fun s' z2 => match rd z2 s, s' with
  | some (.str x), .d d0 => .ok (.d ((tb.lookup x).getD d0)) z2
  | _, _ => .bad
theorem de_kget {x : Str} {tb : List (Str × D)} {e e' : Expr} {f g : Sm M S} {p1 apos cpos : Pos} {w : World} (p : Pl K X N mg) (hw : ∀ j, (X j).w = w) (D : KDD K w.params mg x tb) (he : DE M xr K X W e f) (he' : DE M xr K X W e' g) (m : ∀ j, L2.M2 (X j) (.Name x p1) "get" apos e e' cpos) (hg : ∀ j, Gl (X j) x := by intro _; rfl) (hdb : (x == ("__debug__" : Str)) = false := by decide) :
    DE M xr K X W (.Call (.Attribute (.Name x p1) "get" apos) [e, e'] [] cpos) (eKGet tb f g) := by
  obtain ⟨d, es, n, hm, hl, hd, ed⟩ := D
  obtain ⟨t1, q1, c1⟩ := he
  obtain ⟨t2, q2, c2⟩ := he'
  refine ⟨tKGet es.toList t1 t2, fun j => pe_kget (by rw [p.k j]; exact hl) (by rw [hw j]; exact ed.lit) hd (hg j) (by rw [p.g j]; exact hm) (q1 j) (q2 j) (m j) hdb, fun G σ H F z Q hK hx ok hh => ?_⟩
  refine cmp_opd c1 G σ H F z _ hK hx ok (hit_bind hh fun s z1 v H1 F1 _ sm1 ok1 ev h1 => ?_)
  refine cmp_esc c2 G σ H1 F1 z1 _ hK hx ok1 (hit_bind h1 fun s' z2 v' H2 F2 _ sm2 ok2 ev2 h2 => ?_)
  cases e1 : rd z2 s with
  | none => rw [e1] at h2; exact h2.elim
  | some k =>
    rw [e1] at h2
    cases k with
    | str y =>
      cases s' with
      | d d0 =>
        simp only at h2
        have rv := EO.rv ok2 (EO.mono sm2 ev) e1
        have ey : v = .str y := by
          rcases rv with q | ⟨_, _, _, _, q, _⟩
          · cases q; rfl
          · cases q
        rcases ed.find y with ⟨dd, u, w', l1, l2, l3, l4⟩ | ⟨l1, l2⟩
        · rw [l1] at h2
          refine ⟨y, w', ey, ?_, h2 w' H2 F2 (Same.refl _) ok2 (by show Da G.K F2 w' dd; rw [hK]; exact l4 F2)⟩
          unfold EsV
          rw [l2]
          exact l3
        · rw [l1] at h2
          refine ⟨y, v', ey, ?_, h2 v' H2 F2 (Same.refl _) ok2 ev2⟩
          unfold EsV
          rw [l2]
      | _ => exact h2.elim
    | _ => exact h2.elim
/-- d[e] of a module's dict -/
def eKIx (tb : List (Str × D)) (f : Sm M S) : Sm M S := fun z => (opd f z).bind fun s z1 => match rd z1 s with
  | some (.str x) => (match tb.lookup x with
    | some d => .ok (.d d) z1
    | none => .bad)
  | _ => .bad
theorem de_kix {x : Str} {tb : List (Str × D)} {e : Expr} {f : Sm M S} {p1 pos : Pos} {w : World} (p : Pl K X N mg) (hw : ∀ j, (X j).w = w) (D : KDD K w.params mg x tb) (he : DE M xr K X W e f) (hg : ∀ j, Gl (X j) x := by intro _; rfl) (hdb : (x == ("__debug__" : Str)) = false := by decide) (hs : PlainIx e := by exact fun _ _ => rfl) :
    DE M xr K X W (.Subscript (.Name x p1) e pos) (eKIx tb f) := by
  obtain ⟨d, es, n, hm, hl, hd, ed⟩ := D
  obtain ⟨t1, q1, c1⟩ := he
  refine ⟨tOp (rIxD K w) (tC (.ref d)) t1, fun j => ?_, fun G σ H F z Q hK hx ok hh => ?_⟩
  · have q := pe_ix (X := X j) (a := .Name x p1) (pos := pos) ix_kdict (pe_glob (v := .ref d) (hg j) (by rw [p.g j]; exact hm) rfl hdb) (q1 j) hs
    rw [p.k j, hw j] at q
    exact q
  · show t1 σ H _
    refine cmp_opd c1 G σ H F z _ hK hx ok (hit_bind hh fun s z1 v H1 F1 _ sm1 ok1 ev h1 => ?_)
    cases e1 : rd z1 s with
    | none => rw [e1] at h1; exact h1.elim
    | some k =>
      rw [e1] at h1
      cases k with
      | str y =>
        have rv := EO.rv ok1 ev e1
        have ey : v = .str y := by
          rcases rv with q | ⟨_, _, _, _, q, _⟩
          · cases q; rfl
          · cases q
        rcases ed.find y with ⟨dd, u, w', l1, l2, l3, l4⟩ | ⟨l1, l2⟩
        · simp only [l1] at h1
          refine ⟨d, y, w', rfl, ey, ⟨es, n, u, hl, ed.lit, ?_, l3⟩, h1 w' H1 F1 (Same.refl _) ok1 (by show Da G.K F1 w' dd; rw [hK]; exact l4 F1)⟩
          unfold PySem.W.nsIn
          rw [hl]
          dsimp only
          have q : (fun d : DictEntry => d.key.isStr y) = fun d => Value.isStrOf y d.key := funext fun d => PySem.W.isStr_of y d.key
          rw [q]
          cases e2 : es.toList.find? fun e => Value.isStrOf y e.key with
          | none => rw [e2] at l2; cases l2
          | some e => rw [e2] at l2; cases l2; rfl
        · simp only [l1] at h1; exact h1.elim
      | _ => exact h1.elim
/-- x += e, x a local -/
def sAugI (i : Nat) (g : Int → Int → Int) (f : Sm M S) : Sm M Out := fun z => match z.rho[i]? with
  | some (some (.d (.int a))) => (opd f z).bind fun s z1 => match rd z1 s with
    | some (.int b) => .ok .nx { z1 with rho := z1.rho.set i (some (.d (.int (g a b)))) }
    | _ => .bad
  | _ => .bad
theorem ds_aug {i : Nat} {x : Str} {op : Operator} {g : Int → Int → Int} {e : Expr} {f : Sm M S} {p1 pos : Pos} (hN : ∀ j, (X j).N.Nodup) (hi : ∀ j, (X j).N[i]? = some x) (hx : ∀ j, Loc (X j).env.scope x) (hop : ∀ j, PIp (X j) op (ipI g)) (he : DE M xr K X W e f) (hf : ∀ j, (X j).fn x = true ∨ (X j).env.scope.names.lookup x = some .local := by first | exact fun _ => .inl rfl | exact fun _ => .inr rfl) :
    DS M xr K X W (.AugAssign (.Name x p1) op e pos) (sAugI i g f) := by
  obtain ⟨te, pe, ce⟩ := he
  refine ⟨tAug i te (ipI g), fun j => ps_aug (hN j) (hi j) (hx j) (pe j) (hop j) (hf j), fun G σ H F z D hK hx ok hh => ?_⟩
  unfold sAugI at hh
  split at hh
  · rename_i a ea
    obtain ⟨v, ev, dv⟩ := ok.slot i _ ea
    cases (show Da G.K F v (.int a) from dv)
    refine ⟨.int a, ev, ?_⟩
    refine cmp_opd ce G σ H F z _ hK hx ok (hits_bind hh fun s z1 w H1 F1 _ sm ok1 ew h1 => ?_)
    cases e1 : rd z1 s with
    | none => rw [e1] at h1; exact h1.elim
    | some b =>
      rw [e1] at h1
      cases b with
      | int b =>
        have ey : w = .int b := by
          rcases EO.rv ok1 ew e1 with q | ⟨_, _, _, _, q, _⟩
          · cases q; rfl
          · cases q
        subst ey
        refine ⟨a, b, rfl, rfl, ?_⟩
        exact h1 _ H1 F1 (Same.refl _) (ok1.set (Da.int _) (fun _ e => by cases e))
      | _ => exact h1.elim
  · exact hh.elim
end
/-! ### compared with the empty one -/
def rEq0 (K : PySem.W.Frag) (neg : Bool) : R2 := fun x y H Q => ∃ a b xs, x = .ref a ∧ y = .ref b ∧ ((SqT K H a xs ∧ SqT K H b []) ∨ (SqL K H a xs ∧ SqL K H b [])) ∧ Q (.bl (neg ^^ xs.isEmpty)) H
section
variable {X : Cx}
theorem all_nil (n : Nat) (e : Nat → Bool) (h : n = 0) : (List.range n).all e = true := by subst h; rfl
theorem op_eq0 (hu : X.A.units < cLine) : OpR X (compareOp .Eq) (rEq0 X.K false) := by
  intro pins s σ H x y v u Q I rx ry h
  obtain ⟨a, b, xs, rfl, rfl, k, q⟩ := h
  cases rx
  cases ry
  rcases k with ⟨k1, k2⟩ | ⟨k1, k2⟩
  · obtain ⟨its, rv, ⟨o, ho, hc, n, hd⟩, _⟩ := I.tuple k1
    obtain ⟨its2, rv2, ⟨o2, ho2, hc2, n2, hd2⟩, _⟩ := I.tuple k2
    cases rv2
    have hl := rv.length
    refine SeqAt.eq_tupleAt (e := fun _ => true) ⟨o, ho, hc, n, hd⟩ ⟨o2, ho2, hc2, n2, hd2⟩ hu (fun j _ j2 => absurd j2 (by simp)) ?_
    refine ⟨.bl xs.isEmpty, H, I, ?_, by rw [Bool.false_xor] at q; exact q⟩
    show Value.bool _ = Value.bool xs.isEmpty
    cases xs with
    | nil => cases rv; rfl
    | cons x r => cases rv; simp
  · obtain ⟨its, rv, ⟨o, n, ho, hc, e1, hd⟩, _⟩ := I.list k1
    obtain ⟨its2, rv2, ⟨o2, n2, ho2, hc2, e2, hd2⟩, _⟩ := I.list k2
    cases rv2
    cases xs with
    | nil =>
      cases rv
      refine SeqAt.eq_listAt (e := fun _ => true) ⟨o, ho, hc, n, hd⟩ ⟨o2, ho2, hc2, n2, hd2⟩ rfl hu (fun j _ j2 => absurd j2 (by simp)) ?_
      exact ⟨.bl true, H, I, by simp [L2.RelV], q⟩
    | cons x r =>
      cases rv
      refine SeqAt.eq_list_lengthsAt ⟨o, ho, hc, n, hd⟩ ⟨o2, ho2, hc2, n2, hd2⟩ (by simp) hu ?_
      exact ⟨.bl false, H, I, rfl, q⟩
theorem op_ne0 (hu : X.A.units < cLine) : OpR X (compareOp .NotEq) (rEq0 X.K true) := by
  intro pins s σ H x y v u Q I rx ry h
  obtain ⟨a, b, xs, rfl, rfl, k, q⟩ := h
  cases rx
  cases ry
  rcases k with ⟨k1, k2⟩ | ⟨k1, k2⟩
  · obtain ⟨its, rv, ⟨o, ho, hc, n, hd⟩, _⟩ := I.tuple k1
    obtain ⟨its2, rv2, ⟨o2, ho2, hc2, n2, hd2⟩, _⟩ := I.tuple k2
    cases rv2
    refine SeqAt.RcNeAt.tuples (e := fun _ => true) ⟨o, ho, hc, n, hd⟩ ⟨o2, ho2, hc2, n2, hd2⟩ hu (fun j _ j2 => absurd j2 (by simp)) _ _ _ _ ?_
    refine ⟨.bl (!xs.isEmpty), H, I, ?_, by rw [Bool.true_xor] at q; exact q⟩
    show Value.bool _ = Value.bool (!xs.isEmpty)
    cases xs with
    | nil => cases rv; rfl
    | cons x r => cases rv; simp
  · obtain ⟨its, rv, ⟨o, n, ho, hc, e1, hd⟩, _⟩ := I.list k1
    obtain ⟨its2, rv2, ⟨o2, n2, ho2, hc2, e2, hd2⟩, _⟩ := I.list k2
    cases rv2
    cases xs with
    | nil =>
      cases rv
      refine SeqAt.RcNeAt.lists (e := fun _ => true) ⟨o, ho, hc, n, hd⟩ ⟨o2, ho2, hc2, n2, hd2⟩ rfl hu (fun j _ j2 => absurd j2 (by simp)) _ _ _ _ ?_
      exact ⟨.bl false, H, I, by simp [L2.RelV], q⟩
    | cons x r =>
      cases rv
      refine SeqAt.RcNeAt.lists_lengths ⟨o, ho, hc, n, hd⟩ ⟨o2, ho2, hc2, n2, hd2⟩ (by simp) hu _ _ _ _ ?_
      exact ⟨.bl true, H, I, rfl, q⟩
end
def dEq0 (neg : Bool) : D → D → Option R := fun a b => match a, b with
  | .tup xs, .tup [] => some (.d (.bl (neg ^^ xs.isEmpty)))
  | .lst xs, .lst [] => some (.d (.bl (neg ^^ xs.isEmpty)))
  | _, _ => none
theorem op2_eq0 {K : PySem.W.Frag} {neg : Bool} : Op2 K (rEq0 K neg) (dEq0 neg) := by
  intro F H x y a b Q s hx hy h
  unfold dEq0 at h
  split at h
  · rename_i xs
    obtain ⟨p, vs, rfl, h1, h2⟩ := hx.tup s
    obtain ⟨q, us, rfl, g1, g2⟩ := hy.tup s
    cases g2
    have e : vs.isEmpty = xs.isEmpty := by cases h2 <;> rfl
    exact ⟨p, q, vs, rfl, rfl, .inl ⟨h1, g1⟩, by rw [e]; exact h _ (.bl _)⟩
  · rename_i xs
    obtain ⟨p, vs, rfl, h1, h2⟩ := hx.lst s
    obtain ⟨q, us, rfl, g1, g2⟩ := hy.lst s
    cases g2
    have e : vs.isEmpty = xs.isEmpty := by cases h2 <;> rfl
    exact ⟨p, q, vs, rfl, rfl, .inr ⟨SqL.of h1, SqL.of g1⟩, by rw [e]; exact h _ (.bl _)⟩
  · exact h.elim
section
variable {ι : Type} {M : MI} {xr : Str → Option Value} {K : PySem.W.Frag} {X : ι → Cx} {W : WX} {N : List Str} {mg : Str → Option Value}
theorem cp_eq0 (p : Pl K X N mg) : Cp K X .Eq (dEq0 false) := .mk _ (fun j => by rw [← p.k j]; exact op_eq0 (by have := p.u j; omega)) op2_eq0
theorem cp_ne0 (p : Pl K X N mg) : Cp K X .NotEq (dEq0 true) := .mk _ (fun j => by rw [← p.k j]; exact op_ne0 (by have := p.u j; omega)) op2_eq0
end
end G
/-! zip of a text and a tuple -/
namespace G
open PySem L2 PySem.Spec PyProof.Rows
/-- the signs of a text and the things of the tuple at b, pair by pair -/
def ItzX (K : PySem.W.Frag) (x : Str) (b : Addr) : It :=
  ⟨fun i H => ∃ (ys : List V) (y : V), SqT K H b ys ∧ i < x.cps.size ∧ ys[i]? = some y,
    fun i H v H' => ∃ T c y, v = .ref T ∧ H T = none ∧ H' = upd H T (.tup [.str ⟨#[c]⟩, y]) ∧ x.cps[i]? = some c ∧ ∀ ys, SqT K H b ys → ys[i]? = some y,
    fun i H => ∃ ys : List V, SqT K H b ys ∧ i ≤ x.cps.size ∧ i ≤ ys.length ∧ (i = x.cps.size ∨ i = ys.length)⟩
theorem turn_zipX {P : Program} {w : World} {K : PySem.W.Frag} {elts : List Expr} {kk : Nat} {tpos : Pos} {x : Str} {t : Tok} {b z TI TO i1 i2 : Addr} (S : ZipSep2 z TI TO i1 i2 [i1] [i2, b]) (hne : b ≠ i2) :
    Turn P w K (.Tuple elts kk tpos) (ItzX K x b) [z, TI, TO, i1, i2] z (fun i h => IsZip h z TI TO .none ∧ IsTupOf2 h TI (.ref i1) (.ref i2) ∧ (∃ p q, IsTupOf2 h TO p q) ∧ h.IsStrIter i1 (strIterType x) x t i ∧ h.IsTupleIter i2 b i) where
  mem := List.mem_cons_self
  obj := fun i h st c hc => by
    obtain ⟨hz, hI, ⟨p, q, hO⟩, ⟨o1, e1, _, d1⟩, ⟨o2, e2, _, d2⟩⟩ := st
    simp only [List.mem_cons, List.not_mem_nil, or_false] at hc
    rcases hc with rfl | rfl | rfl | rfl | rfl
    · exact ⟨_, hz, fun v k => nomatch k⟩
    · exact ⟨_, hI, fun v k => nomatch k⟩
    · exact ⟨_, hO, fun v k => nomatch k⟩
    · exact ⟨o1, e1, fun v k => by rw [d1] at k; cases k⟩
    · exact ⟨o2, e2, fun v k => by rw [d2] at k; cases k⟩
  keep := fun i h h' st k => by
    obtain ⟨hz, hI, ⟨p, q, hO⟩, ⟨o1, e1, r1⟩, h2⟩ := st
    exact ⟨k z (by simp) _ hz, k TI (by simp) _ hI, ⟨p, q, k TO (by simp) _ hO⟩, ⟨o1, k i1 (by simp) _ e1, r1⟩, h2.at fun o e => k i2 (by simp) o e⟩
  item := by
    intro X hP hw hK hc i pins s σ H E I hf st hg
    subst hP hw hK
    obtain ⟨hz, hI, ⟨p0, q0, hO⟩, h1, h2⟩ := st
    obtain ⟨ys, y, hqy, hx, hy⟩ := hg
    obtain ⟨its, rv, p, _⟩ := I.tuple hqy
    obtain ⟨u2, hu2, ru2⟩ := rv.get hy
    have hzl : z < s.heap.objs.size := Heap.lt_size hz
    have hh : X.A.in1.handled = none := I.ok.hd hc
    have pt : s.heap.IsTuple b its.toArray := p
    have hlt : i < its.toArray.size := by
      rw [List.size_toArray, ← rv.length]
      rcases Nat.lt_or_ge i ys.length with q | q
      · exact q
      · rw [List.getElem?_eq_none q] at hy; cases hy
    have D1 := Draws.text (prog := X.prog) (w := X.w) (A := X.A.in1) hh i1 x t
    have D2 := Draws.tuple (prog := X.prog) (w := X.w) (A := X.A.in1) hh i2 b hne its.toArray
    refine wpAny_pyNext_zipD2_item S D1 D2 hz hI hO h1 ⟨h2, pt⟩ hx hlt fun x1 x2 h' tk y1 y2 z' O' s1' s2' hT hsz hk => ?_
    obtain ⟨c, tc, hcx, rfl⟩ := y1
    have e2 : x2 = u2 := by
      have q : its[i]? = some x2 := by simpa using y2
      rw [hu2] at q
      exact (Option.some.inj q).symm
    subst e2
    refine ⟨_, rfl, wpAny_letOwnedTupleGo_zip (s := { s with heap := h', toks := tk }) z' fun h'' z'' sb => ?_⟩
    have hT2 : h''.get? s.heap.objs.size = some { cls := .type "tuple", data := .seq #[.str ⟨#[c]⟩ tc, x2] } := (sb.2 _ (Nat.ne_of_gt hzl)).trans hT
    have new : ObjOk X.prog X.w (upd H s.heap.objs.size (.tup [.str ⟨#[c]⟩, y])) h'' s.heap.objs.size (.tup [.str ⟨#[c]⟩, y]) :=
      ⟨by show 2 ≤ sizeLine; decide, [.str ⟨#[c]⟩ tc, x2], .cons ⟨_, rfl⟩ (.cons ru2 .nil), ⟨_, hT2, rfl, _, rfl⟩⟩
    have I1 : Inv X pins σ (upd H s.heap.objs.size (.tup [.str ⟨#[c]⟩, y])) { s with heap := h'', toks := tk } :=
      I.turnedNew (t' := tk) (ch := [z, TI, TO, i1, i2]) (fun a o hb q => (sb.2 a (fun k => hb (by simp [k]))).trans (hk a o (fun k => hb (by simp [k])) (fun k => hb (by simp [k])) (fun k => hb (by simp [k])) (fun k => hb (by simp [k])) q)) hf (Nat.le_refl _) new
    refine ⟨.ref s.heap.objs.size, _, I1, rfl, ⟨_, c, y, rfl, I.hok.fresh (Nat.le_refl _), rfl, hcx, fun l hl => by rw [I.tuple_inj hl hqy]; exact hy⟩, ⟨z'', ?_, ⟨.str ⟨#[c]⟩ tc, x2, ?_⟩, ?_, ?_⟩, fun a hm => ?_⟩
    · exact (sb.2 _ S.TIz).trans (hk _ _ S.TIz S.TITO S.TIi1 S.TIi2 hI)
    · exact (sb.2 _ S.TOz).trans O'
    · obtain ⟨o1, e1, r1⟩ := s1'
      exact ⟨o1, (sb.2 _ S.zi1.symm).trans e1, r1⟩
    · exact s2'.1.at fun o q => (sb.2 _ S.zi2.symm).trans q
    · have lt : a < s.heap.objs.size := by
        simp only [List.mem_cons, List.not_mem_nil, or_false] at hm
        rcases hm with rfl | rfl | rfl | rfl | rfl
        · exact hzl
        · exact Heap.lt_size hI
        · exact Heap.lt_size hO
        · obtain ⟨_, e1, _⟩ := h1; exact Heap.lt_size e1
        · obtain ⟨_, e2, _⟩ := h2; exact Heap.lt_size e2
      rw [upd_ne (Nat.ne_of_lt lt)]
      exact (hf a hm).1
  done := by
    intro X hP hw hK hc i pins s σ H E I hf st hg
    subst hP hw hK
    obtain ⟨hz, hI, ⟨p0, q0, hO⟩, h1, h2⟩ := st
    obtain ⟨ys, hqy, l1, l2, hend⟩ := hg
    obtain ⟨its, rv, p, _⟩ := I.tuple hqy
    have hh : X.A.in1.handled = none := I.ok.hd hc
    have pt : s.heap.IsTuple b its.toArray := p
    have e : its.toArray.size = ys.length := by rw [List.size_toArray, ← rv.length]
    have D1 := Draws.text (prog := X.prog) (w := X.w) (A := X.A.in1) hh i1 x t
    have D2 := Draws.tuple (prog := X.prog) (w := X.w) (A := X.A.in1) hh i2 b hne its.toArray
    exact wpAny_pyNext_zipD2_end S D1 D2 hz hI hO h1 ⟨h2, pt⟩ l1 (by rw [e]; exact l2) (by rw [e]; exact hend) fun h' tk hk => ⟨rfl, I.turnedL (t' := tk) (ch := [z, TI, TO, i1, i2]) (fun a o hb q =>
      hk a o (fun k => hb (by simp [k])) (fun k => hb (by simp [k])) (fun k => hb (by simp [k])) (fun k => hb (by simp [k])) q) hf⟩
  self := fun A i s Q E st h => wpAny_pyIter_zip st.1 h
theorem sep_of (n b : Nat) (bl : b < n) : ZipSep2 (n + 4) (n + 2) (n + 3) n (n + 1) [n] [n + 1, b] where
  TIz := show (n + 2 : Nat) ≠ n + 4 by omega
  TOz := show (n + 3 : Nat) ≠ n + 4 by omega
  TITO := show (n + 2 : Nat) ≠ n + 3 by omega
  TIi1 := show (n + 2 : Nat) ≠ n by omega
  mem1 := List.mem_cons_self
  zf1 := show (n + 4 : Nat) ∉ [n] by simp
  Tf1 := show (n + 3 : Nat) ∉ [n] by simp
  TIi2 := show (n + 2 : Nat) ≠ n + 1 by omega
  mem2 := List.mem_cons_self
  zf2 := show (n + 4 : Nat) ∉ [n + 1, b] by simp; omega
  Tf2 := show (n + 3 : Nat) ∉ [n + 1, b] by simp; omega
  sep1_2 := show (n : Nat) ∉ [n + 1, b] by simp; omega
  sep2_1 := show (n + 1 : Nat) ∉ [n] by simp
def iZipX (K : PySem.W.Frag) (ta : TA) : TI := fun σ H R => ta σ H fun vs H1 => ∃ x b ys, vs = [.str x, .ref b] ∧ SqT K H1 b ys ∧ R (ItzX K x b) H1
theorem pi_zipX {X : Cx} {e e2 : Expr} {ta : TA} {p pos tpos : Pos} {elts : List Expr} {kk : Nat} (hg : Gl X "zip") (hm : X.mg "zip" = none) (ha : PA X [e, e2] ta)
    (hs : starEach [e, e2] X.env = (false, eval e X.env) :: starEach [e2] X.env) (hpl : (backTo pos (starEach [e2] X.env)).any (·.1) = false) :
    PI X (.Tuple elts kk tpos) (.Call (.Name "zip" p) [e, e2] [] pos) (iZipX X.K ta) := by
  refine ⟨fun pins s σ H R I h => ?_⟩
  refine Call_ (ld_blt I hg hm PyProof.Rows.boot_zip (PyProof.Rows.callWith_type1 (thn (ha.run pos pins s σ H _ I h) fun us s1 ⟨vs, H1, I1, r1, q1⟩ => ?_) hs hpl))
  obtain ⟨x, b, ys, ex, hq, q1⟩ := q1
  subst ex
  cases r1 with
  | cons r rr =>
    cases rr with
    | cons r' rr =>
      cases rr
      obtain ⟨t, rfl⟩ := r
      cases r'
      obtain ⟨its, rv, p1, _⟩ := I1.tuple hq
      have pt : s1.heap.IsTuple b its.toArray := p1
      have bl : b < s1.heap.objs.size := by obtain ⟨o, ho, _⟩ := id pt; exact Heap.lt_size ho
      have fresh : ∀ c, c ∈ [s1.heap.objs.size + 4, s1.heap.objs.size + 2, s1.heap.objs.size + 3, s1.heap.objs.size, s1.heap.objs.size + 1] → FpOk X pins H1 c := fun c hcm => by
        have hle : s1.heap.objs.size ≤ c := by
          simp only [List.mem_cons, List.not_mem_nil, or_false] at hcm
          omega
        exact I1.fpOk hle (I1.hok.fresh hle)
      refine zip_begins2 (begins_text x t) (begins_tuple b its.toArray) trivial pt fun h' hz hI hO g1 g2 hsz hk => wpAny_pyIter_zip hz ?_
      have I2 : Inv X pins σ H1 { s1 with heap := h' } := I1.kept (t' := s1.toks) hk
      have sep : ZipSep2 (s1.heap.objs.size + 4) (s1.heap.objs.size + 2) (s1.heap.objs.size + 3) s1.heap.objs.size (s1.heap.objs.size + 1) [s1.heap.objs.size] [s1.heap.objs.size + 1, b] := by
        generalize s1.heap.objs.size = n at bl
        exact sep_of n b bl
      exact ⟨s1.heap.objs.size + 4, [s1.heap.objs.size + 4, s1.heap.objs.size + 2, s1.heap.objs.size + 3, s1.heap.objs.size, s1.heap.objs.size + 1], _, _, H1, rfl, I2, turn_zipX (t := t) sep (fun e => absurd bl (by rw [e]; exact Nat.not_lt.mpr (Nat.le_succ _))), ⟨hz, hI, ⟨_, _, hO⟩, ⟨_, g1, rfl, rfl⟩, ⟨_, g2, rfl, rfl⟩⟩, fresh, q1⟩
section
variable {ι : Type} {M : MI} {xr : Str → Option Value} {K : PySem.W.Frag} {X : ι → Cx} {W : WX} {N : List Str} {mg : Str → Option Value}
def sgnV (x : Str) : List V := x.cps.toList.map fun c => .str ⟨#[c]⟩
def sgnD (x : Str) : List D := x.cps.toList.map fun c => .str ⟨#[c]⟩
theorem da_sgn {F : Hp} (x : Str) : DaAll K F (sgnV x) (sgnD x) := by
  unfold sgnV sgnD
  generalize x.cps.toList = l
  induction l with
  | nil => exact .nil
  | cons c r ih => exact .cons (.str _) ih
def iZipXM (g : Sm M (List S)) : Sm M (List D) := fun z => (g z).bind fun ss z1 => match ss with
  | [.d (.str x), .d (.tup ys)] => .ok (zipD (sgnD x) ys) z1
  | _ => .bad
theorem di_zipX {elts : List Expr} {kk : Nat} {tpos pp pos : Pos} {e e2 : Expr} {g : Sm M (List S)} (p : Pl K X N mg) (hm : mg "zip" = none) (h : DA M xr K X W [e, e2] g) (hg : ∀ j, Gl (X j) "zip" := by intro _; rfl) (hs : ∀ j, starEach [e, e2] (X j).env = (false, eval e (X j).env) :: starEach [e2] (X j).env := by intro _; rfl) (hpl : ∀ j, (backTo pos (starEach [e2] (X j).env)).any (·.1) = false := by intro _; rfl) :
    DI M xr K X W (.Tuple elts kk tpos) (.Call (.Name "zip" pp) [e, e2] [] pos) (iZipXM g) := by
  obtain ⟨t, pa, c⟩ := h
  refine ⟨iZipX K t, fun j => by rw [← p.k j]; exact pi_zipX (hg j) (by rw [p.g j]; exact hm) (pa j) (hs j) (hpl j), fun G σ H F z Q hK hx ok hh => ?_⟩
  refine c G σ H F z _ hK hx ok (hit_bind hh fun ss z1 vs H1 F1 _ sm ok1 ea h1 => ?_)
  subst hK
  unfold RelA at ea
  split at h1
  · cases ea with
    | cons a0 b0 =>
      cases b0 with
      | cons b1 c0 =>
        cases c0
        rename_i x ys eg va vb
        have a' : Da G.K F1 va (.str x) := a0
        have b' : Da G.K F1 vb (.tup ys) := b1
        clear a0 b1
        cases a'
        cases b' with
        | tup q2 r2 =>
          rename_i b ws
          refine ⟨x, b, ws, rfl, ok1.sub.tup q2, h1 _ H1 F1 (Same.refl _) ok1 ?_⟩
          have l1 : (sgnD x).length = x.cps.size := by unfold sgnD; rw [List.length_map, Array.length_toList]
          have l2 : ws.length = ys.length := r2.length
          show Walk (ItzX G.K x b) (zipD (sgnD x) ys).length (fun H => SameX F1 H) (YD G.K F1 (zipD (sgnD x) ys))
          rw [zipD_len, l1]
          refine ⟨fun i H hi s => ⟨ws, ws[i]'(by omega), s.tup q2, by omega, by simp [show i < ws.length by omega]⟩, fun H s => ⟨ws, s.tup q2, by omega, by omega, by omega⟩, fun i H v H' hi s y => ?_⟩
          obtain ⟨T, c, y0, e1, e2, e3, e4, e5⟩ := y
          refine yd_zip (da_sgn x) r2 (x := .str ⟨#[c]⟩) ?_ (e5 ws (s.tup q2)) e1 e2 e3
          unfold sgnV
          rw [List.getElem?_map, Array.getElem?_toList, e4]
          rfl
  · exact h1.elim
end
end G
/-! repr of things with empty dicts in them -/
namespace G
open PySem L2 PySem.Spec PyProof.Rows
mutual
def toPyE : D → PyData
  | .non => .none
  | .bl b => .bool b
  | .int i => .int i
  | .str x => .str x
  | .tup xs => .tuple (toPyEs xs)
  | .lst xs => .list (toPyEs xs)
  | .scr ns => .list (ns.map PyData.int)
  | .emp => .dict []
  | .exc _ _ => .str ⟨#[4294967295]⟩
  | .o _ => .str ⟨#[4294967295]⟩
def toPyEs : List D → List PyData
  | [] => []
  | x :: r => toPyE x :: toPyEs r
end
mutual
def layE : D → Bool
  | .tup xs => layEs xs
  | .lst xs => layEs xs
  | .exc _ _ => false
  | .o _ => false
  | _ => true
def layEs : List D → Bool
  | [] => true
  | x :: r => layE x && layEs r
end
/-- the dict of modules stands below -/
def SysB (base : Heap) : Prop := ∃ mm, base.Ns sysModules mm
section
variable {X : Cx} {pins : List (Addr × Obj)} {σ : L2.St} {F H : Hp} {s : Shared}
theorem sys_dict (I : Inv X pins σ H s) (sb : SysB X.base) : ∃ o es ep, s.heap.get? sysModules = some o ∧ o.data = .dict es ep := by
  obtain ⟨mm, o, es, ep, e, d, _⟩ := sb
  exact ⟨o, es, ep, (I.env0.bs _ _ e).1, d⟩
theorem rd_ints {h : Heap} : ∀ {ns : List Int} {us : List Value}, Vals (ns.map V.int) us → ∃ as, ReadsAll h us (ns.map PyData.int) as ∧ as = []
  | [], _, r => by cases r; exact ⟨[], .nil, rfl⟩
  | n :: ns, _, r => by
    cases r with
    | cons a b =>
      obtain ⟨t, rfl⟩ := a
      obtain ⟨as, q, rfl⟩ := rd_ints b
      exact ⟨_, ReadsAll.cons (.int n t) q, rfl⟩
mutual
theorem Da.readsE (I : Inv X pins σ H s) (sb : SysB X.base) (sx : SameX F H) : ∀ {d : D} {v : V}, Da X.K F v d → layE d = true → ∀ {u : Value}, RelV v u → ∃ as, Reads s.heap u (toPyE d) as ∧ sysModules ∉ as
  | .non, _, h, _, u, r => by cases h; cases r; exact ⟨_, by rw [toPyE]; exact Reads.none, by simp⟩
  | .bl b, _, h, _, u, r => by cases h; cases r; exact ⟨_, by rw [toPyE]; exact Reads.bool b, by simp⟩
  | .int i, _, h, _, u, r => by cases h; obtain ⟨t, rfl⟩ := r; exact ⟨_, by rw [toPyE]; exact Reads.int i t, by simp⟩
  | .str x, _, h, _, u, r => by cases h; obtain ⟨t, rfl⟩ := r; exact ⟨_, by rw [toPyE]; exact Reads.str x t, by simp⟩
  | .tup ds, _, h, l, u, r => by
    cases h with
    | tup q hs =>
      cases r
      obtain ⟨its, rv, ⟨o, ho, hc, n, hd⟩, _⟩ := I.tuple (sx.tup q)
      obtain ⟨as, hr, na⟩ := DaAll.readsE I sb sx (ds := ds) hs (by rwa [layE] at l) rv
      exact ⟨as, by rw [toPyE]; exact Reads.tuple ho hc hd hr, na⟩
  | .lst ds, _, h, l, u, r => by
    cases h with
    | lst q hs =>
      cases r
      obtain ⟨its, rv, ⟨o, n, ho, hc, _, hd⟩, _⟩ := I.list (SqL.of (sx.lst q))
      obtain ⟨as, hr, na⟩ := DaAll.readsE I sb sx (ds := ds) hs (by rwa [layE] at l) rv
      refine ⟨_ :: as, by rw [toPyE]; exact Reads.list ho hc hd hr, fun m => ?_⟩
      rcases List.mem_cons.mp m with e | m
      · obtain ⟨o2, es, ep, e2, d2⟩ := sys_dict I sb
        rw [e, ho] at e2
        cases e2
        rw [hd] at d2
        cases d2
      · exact na m
  | .scr ns, _, h, _, u, r => by
    cases h with
    | scr q =>
      cases r
      obtain ⟨its, rv, ⟨o, n, ho, hc, _, hd⟩, _⟩ := I.list (sx.seq q)
      obtain ⟨as, hr, rfl⟩ := rd_ints (h := s.heap) rv
      refine ⟨[_], by rw [toPyE]; exact Reads.list ho hc hd hr, fun m => ?_⟩
      rcases List.mem_cons.mp m with e | m
      · obtain ⟨o2, es, ep, e2, d2⟩ := sys_dict I sb
        rw [e, ho] at e2
        cases e2
        rw [hd] at d2
        cases d2
      · cases m
  | .emp, _, h, _, u, r => by
    cases h with
    | emp q =>
      rename_i a
      cases r
      obtain ⟨_, hm, vs, kv, o, es, ep, ho, ex, hd, _, pr, _⟩ := dk_of I.hok (sx.emp q)
      cases kv
      have e0 : es.toList = [] := by
        generalize es.toList = l at pr
        cases pr
        rfl
      have hr := Reads.dict (h := s.heap) (kvs := []) ho ex.1 hd (by rw [e0]; exact .nil) (by rw [e0]; exact .nil)
      refine ⟨_, by rw [toPyE]; exact hr, fun m => ?_⟩
      have m' : sysModules = a := by simpa using m
      rw [m'] at hm
      exact absurd hm (by rw [beq_self_eq_true]; exact Bool.noConfusion)
  | .exc _ _, _, _, l, _, _ => by rw [layE] at l; cases l
  | .o _, _, _, l, _, _ => by rw [layE] at l; cases l
theorem DaAll.readsE (I : Inv X pins σ H s) (sb : SysB X.base) (sx : SameX F H) : ∀ {ds : List D} {vs : List V}, DaAll X.K F vs ds → layEs ds = true → ∀ {us : List Value}, Vals vs us → ∃ as, ReadsAll s.heap us (toPyEs ds) as ∧ sysModules ∉ as
  | [], _, h, _, us, r => by cases h; cases r; exact ⟨_, by rw [toPyEs]; exact ReadsAll.nil, by simp⟩
  | d :: ds, _, h, l, us, r => by
    rw [layEs, Bool.and_eq_true] at l
    cases h with
    | cons h1 h2 =>
      cases r with
      | cons r1 r2 =>
        obtain ⟨as, q1, n1⟩ := Da.readsE I sb sx (d := d) h1 l.1 r1
        obtain ⟨bs, q2, n2⟩ := DaAll.readsE I sb sx (ds := ds) h2 l.2 r2
        refine ⟨as ++ bs, by rw [toPyEs]; exact ReadsAll.cons q1 q2, fun m => ?_⟩
        rcases List.mem_append.mp m with m | m
        · exact n1 m
        · exact n2 m
end
end
def rReprE (K : PySem.W.Frag) : List V → Hp → VK → Prop := fun xs H Q => (xs = [.non] ∧ Q (.str "None") H) ∨ ∃ F a d, xs = [.ref a] ∧ SameX F H ∧ Rv K F H (.ref a) d ∧ layE d = true ∧ (toPyE d).showable = true ∧ (toPyE d).depth ≤ 290 ∧ (toPyE d).shown.length ≤ sizeLine ∧ Q (.str (toPyE d).shown) H
theorem call_reprE {X : Cx} (sb : SysB X.base) (hg : X.A.guards = some []) (hu : X.A.units + 300 < cLine) : CallR X (.builtin "repr") (rReprE X.K) := by
  intro pins s σ H xs us Q I r h
  rcases h with ⟨rfl, q⟩ | ⟨F, a, d, rfl, sx, hd, h1, h2, h3, h4, q⟩
  · cases r with
    | cons ru rt =>
      cases rt
      cases ru
      exact PySem.P.repr_of_none ⟨.str _, H, I.tok _, ⟨_, rfl⟩, q⟩
  cases r with
  | cons ru rt =>
    cases rt
    cases ru
    have hr : ∃ as, Reads s.heap (.ref a) (toPyE d) as ∧ sysModules ∉ as := by
      rcases hd with hd | ⟨b, vs, ys, e, rfl, e2, hs⟩
      · exact Da.readsE I sb sx hd h1 rfl
      · cases e
        obtain ⟨its, rv, ⟨o, n, ho, hc, _, hd⟩, _⟩ := I.list (SqL.of (K := X.K) e2)
        obtain ⟨as, hr, na⟩ := DaAll.readsE I sb sx hs (by rwa [layE] at h1) rv
        refine ⟨_ :: as, by rw [toPyE]; exact Reads.list ho hc hd hr, fun m => ?_⟩
        rcases List.mem_cons.mp m with e | m
        · obtain ⟨o2, es, ep, e2, d2⟩ := sys_dict I sb
          rw [e, ho] at e2
          cases e2
          rw [hd] at d2
          cases d2
        · exact na m
    obtain ⟨as, rr, na⟩ := hr
    exact repr_of_reads' rr h2 (fun _ => na) hg (by omega) (fun b o e => e) (fun h' u tk hk => ⟨.str _, H, I.kept hk, ⟨u, rfl⟩, q⟩) h4
def shwE (d : D) : Str := (toPyE d).shown
def showOkE (d : D) : Bool := layE d && ((toPyE d).showable && (decide ((toPyE d).depth ≤ 290) && decide ((shwE d).length ≤ 15000000)))
def fReprE : List D → Option R := fun as => match as with
  | [.non] => some (.d (.str "None"))
  | [.tup xs] => if showOkE (.tup xs) = true then some (.d (.str (shwE (.tup xs)))) else none
  | [.lst xs] => if showOkE (.lst xs) = true then some (.d (.str (shwE (.lst xs)))) else none
  | _ => none
theorem reprE_hit {K : PySem.W.Frag} {F H : Hp} {v : V} {d : D} {Q : VK} (s : SameX F H) (r : Rv K F H v d) (hv : ∃ a, v = .ref a) (h : Hit0 K F H (if showOkE d = true then some (.d (.str (shwE d))) else none) Q) : rReprE K [v] H Q := by
  obtain ⟨a, rfl⟩ := hv
  by_cases hs : showOkE d = true
  · rw [if_pos hs] at h
    unfold showOkE at hs
    rw [Bool.and_eq_true, Bool.and_eq_true, Bool.and_eq_true] at hs
    exact .inr ⟨F, a, d, rfl, s, r, hs.1, hs.2.1, of_decide_eq_true hs.2.2.1, (by have q : (toPyE d).shown.length ≤ 15000000 := of_decide_eq_true hs.2.2.2; rw [sizeLine_eq]; omega), h _ (.str _)⟩
  · rw [if_neg hs] at h
    exact h.elim
theorem opn_reprE {K : PySem.W.Frag} : OpN K (rReprE K) fReprE := by
  intro F H xs as Q s hp h
  match as, hp, h with
  | [.tup ds], hp, h =>
    obtain ⟨x, rfl, r⟩ := p1 hp
    obtain ⟨a, vs, rfl, _, _⟩ := r.tup s
    exact reprE_hit s r ⟨a, rfl⟩ h
  | [.lst ds], hp, h =>
    obtain ⟨x, rfl, r⟩ := p1 hp
    obtain ⟨a, vs, rfl, _, _⟩ := r.lst s
    exact reprE_hit s r ⟨a, rfl⟩ h
  | [], _, h => exact h.elim
  | [.non], hp, h =>
    obtain ⟨x, rfl, r⟩ := p1 hp
    have := r.da (fun _ q => by cases q)
    cases this
    exact .inl ⟨rfl, h _ (.str _)⟩
  | [.bl _], _, h => exact h.elim
  | [.int _], _, h => exact h.elim
  | [.str _], _, h => exact h.elim
  | [.scr _], _, h => exact h.elim
  | [.emp], _, h => exact h.elim
  | [.exc _ _], _, h => exact h.elim
  | [.o _], _, h => exact h.elim
  | .non :: _ :: _, _, h => exact h.elim
  | .bl _ :: _ :: _, _, h => exact h.elim
  | .int _ :: _ :: _, _, h => exact h.elim
  | .str _ :: _ :: _, _, h => exact h.elim
  | .tup _ :: _ :: _, _, h => exact h.elim
  | .lst _ :: _ :: _, _, h => exact h.elim
  | .scr _ :: _ :: _, _, h => exact h.elim
  | .emp :: _ :: _, _, h => exact h.elim
  | .exc _ _ :: _ :: _, _, h => exact h.elim
  | .o _ :: _ :: _, _, h => exact h.elim
section
variable {ι : Type} {P : Program} {w : World} {K : PySem.W.Frag} {mg : Str → Option Value} {base : Heap} {N : List Str} {W : WX} {n : Nat} {X : ι → Cx}
theorem fb_reprE (p : Pc P w K mg base N W n X) (sb : SysB base) : Fb K X "repr" fReprE := .fn "repr" (rReprE K) (fun j => by rw [← p.k j]; exact call_reprE (by rw [p.pb j]; exact sb) (p.gd j) (p.u j)) opn_reprE PyProof.Rows.boot_repr (by decide) (by decide)
end
/-- the law's own call, where its promise is asked at the caller alone -/
theorem lawGS {P : Program} {w : World} {K : PySem.W.Frag} {mg mb : Str → Option Value} {CX : CXT} {n : Nat} {fa a : Addr} {fd : FuncData} {x : Str} {sp : Sp} {s1 : Shared} {us : List Value} {ns : List Int} {mm : Str → Option Value} (sm : s1.heap.Ns sysModules mm) (inK : K.In s1.heap) (gs : s1.heap.Ns mainGlobals mg) (bs : s1.heap.Ns builtinsNs mb)
    (boot : ∀ x : Str, x ≠ "__name__" → mb x = bootBuiltins x) (nl : s1.heap.NoLimit) (ge : s1.gens = #[]) (oa : s1.heap.get? a = some { cls := .type "list", data := .seq us.toArray }) (hi : IntsAre us ns) (hl : ns.length ≤ sizeLine) (hr : Room n callerA)
    (F : ∀ bh : Heap, SysB bh → K.In bh → bh.Ns mainGlobals mg → FnG P w K mg bh CX n fa fd [x] sp) (hbd : ∀ (s : Shared) (u : Value), BindsTo s fd ⟨[u], []⟩ [(x, u)])
    (hsp : ∀ H : Hp, Only H → SqL K H a (ns.map V.int) → sp [.ref a] H (fun v _ => v = .bl true) fun _ _ _ => False) (noX : ∀ H e s', CX [] H s1 (fun _ _ _ => False) e s' → False) :
    codeAny (model P w) callerA (.call (.ref fa) ⟨[.ref a], []⟩) (fun r s' => r = .ok (.ret (.bool true)) ∧ OldK s1.heap s'.heap ∧ s'.os = s1.os ∧ AllBare s'.gens) s1 := by
  have vals := vals_ints hi
  have lens := hi.length
  have main : ∀ H : Hp, Only H → SqL K H a (ns.map V.int) → HOk P w H s1.heap → (∀ c, H c ≠ none → c = a) → (H a ≠ none → K.lookup a = none) → codeAny (model P w) callerA (.call (.ref fa) ⟨[.ref a], []⟩) (fun r s' => r = .ok (.ret (.bool true)) ∧ OldK s1.heap s'.heap ∧ s'.os = s1.os ∧ AllBare s'.gens) s1 := by
    intro H only sq hok at1 notK
    have keep : ∀ {c : Addr} {o : Obj}, s1.heap.get? c = some o → H c = none → (hidT s1.heap H).get? c = some o := fun e z => hidT_get e z
    have noDict : ∀ {c : Addr} {o : Obj} {es : Array DictEntry} {ep : Nat}, s1.heap.get? c = some o → o.data = .dict es ep → H c = none := by
      intro c o es ep e d
      rcases hq : H c with _ | u
      · rfl
      · have hc : c = a := at1 c (by rw [hq]; exact Option.some_ne_none u)
        rw [hc, oa] at e
        cases e
        exact Data.noConfusion (show Data.seq us.toArray _ = Data.dict es ep from d)
    have nsOf : ∀ {c : Addr} {m : Str → Option Value}, s1.heap.Ns c m → (hidT s1.heap H).Ns c m := fun ⟨o, es, ep, e, d, r⟩ => ⟨o, es, ep, keep e (noDict e d), d, r⟩
    have inB : K.In (hidT s1.heap H) := by
      intro c o e
      refine keep (inK c o e) ?_
      rcases hq : H c with _ | u
      · rfl
      · have hc : c = a := at1 c (by rw [hq]; exact Option.some_ne_none u)
        rw [hc, notK (by rw [← hc, hq]; exact Option.some_ne_none u)] at e
        cases e
    have md : Mod K mg (hidT s1.heap H) := ⟨inB, nsOf gs, ⟨mb, nsOf bs, boot⟩, by obtain ⟨mc, q1, q2⟩ := nl; exact ⟨mc, nsOf q1, q2⟩⟩
    have env : Env0 P w K mg (hidT s1.heap H) callerA [] s1 H := ⟨rfl, md, fun c o e => of_hidT e, Nat.le_of_eq (hidT_size _ _), trivial, fun c hc => (List.not_mem_nil (show c ∈ ([] : List Addr) from hc)).elim, hok, .of_eq ge⟩
    apply codeAny_mono ((F _ ⟨mm, nsOf sm⟩ inB (nsOf gs)).run callerA [] s1 H ⟨[.ref a], []⟩ [.ref a] [.ref a] _ _ hr rfl env (hbd s1 (.ref a)) (.cons rfl .nil) (hsp H only sq))
    intro r s' h
    match r, h with
    | .error e, h => exact (noX H e s' h).elim
    | .ok .next, h => exact h.elim
    | .ok .brk, h => exact h.elim
    | .ok .cont, h => exact h.elim
    | .ok (.ret u), h =>
      obtain ⟨v, H', os, bare, un, hok', rv, q⟩ := h
      cases (show v = .bl true from q)
      cases (show u = Value.bool true from rv)
      refine ⟨rfl, OldK.of_keep ?_, os, bare⟩
      intro c o e
      rcases hq : H c with _ | u
      · exact un.keep c o e hq (fun z => (List.not_mem_nil (show c ∈ ([] : List Addr) from z)).elim) (List.not_mem_nil)
      · rcases only c with z | ⟨ob, xs, z⟩
        · exact absurd (hq.symm.trans z) (Option.some_ne_none u)
        · obtain ⟨q1, _⟩ := hok c _ z
          obtain ⟨q2, _⟩ := hok' c _ (un.frzs c ob _ z)
          have : o = ob := Option.some.inj (e.symm.trans q1)
          rw [this]
          exact q2
  rcases hk : K.lookup a with _ | o
  · refine main (fun c => if c = a then some (.frz { cls := .type "list", data := .seq us.toArray } (.lst (ns.map V.int))) else none) ?_ (.inl (.inr ⟨{ cls := .type "list", data := .seq us.toArray }, if_pos rfl⟩)) ?_ ?_ (fun _ => hk)
    · intro c
      by_cases hc : c = a
      · exact Or.inr ⟨_, _, if_pos hc⟩
      · exact Or.inl (if_neg hc)
    · intro c u z
      by_cases hc : c = a
      · cases (if_pos hc).symm.trans z
        rw [hc]
        exact ⟨oa, by rw [List.length_map]; exact hl, us, _, vals, oa⟩
      · cases (if_neg hc).symm.trans z
    · intro c z
      by_cases hc : c = a
      · exact hc
      · exact absurd (if_neg hc) z
  · have e := inK a o hk
    rw [oa] at e
    cases e
    exact main (fun _ => none) (fun _ => .inl rfl) (.inr ⟨_, us.toArray, _, hk, rfl, rfl, rfl, by rw [List.size_toArray, lens]; exact hl, by simpa using vals⟩) (fun c u z => by cases (show (none : Option HO) = some u from z)) (fun c z => absurd rfl z) (fun z => absurd rfl z)
theorem walkGS {l : PySem.W.OpenLaw} {m n : Nat} {q : Program} {loose : List Str} {XP : (Str → Option Value) → Heap → Prop} {YP : World → Heap → Prop} {d : DefRec} {K : Params → PySem.W.Frag} {CX : World → CXT} {sp : World → Sp} {x : Str} (hi : importsNone q = true) (hm : l.most = some m) (hm2 : m ≤ sizeLine) (hdf : d.params.defaults = []) (hr : Room n callerA) (hY : ∀ (w : World) (h : Heap), YP w h → (K w.params).In h)
    (F : ∀ (w : World) (mg : Str → Option Value) (fa : Addr) (h : Heap), (K w.params).In h → h.Ns mainGlobals mg → mg d.name = some (.ref fa) → ∃ fd : FuncData, (∀ (s : Shared) (u : Value), BindsTo s fd ⟨[u], []⟩ [(x, u)]) ∧ ∀ bh : Heap, SysB bh → (K w.params).In bh → bh.Ns mainGlobals mg → FnG l.prog w (K w.params) mg bh (CX w) n fa fd [x] (sp w))
    (hsp : ∀ (w : World) (H : Hp) (a : Addr) (ns : List Int), ns.length ≤ m → (∀ z ∈ ns, Builtin.Int.intBits z ≤ 1048576) → Only H → SqL (K w.params) H a (ns.map V.int) → sp w [.ref a] H (fun v _ => v = .bl true) fun _ _ _ => False)
    (noX : ∀ (w : World) (H : Hp) (s : Shared) (e : Value) (s' : Shared), CX w [] H s (fun _ _ _ => False) e s' → False) : PySem.W.WalkO q loose XP YP l.row.toRowW d [] (fun f vs => PySem.call f vs) := by
  apply Att.attach_callB hm hdf
  intro w s0 s1 mg mb fa o pm cd doc a us ns gr Y ho hd hcd hmg oa hi' hlen hbits hg
  have inK := hY w _ Y
  obtain ⟨fd, hb, hF⟩ := F w mg fa _ inK gr.T.g hmg
  obtain ⟨mm, hmm, _⟩ := (gr.T.seer hi).mods
  exact lawGS hmm inK gr.T.g gr.T.b gr.T.builtins gr.T.nolimit hg oa hi' (Nat.le_trans hlen hm2) hr hF hb (fun H hO hS => hsp w H a ns hlen hbits hO hS) (fun H e s' => noX w H s1 e s')
end G
/-! max(list of ints, default=k) -/
namespace G
open PySem L2 PySem.Spec PyProof.Rows
def maxK (k : Int) : List Int → Int
  | [] => k
  | n :: r => r.foldl max n
def rMaxK (K : PySem.W.Frag) : List V → List V → Hp → VK → Prop := fun xs zs H Q => ∃ (a : Addr) (ns : List Int) (k : Int), xs = [.ref a] ∧ zs = [.int k] ∧ SqL K H a (ns.map V.int) ∧ Q (.int (maxK k ns)) H
theorem alike_ints (ns : List Int) : PySem.W.AlikeAll (ns.map PyData.int) := by
  refine ⟨fun x hx y hy => ?_, fun x hx e => ?_⟩
  · obtain ⟨i, _, rfl⟩ := List.mem_map.mp hx
    obtain ⟨j, _, rfl⟩ := List.mem_map.mp hy
    rfl
  · obtain ⟨i, _, rfl⟩ := List.mem_map.mp hx
    cases e
theorem call_maxK {X : Cx} (hc : X.calm = true) (hu : X.A.units + 300 < cLine) : CallRK X (.builtin "max") ["default"] (rMaxK X.K) := by
  intro pins s σ H xs zs us ws Q I r1 r2 h
  obtain ⟨a, ns, k, rfl, rfl, hs, q⟩ := h
  cases r1 with
  | cons r rr =>
    cases rr
    cases r
    cases r2 with
    | cons r' rr =>
      cases rr
      obtain ⟨t, rfl⟩ := r'
      obtain ⟨its, rv, hl, _⟩ := I.list hs
      obtain ⟨as, hr, _⟩ := rd_ints (h := s.heap) rv
      have hd : PyData.depthAll (ns.map PyData.int) = 0 := dep_ints ns
      refine PySem.W.max_list_default (I.ok.hd hc) (xs := ns.map PyData.int) hl.isList (by simpa using hr) (alike_ints ns) (by rw [hd]; omega) (fun e h' tk hk => ?_) (fun y ys i v h' tk bs e hv rd hk => ?_)
      · have e0 : ns = [] := by cases ns with
          | nil => rfl
          | cons _ _ => cases e
        subst e0
        exact ⟨.int k, H, I.kept hk, ⟨t, rfl⟩, q⟩
      · cases ns with
        | nil => cases e
        | cons n r =>
          cases e
          rw [PySem.W.maxD_ints] at rd
          cases rd with
          | int i t => exact ⟨.int _, H, I.kept hk, ⟨t, rfl⟩, q⟩
def fMaxK (k : Int) : List D → Option R := fun as => match as with
  | [.lst xs] => (intsOf xs).map fun ns => .d (.int (maxK k ns))
  | _ => none
theorem opn_maxK {K : PySem.W.Frag} {k : Int} : OpN K (fun xs H Q => rMaxK K xs [.int k] H Q) (fMaxK k) := by
  intro F H xs as Q s hp h
  unfold fMaxK at h
  split at h
  · rename_i ds
    obtain ⟨x, rfl, r⟩ := p1 hp
    obtain ⟨a, vs, rfl, h1, h2⟩ := r.lst s
    cases e : intsOf ds with
    | none => rw [e] at h; exact h.elim
    | some ns =>
      rw [e] at h
      have q := da_ints h2 e
      subst q
      exact ⟨a, ns, k, rfl, rfl, SqL.of h1, h _ (.int _)⟩
  · exact h.elim
section
variable {ι : Type} {M : MI} {xr : Str → Option Value} {K : PySem.W.Frag} {X : ι → Cx} {W : WX} {N : List Str} {mg : Str → Option Value}
theorem de_maxK {k : Int} {e e2 : Expr} {f : Sm M (List S)} {pp pos kp : Pos} (p : Pl K X N mg) (hm : mg "max" = none) (h : DA M xr K X W [e] f) (h2 : ∀ j, PE (X j) e2 (tC (.int k))) (hg : ∀ j, Gl (X j) "max" := by intro _; rfl)
    (he : ∀ j, backTo pos (starEach [e] (X j).env) = (false, eval e (X j).env) :: backTo pos (starEach [] (X j).env) := by intro _; rfl) (hpl : ∀ j, (backTo pos (starEach [e] (X j).env)).any (·.1) = false := by intro _; rfl)
    (hall : ∀ j, (backToKw pos (keywordEach [⟨some "default", e2, kp⟩] (X j).env)).all (·.1.isSome) = true := by intro _; rfl) (hnone : ∀ j, (backToKw pos (keywordEach [⟨some "default", e2, kp⟩] (X j).env)).any (·.1.isNone) = false := by intro _; rfl) (hks : ∀ j, (backToKw pos (keywordEach [⟨some "default", e2, kp⟩] (X j).env)).filterMap (·.1) = [("default" : Str)] := by intro _; rfl) :
    DE M xr K X W (.Call (.Name "max" pp) [e] [⟨some "default", e2, kp⟩] pos) (eFn (fMaxK k) f) := by
  obtain ⟨t, pa, c⟩ := h
  exact ⟨_, fun j => pe_callBK (ks := ["default"]) (r := rMaxK K) (by rw [← p.k j]; exact call_maxK (p.c j) (p.u j)) (hg j) (by rw [p.g j]; exact hm) PyProof.Rows.boot_max (pa j) (pk_cons (nm := some "default") (kpos := kp) (h2 j) pk_nil) (by decide) (by decide) (he j) (hpl j) (hall j) (hnone j) (hks j), cmp_fn (opn_maxK (K := K) (k := k)) c⟩
end
end G
namespace L
open PySem L2 G
def topS (i : Nat) : Stmt := PySem.Challenge.pw_groundroom_k10_forms_of_grounds.main.body.getD i (.Pass ⟨0, 0, 0, 0⟩)
abbrev s_inner : Stmt := topS 5
abbrev s_many_in : Stmt := topS 6
abbrev s__law_cell : Stmt := topS 8
abbrev s__law_signs : Stmt := topS 9
abbrev s__law_within : Stmt := topS 10
abbrev s__law_counted : Stmt := topS 11
abbrev s__law_odd : Stmt := topS 12
abbrev s__law_form : Stmt := topS 13
abbrev s__law_sized : Stmt := topS 14
abbrev s__law_told_right : Stmt := topS 15
abbrev s__law_bounds_right : Stmt := topS 16
abbrev s__law_deep_right : Stmt := topS 17
abbrev s_law : Stmt := topS 18
inductive Fn where
  | inner
  | many_in
  | _law_cell
  | _law_signs
  | _law_within
  | _law_counted
  | _law_odd
  | _law_form
  | _law_sized
  | _law_told_right
  | _law_bounds_right
  | _law_deep_right
def c_MOST_DEEP : D := (.int 150)
def c_MOST_GROUNDS : D := (.int 4000)
def t_SIZES : List (Str × D) := [("held", D.int 2), ("use", D.int 2), ("pair", D.int 3), ("first", D.int 2), ("second", D.int 2), ("either", D.int 3), ("other", D.int 3), ("cases", D.int 4), ("take", D.int 3), ("give", D.int 3), ("void", D.int 3), ("twice", D.int 2), ("each", D.int 3), ("at", D.int 3), ("some", D.int 5), ("open", D.int 3), ("alike", D.int 2), ("swap", D.int 4), ("members", D.int 4), ("unlike", D.int 3), ("fold", D.int 4), ("unfold", D.int 2)]
def t_SPOTS : List (Str × D) := [("held", D.tup []), ("use", D.tup []), ("pair", D.tup [D.int 1, D.int 2]), ("first", D.tup [D.int 1]), ("second", D.tup [D.int 1]), ("either", D.tup [D.int 1]), ("other", D.tup [D.int 2]), ("cases", D.tup [D.int 1, D.int 2, D.int 3]), ("take", D.tup [D.int 2]), ("give", D.tup [D.int 1, D.int 2]), ("void", D.tup [D.int 1]), ("twice", D.tup [D.int 1]), ("each", D.tup [D.int 2]), ("at", D.tup [D.int 1]), ("some", D.tup [D.int 4]), ("open", D.tup [D.int 1, D.int 2]), ("alike", D.tup []), ("swap", D.tup [D.int 2, D.int 3]), ("unlike", D.tup []), ("fold", D.tup [D.int 3]), ("unfold", D.tup [D.int 1])]
abbrev lawLevel : Nat := 200
abbrev whileN : Nat := 1000000000
def m_inner (call : Fn → List S → (List MO) → Rs S (List MO)) : Sm MX Out :=
    (sSeq (sIf (tOrM (tNotM (tTru dTru (eUn (dIsiN "tuple") (eVar 0)))) (tOrM (tOf (eBin (dEq0 false) (eVar 0) (eTup aNil))) (tNotM (tTru dTru (eUn (dIsiN "str") (eBin dIx (eVar 0) (eC (.int 0)))))))) (sRet (eC .non)) sNil)
    (sSeq (sIf (tOf (eBin dNe (eKGet t_SIZES (eBin dIx (eVar 0) (eC (.int 0))) (eC (.int 0))) (eFn fLen (aCons (opd (eVar 0)) aNil)))) (sRet (eC .non)) sNil)
    (sSeq (sIf (tOf (eBin dEq (eBin dIx (eVar 0) (eC (.int 0))) (eC (.str "members")))) (sRet (eIf (tTru dTru (eUn (dIsiN "tuple") (eBin dIx (eVar 0) (eC (.int 3))))) (eFn fList (aCons (opd (eBin dIx (eVar 0) (eC (.int 3)))) aNil)) (eC .non))) sNil)
    (sRet (eLc (iAnyM (eKIx t_SPOTS (eBin dIx (eVar 0) (eC (.int 0))))) (kName 1) (fun z => .ok true z) (eBin dIx (eVar 0) (eVar 1)) [1])))))
def m_many_in (call : Fn → List S → (List MO) → Rs S (List MO)) : Sm MX Out :=
    (sSeq (sSet 1 (eC (.int 0)))
    (sSeq (sSet 2 (eC (.int 0)))
    (sSeq (sSet 3 (eLst (aCons (escf (eTup (aCons (escf (eVar 0)) (aCons (escf (eC (.int 1))) aNil)))) aNil)))
    (sSeq (sWhile (tOf (eBin (dEq0 true) (eVar 3) (eLst aNil))) (sSeq (sAsg (ePop 3) (kTup 2 (ksCons (kName 4) (ksCons (kName 5) ksNil))))
    (sSeq (sSet 6 (eCall (call .inner) (aCons (escf (eVar 4)) aNil)))
    (sSeq (sIf (tOf (eBin dIsNot (eVar 6) (eC .non))) (sSeq (sAugI 1 (fun a b => a + b) (eC (.int 1)))
    (sSeq (sSet 2 (eFn fMax (aCons (opd (eVar 2)) (aCons (opd (eVar 5)) aNil))))
    (sExpr (eExt 3 (eLc (iAnyM (eVar 6)) (kName 7) (fun z => .ok true z) (eTup (aCons (escf (eVar 7)) (aCons (escf (eBin dAdd (eVar 5) (eC (.int 1)))) aNil))) [7]))))) sNil)
    (sIf (tOrM (tOf (eBin dGt (eVar 1) (eC c_MOST_GROUNDS))) (tOf (eBin dGt (eVar 2) (eC c_MOST_DEEP)))) (sRet (eTup (aCons (escf (eBin dAdd (eC c_MOST_GROUNDS) (eC (.int 1)))) (aCons (escf (eBin dAdd (eC c_MOST_DEEP) (eC (.int 1)))) aNil)))) sNil)))) whileN)
    (sRet (eTup (aCons (escf (eVar 1)) (aCons (escf (eVar 2)) aNil))))))))
def m__law_cell (call : Fn → List S → (List MO) → Rs S (List MO)) : Sm MX Out :=
    (sSeq (sLPutM (eBin dAdd (eIxO (eVar 1) (eC (.int 0))) (eC (.int 1))) (eVar 1) (eC (.int 0)))
    (sSeq (sSet 2 (eIxO (eVar 1) (eC (.int 0))))
    (sSeq (sSet 3 (eBin dAdd (eBin dMul (eBin dMul (eC (.int 31)) (eVar 2)) (eVar 2)) (eBin dMul (eC (.int 7919)) (eVar 2))))
    (sSeq (sIf (tOf (eBin dGt (eFn fLen (aCons (opd (eVar 0)) aNil)) (eC (.int 0)))) (sSeq (sSet 4 (eBin dIx (eVar 0) (eBin dMod (eVar 2) (eFn fLen (aCons (opd (eVar 0)) aNil)))))
    (sSeq (sSet 3 (eBin dAdd (eVar 3) (eBin dMul (eVar 4) (eBin dAdd (eC (.int 1)) (eBin dFdiv (eVar 2) (eFn fLen (aCons (opd (eVar 0)) aNil)))))))
    (sIf (tAndM (tOf (eBin dGe (eVar 4) (eBin dPow (eC (.int 10)) (eC (.int 18))))) (tOf (eBin dLt (eBin dFdiv (eVar 2) (eFn fLen (aCons (opd (eVar 0)) aNil))) (eC (.int 60))))) (sSeq (sFor (iRg1M (aCons (opd (eBin dFdiv (eVar 2) (eFn fLen (aCons (opd (eVar 0)) aNil)))) aNil)) (kName 5) (sSet 4 (eBin dFdiv (eVar 4) (eC (.int 306783379)))))
    (sIf (tOf (eBin dGt (eVar 4) (eC (.int 0)))) (sRet (eBin dMod (eVar 4) (eC (.int 306783379)))) sNil)) sNil))) sNil)
    (sRet (eBin dFdiv (eBin dMod (eBin dMul (eBin dMod (eBin dMul (eVar 3) (eC (.int 48271))) (eC (.int 2147483647))) (eC (.int 69621))) (eC (.int 2147483629))) (eC (.int 7))))))))
def m__law_signs (call : Fn → List S → (List MO) → Rs S (List MO)) : Sm MX Out :=
    (sSeq (sSet 1 (eDisp [("held", "n"), ("use", "n"), ("pair", "gg"), ("first", "g"), ("second", "g"), ("either", "gn"), ("other", "ng")]))
    (sSeq (sExpr (eDUpd (eVar 1) (eDisp [("cases", "ggg"), ("take", "ng"), ("give", "gg"), ("void", "gn"), ("twice", "g"), ("each", "ng"), ("at", "gn")])))
    (sSeq (sExpr (eDUpd (eVar 1) (eDisp [("some", "nnng"), ("open", "gg"), ("alike", "n"), ("swap", "ngg"), ("members", "nnm"), ("unlike", "nn")])))
    (sSeq (sExpr (eDUpd (eVar 1) (eDisp [("fold", "nng"), ("unfold", "g")])))
    (sRet (eDGet2 (eVar 1) (eVar 0) (eC (.str ""))))))))
def m__law_within (call : Fn → List S → (List MO) → Rs S (List MO)) : Sm MX Out :=
    (sSeq (sIf (tOrM (tNotM (tTru dTru (eUn (dIsiN "tuple") (eVar 0)))) (tOrM (tOf (eBin (dEq0 false) (eVar 0) (eTup aNil))) (tNotM (tTru dTru (eUn (dIsiN "str") (eBin dIx (eVar 0) (eC (.int 0)))))))) (sRet (eC .non)) sNil)
    (sSeq (sSet 1 (eCall (call ._law_signs) (aCons (escf (eBin dIx (eVar 0) (eC (.int 0)))) aNil)))
    (sSeq (sIf (tOrM (tOf (eBin dEq (eVar 1) (eC (.str "")))) (tOf (eBin dNe (eFn fLen (aCons (opd (eVar 0)) aNil)) (eBin dAdd (eFn fLen (aCons (opd (eVar 1)) aNil)) (eC (.int 1)))))) (sRet (eC .non)) sNil)
    (sSeq (sIf (tOf (eBin dIn (eC (.str "m")) (eVar 1))) (sRet (eIf (tTru dTru (eUn (dIsiN "tuple") (eBin dIx (eVar 0) (eC (.int 3))))) (eFn fList (aCons (opd (eBin dIx (eVar 0) (eC (.int 3)))) aNil)) (eC .non))) sNil)
    (sRet (eLc (iZipXM (aCons (escf (eVar 1)) (aCons (escf (eSl dSl (eVar 0) (oInt (eC (.int 1))) (fun z => .ok none z))) aNil))) (kTup 2 (ksCons (kName 2) (ksCons (kName 3) ksNil))) (tOf (eBin dEq (eVar 2) (eC (.str "g")))) (eVar 3) [2, 3]))))))
def m__law_counted (call : Fn → List S → (List MO) → Rs S (List MO)) : Sm MX Out :=
    (sSeq (sSet 1 (eCall (call ._law_within) (aCons (escf (eVar 0)) aNil)))
    (sSeq (sIf (tOf (eBin dIs (eVar 1) (eC .non))) (sRet (eTup (aCons (escf (eC (.int 0))) (aCons (escf (eC (.int 0))) aNil)))) sNil)
    (sSeq (sSet 2 (eLc (iAnyM (eVar 1)) (kName 3) (fun z => .ok true z) (eCall (call ._law_counted) (aCons (escf (eVar 3)) aNil)) [3]))
    (sRet (eTup (aCons (escf (eBin dAdd (eC (.int 1)) (eFn fSum (aCons (opd (eLc (iAnyM (eVar 2)) (kTup 2 (ksCons (kName 4) (ksCons (kName 5) ksNil))) (fun z => .ok true z) (eVar 4) [4, 5])) aNil)))) (aCons (escf (eBin dAdd (eC (.int 1)) (eFn (fMaxK 0) (aCons (opd (eLc (iAnyM (eVar 2)) (kTup 2 (ksCons (kName 4) (ksCons (kName 5) ksNil))) (fun z => .ok true z) (eVar 5) [4, 5])) aNil)))) aNil)))))))
def m__law_odd (call : Fn → List S → (List MO) → Rs S (List MO)) : Sm MX Out :=
    (sSeq (sSet 1 (eLst (aCons (escf (eC .non)) (aCons (escf (eC (.int 5))) (aCons (escf (eC (.bl true))) (aCons (escf (eC (.str "held"))) (aCons (escf (eLst (aCons (escf (eTup (aCons (escf (eC (.str "held"))) (aCons (escf (eC (.int 0))) aNil)))) aNil))) (aCons (escf (eC .emp)) (aCons (escf (eTup aNil)) (aCons (escf (eTup (aCons (escf (eC (.str "held"))) aNil))) (aCons (escf (eTup (aCons (escf (eC (.str "held"))) (aCons (escf (eC (.int 0))) (aCons (escf (eC (.int 1))) aNil))))) (aCons (escf (eTup (aCons (escf (eC (.str "Held"))) (aCons (escf (eC (.int 0))) aNil)))) (aCons (escf (eTup (aCons (escf (eC (.int 5))) (aCons (escf (eC (.int 0))) aNil)))) (aCons (escf (eC (.str "pair"))) aNil))))))))))))))
    (sSeq (sSet 1 (eBin dAdd (eVar 1) (eLst (aCons (escf (eTup (aCons (escf (eC (.str "members"))) (aCons (escf (eC (.str "s"))) (aCons (escf (eTup (aCons (escf (eC (.str "no"))) aNil))) (aCons (escf (eLst (aCons (escf (eTup (aCons (escf (eC (.str "held"))) (aCons (escf (eC (.int 0))) aNil)))) aNil))) aNil)))))) (aCons (escf (eTup (aCons (escf (eC (.str "members"))) (aCons (escf (eC (.str "s"))) (aCons (escf (eTup (aCons (escf (eC (.str "no"))) aNil))) aNil))))) (aCons (escf (eTup (aCons (escf (eTup (aCons (escf (eTup (aCons (escf (eC (.str "held"))) (aCons (escf (eC (.int 0))) aNil)))) aNil))) (aCons (escf (eC (.int 1))) aNil)))) (aCons (escf (eTup (aCons (escf (eC (.str "no"))) aNil))) aNil)))))))
    (sRet (eBin dIx (eVar 1) (eBin dMod (eVar 0) (eC (.int 16)))))))
def m__law_form (call : Fn → List S → (List MO) → Rs S (List MO)) : Sm MX Out :=
    (sSeq (sSet 3 (eCall (call ._law_cell) (aCons (escf (eVar 0)) (aCons (escf (eVar 1)) aNil))))
    (sSeq (sIf (tOf (eBin dEq (eBin dMod (eVar 3) (eC (.int 11))) (eC (.int 0)))) (sRet (eCall (call ._law_odd) (aCons (escf (eBin dFdiv (eVar 3) (eC (.int 11)))) aNil))) sNil)
    (sSeq (sSet 4 (eLst (aCons (escf (eC (.str "held"))) (aCons (escf (eC (.str "use"))) (aCons (escf (eC (.str "alike"))) (aCons (escf (eC (.str "unlike"))) aNil))))))
    (sSeq (sIf (tOf (eBin dGt (eVar 2) (eC (.int 0)))) (sSeq (sSet 4 (eLst (aCons (escf (eC (.str "pair"))) (aCons (escf (eC (.str "first"))) (aCons (escf (eC (.str "second"))) (aCons (escf (eC (.str "either"))) (aCons (escf (eC (.str "other"))) (aCons (escf (eC (.str "cases"))) (aCons (escf (eC (.str "take"))) (aCons (escf (eC (.str "give"))) (aCons (escf (eC (.str "void"))) (aCons (escf (eC (.str "twice"))) (aCons (escf (eC (.str "each"))) (aCons (escf (eC (.str "at"))) aNil))))))))))))))
    (sSet 4 (eBin dAdd (eVar 4) (eLst (aCons (escf (eC (.str "some"))) (aCons (escf (eC (.str "open"))) (aCons (escf (eC (.str "swap"))) (aCons (escf (eC (.str "fold"))) (aCons (escf (eC (.str "unfold"))) (aCons (escf (eC (.str "members"))) (aCons (escf (eC (.str "members"))) (aCons (escf (eC (.str "held"))) aNil)))))))))))) sNil)
    (sSeq (sSet 5 (eBin dIx (eVar 4) (eBin dMod (eBin dFdiv (eVar 3) (eC (.int 11))) (eFn fLen (aCons (opd (eVar 4)) aNil)))))
    (sSeq (sSet 6 (eLst (aCons (escf (eVar 5)) aNil)))
    (sSeq (sFor (iAnyM (eCall (call ._law_signs) (aCons (escf (eVar 5)) aNil))) (kName 7) (sIf (tOf (eBin dEq (eVar 7) (eC (.str "g")))) (sExpr (eApp 6 (eCall (call ._law_form) (aCons (escf (eVar 0)) (aCons (escf (eVar 1)) (aCons (escf (eBin dSub (eVar 2) (eC (.int 1)))) aNil)))))) (sIf (tOf (eBin dEq (eVar 7) (eC (.str "m")))) (sExpr (eApp 6 (eFn fTuple (aCons (opd (eLc (iRg1M (aCons (opd (eBin dMod (eBin dFdiv (eVar 3) (eC (.int 300))) (eC (.int 5)))) aNil)) (kName 8) (fun z => .ok true z) (eCall (call ._law_form) (aCons (escf (eVar 0)) (aCons (escf (eVar 1)) (aCons (escf (eBin dSub (eVar 2) (eC (.int 1)))) aNil)))) [8])) aNil)))) (sExpr (eApp 6 (eBin dIx (eLst (aCons (escf (eC (.int 0))) (aCons (escf (eC (.str "s"))) (aCons (escf (eTup (aCons (escf (eC (.str "no"))) aNil))) (aCons (escf (eTup (aCons (escf (eC (.str "pair"))) (aCons (escf (eTup (aCons (escf (eC (.str "held"))) (aCons (escf (eC (.int 0))) aNil)))) (aCons (escf (eTup (aCons (escf (eC (.str "held"))) (aCons (escf (eC (.int 1))) aNil)))) aNil))))) (aCons (escf (eC .non)) aNil)))))) (eBin dMod (eBin dFdiv (eVar 3) (eC (.int 300))) (eC (.int 5)))))))))
    (sSeq (sIf (tOf (eBin dEq (eBin dMod (eBin dFdiv (eVar 3) (eC (.int 1500))) (eC (.int 12))) (eC (.int 1)))) (sSet 6 (eBin dAdd (eVar 6) (eLst (aCons (escf (eTup (aCons (escf (eC (.str "held"))) (aCons (escf (eC (.int 0))) aNil)))) aNil)))) sNil)
    (sRet (eFn fTuple (aCons (opd (eVar 6)) aNil)))))))))))
def m__law_sized (call : Fn → List S → (List MO) → Rs S (List MO)) : Sm MX Out :=
    (sSeq (sIf (tOf (eBin dLt (eVar 0) (eC (.int 3)))) (sRet (eBin dIx (eLst (aCons (escf (eTup (aCons (escf (eTup (aCons (escf (eC (.str "held"))) (aCons (escf (eBin dMod (eVar 1) (eC (.int 9)))) aNil)))) (aCons (escf (eC (.int 1))) aNil)))) (aCons (escf (eTup (aCons (escf (eTup (aCons (escf (eC (.str "twice"))) (aCons (escf (eTup (aCons (escf (eC (.str "held"))) (aCons (escf (eC (.int 0))) aNil)))) aNil)))) (aCons (escf (eC (.int 2))) aNil)))) aNil))) (eBin dSub (eVar 0) (eC (.int 1))))) sNil)
    (sSeq (sSet 2 (eBin dMod (eVar 1) (eC (.int 3))))
    (sSeq (sIf (tAndM (tOf (eBin dEq (eVar 2) (eC (.int 0)))) (tOf (eBin dGt (eVar 0) (eC (.int 4))))) (sSeq (sSet 3 (eLc (iRg1M (aCons (opd (eC (.int 3))) aNil)) (kName 5) (fun z => .ok true z) (eCall (call ._law_sized) (aCons (escf (eBin dFdiv (eBin dAdd (eBin dSub (eVar 0) (eC (.int 1))) (eVar 5)) (eC (.int 3)))) (aCons (escf (eBin dAdd (eBin dFdiv (eVar 1) (eC (.int 3))) (eVar 5))) aNil))) [5]))
    (sRet (eTup (aCons (escf (eBin dAdd (eTup (aCons (escf (eC (.str "cases"))) aNil)) (eFn fTuple (aCons (opd (eLc (iAnyM (eVar 3)) (kTup 2 (ksCons (kName 6) (ksCons (kName 7) ksNil))) (fun z => .ok true z) (eVar 6) [6, 7])) aNil)))) (aCons (escf (eBin dAdd (eC (.int 1)) (eFn fMax (aCons (opd (eLc (iAnyM (eVar 3)) (kTup 2 (ksCons (kName 6) (ksCons (kName 7) ksNil))) (fun z => .ok true z) (eVar 7) [6, 7])) aNil)))) aNil))))) sNil)
    (sSeq (sSet 3 (eLc (iRg1M (aCons (opd (eC (.int 2))) aNil)) (kName 5) (fun z => .ok true z) (eCall (call ._law_sized) (aCons (escf (eBin dFdiv (eBin dAdd (eBin dSub (eVar 0) (eC (.int 1))) (eVar 5)) (eC (.int 2)))) (aCons (escf (eBin dAdd (eBin dFdiv (eVar 1) (eC (.int 3))) (eVar 5))) aNil))) [5]))
    (sSeq (sSet 4 (eFn fTuple (aCons (opd (eLc (iAnyM (eVar 3)) (kTup 2 (ksCons (kName 6) (ksCons (kName 7) ksNil))) (fun z => .ok true z) (eVar 6) [6, 7])) aNil)))
    (sRet (eTup (aCons (escf (eIf (tOf (eBin dLt (eVar 2) (eC (.int 2)))) (eBin dAdd (eTup (aCons (escf (eC (.str "pair"))) aNil)) (eVar 4)) (eTup (aCons (escf (eC (.str "members"))) (aCons (escf (eC (.str "s"))) (aCons (escf (eTup (aCons (escf (eC (.str "no"))) aNil))) (aCons (escf (eVar 4)) aNil))))))) (aCons (escf (eBin dAdd (eC (.int 1)) (eFn fMax (aCons (opd (eLc (iAnyM (eVar 3)) (kTup 2 (ksCons (kName 6) (ksCons (kName 7) ksNil))) (fun z => .ok true z) (eVar 7) [6, 7])) aNil)))) aNil)))))))))
def m__law_told_right (call : Fn → List S → (List MO) → Rs S (List MO)) : Sm MX Out :=
    (sSeq (sSet 1 (eCall (call ._law_within) (aCons (escf (eVar 0)) aNil)))
    (sSeq (sFor (iRg1M (aCons (opd (eC (.int 2))) aNil)) (kName 2) (sSeq (sSet 3 (eCall (call .inner) (aCons (escf (eVar 0)) aNil)))
    (sSeq (sIf (tOf (eBin dNe (eFn fReprE (aCons (opd (eVar 3)) aNil)) (eFn fReprE (aCons (opd (eVar 1)) aNil)))) (sRet (eC (.bl false))) sNil)
    (sIf (tOf (eBin dIsNot (eVar 3) (eC .non))) (sExpr (eApp 3 (eC .non))) sNil))))
    (sRet (eBin dEq (eFn fReprE (aCons (opd (eCall (call .many_in) (aCons (escf (eVar 0)) aNil))) aNil)) (eFn fReprE (aCons (opd (eCall (call ._law_counted) (aCons (escf (eVar 0)) aNil))) aNil))))))
def m__law_bounds_right (call : Fn → List S → (List MO) → Rs S (List MO)) : Sm MX Out :=
    (sSeq (sSet 1 (eBin dIx (eLst (aCons (escf (eC (.int 3999))) (aCons (escf (eC (.int 4000))) (aCons (escf (eC (.int 4001))) (aCons (escf (eBin dAdd (eC (.int 4001)) (eBin dMod (eBin dFdiv (eVar 0) (eC (.int 100))) (eC (.int 90))))) (aCons (escf (eBin dAdd (eC (.int 1)) (eBin dMod (eBin dFdiv (eVar 0) (eC (.int 100))) (eC (.int 4000))))) aNil)))))) (eBin dMod (eVar 0) (eC (.int 5)))))
    (sSeq (sAsg (eCall (call ._law_sized) (aCons (escf (eVar 1)) (aCons (escf (eBin dFdiv (eVar 0) (eC (.int 20)))) aNil))) (kTup 2 (ksCons (kName 2) (ksCons (kName 3) ksNil))))
    (sSeq (sIf (tOf (eBin dNe (eCall (call .many_in) (aCons (escf (eVar 2)) aNil)) (eIf (tOf (eBin dLt (eVar 1) (eC (.int 4001)))) (eTup (aCons (escf (eVar 1)) (aCons (escf (eVar 3)) aNil))) (eTup (aCons (escf (eC (.int 4001))) (aCons (escf (eC (.int 151))) aNil)))))) (sRet (eC (.bl false))) sNil)
    (sSeq (sSet 4 (eBin dIx (eLst (aCons (escf (eC (.int 149))) (aCons (escf (eC (.int 150))) (aCons (escf (eC (.int 151))) (aCons (escf (eBin dAdd (eC (.int 152)) (eBin dMod (eBin dFdiv (eVar 0) (eC (.int 100))) (eC (.int 30))))) (aCons (escf (eBin dAdd (eC (.int 1)) (eBin dMod (eBin dFdiv (eVar 0) (eC (.int 100))) (eC (.int 150))))) aNil)))))) (eBin dMod (eBin dFdiv (eVar 0) (eC (.int 5))) (eC (.int 5)))))
    (sSeq (sSet 5 (eTup (aCons (escf (eC (.str "held"))) (aCons (escf (eC (.int 0))) aNil))))
    (sSeq (sFor (iRg1M (aCons (opd (eBin dSub (eVar 4) (eC (.int 1)))) aNil)) (kName 6) (sSet 5 (eTup (aCons (escf (eC (.str "twice"))) (aCons (escf (eVar 5)) aNil)))))
    (sSeq (sIf (tOf (eBin dNe (eCall (call .many_in) (aCons (escf (eVar 5)) aNil)) (eIf (tOf (eBin dLt (eVar 4) (eC (.int 151)))) (eTup (aCons (escf (eVar 4)) (aCons (escf (eVar 4)) aNil))) (eTup (aCons (escf (eC (.int 4001))) (aCons (escf (eC (.int 151))) aNil)))))) (sRet (eC (.bl false))) sNil)
    (sSeq (sSet 7 (eTup (aCons (escf (eC (.str "held"))) (aCons (escf (eC (.int 0))) aNil))))
    (sSeq (sFor (iRg1M (aCons (opd (eBin dMod (eBin dFdiv (eVar 0) (eC (.int 25))) (eC (.int 18)))) aNil)) (kName 6) (sSet 7 (eTup (aCons (escf (eC (.str "pair"))) (aCons (escf (eVar 7)) (aCons (escf (eVar 7)) aNil))))))
    (sSeq (sSet 8 (eC (.int 1)))
    (sSeq (sFor (iRg1M (aCons (opd (eBin dMod (eBin dFdiv (eVar 0) (eC (.int 25))) (eC (.int 18)))) aNil)) (kName 6) (sSet 8 (eBin dAdd (eBin dMul (eC (.int 2)) (eVar 8)) (eC (.int 1)))))
    (sRet (eBin dEq (eCall (call .many_in) (aCons (escf (eVar 7)) aNil)) (eIf (tOf (eBin dLt (eVar 8) (eC (.int 4001)))) (eTup (aCons (escf (eVar 8)) (aCons (escf (eBin dAdd (eC (.int 1)) (eBin dMod (eBin dFdiv (eVar 0) (eC (.int 25))) (eC (.int 18))))) aNil))) (eTup (aCons (escf (eC (.int 4001))) (aCons (escf (eC (.int 151))) aNil)))))))))))))))))
def m__law_deep_right (call : Fn → List S → (List MO) → Rs S (List MO)) : Sm MX Out :=
    (sSeq (sAsg (eTup (aCons (escf (eTup (aCons (escf (eC (.str "held"))) (aCons (escf (eC (.int 0))) aNil)))) (aCons (escf (eC .non)) aNil))) (kTup 2 (ksCons (kName 1) (ksCons (kName 2) ksNil))))
    (sSeq (sFor (iRg1M (aCons (opd (eBin dAdd (eC (.int 151)) (eBin dMod (eVar 0) (eBin dIx (eLst (aCons (escf (eC (.int 540))) (aCons (escf (eC (.int 540))) (aCons (escf (eC (.int 190))) aNil)))) (eBin dMod (eBin dFdiv (eVar 0) (eC (.int 540))) (eC (.int 3))))))) aNil)) (kName 3) (sSeq (sSet 1 (eBin dIx (eLst (aCons (escf (eTup (aCons (escf (eC (.str "twice"))) (aCons (escf (eVar 1)) aNil)))) (aCons (escf (eTup (aCons (escf (eC (.str "void"))) (aCons (escf (eVar 1)) (aCons (escf (eC .non)) aNil))))) (aCons (escf (eTup (aCons (escf (eC (.str "members"))) (aCons (escf (eC (.str "s"))) (aCons (escf (eC .non)) (aCons (escf (eTup (aCons (escf (eVar 1)) aNil))) aNil)))))) aNil)))) (eBin dMod (eBin dFdiv (eVar 0) (eC (.int 540))) (eC (.int 3)))))
    (sSet 2 (eBin dIx (eLst (aCons (escf (eTup (aCons (escf (eVar 2)) aNil))) (aCons (escf (eTup (aCons (escf (eC (.str "no"))) (aCons (escf (eVar 2)) aNil)))) (aCons (escf (eTup (aCons (escf (eC (.str "pair"))) (aCons (escf (eVar 2)) aNil)))) aNil)))) (eBin dMod (eBin dFdiv (eVar 0) (eC (.int 1620))) (eC (.int 3)))))))
    (sSeq (sIf (tOrM (tOf (eBin dNe (eCall (call .many_in) (aCons (escf (eVar 1)) aNil)) (eTup (aCons (escf (eC (.int 4001))) (aCons (escf (eC (.int 151))) aNil))))) (tOf (eBin dNe (eFn fLen (aCons (opd (eCall (call .inner) (aCons (escf (eVar 1)) aNil))) aNil)) (eC (.int 1))))) (sRet (eC (.bl false))) sNil)
    (sSeq (sIf (tOrM (tOf (eBin dNe (eCall (call .many_in) (aCons (escf (eVar 2)) aNil)) (eTup (aCons (escf (eC (.int 0))) (aCons (escf (eC (.int 0))) aNil))))) (tOf (eBin dIsNot (eCall (call .inner) (aCons (escf (eVar 2)) aNil)) (eC .non)))) (sRet (eC (.bl false))) sNil)
    (sRet (eAndM (eBin dEq (eCall (call .many_in) (aCons (escf (eTup (aCons (escf (eC (.str "pair"))) (aCons (escf (eVar 2)) (aCons (escf (eTup (aCons (escf (eC (.str "use"))) (aCons (escf (eVar 2)) aNil)))) aNil))))) aNil)) (eTup (aCons (escf (eC (.int 2))) (aCons (escf (eC (.int 2))) aNil)))) (eBin dEq (eCall (call .many_in) (aCons (escf (eTup (aCons (escf (eC (.str "take"))) (aCons (escf (eVar 1)) (aCons (escf (eVar 2)) aNil))))) aNil)) (eTup (aCons (escf (eC (.int 1))) (aCons (escf (eC (.int 1))) aNil))))))))))
def m_law (call : Fn → List S → (List MO) → Rs S (List MO)) : Sm MX Out :=
    (sSeq (sSet 1 (eNewL (aCons (escf (eC (.int 0))) aNil)))
    (sSeq (sFor (iRg1M (aCons (opd (eBin dAdd (eC (.int 2)) (eFn fMin (aCons (opd (eC (.int 63))) (aCons (opd (eFn fLen (aCons (opd (eVar 0)) aNil))) aNil))))) aNil)) (kName 2) (sSeq (sSet 3 (eCall (call ._law_form) (aCons (escf (eVar 0)) (aCons (escf (eVar 1)) (aCons (escf (eBin dAdd (eC (.int 1)) (eBin dMod (eVar 2) (eC (.int 5))))) aNil)))))
    (sIf (tOrM (tNotM (tTru dTru (eCall (call ._law_told_right) (aCons (escf (eVar 3)) aNil)))) (tNotM (tTru dTru (eCall (call ._law_told_right) (aCons (escf (eCall (call ._law_odd) (aCons (escf (eCall (call ._law_cell) (aCons (escf (eVar 0)) (aCons (escf (eVar 1)) aNil)))) aNil))) aNil))))) (sRet (eC (.bl false))) sNil)))
    (sRet (eAndM (eCall (call ._law_bounds_right) (aCons (escf (eCall (call ._law_cell) (aCons (escf (eVar 0)) (aCons (escf (eVar 1)) aNil)))) aNil)) (eCall (call ._law_deep_right) (aCons (escf (eCall (call ._law_cell) (aCons (escf (eVar 0)) (aCons (escf (eVar 1)) aNil)))) aNil))))))
def mir : Nat → Fn → List S → (List MO) → Rs S (List MO)
  | 0, _ => fun _ _ => .bad
  | n + 1, .inner => fnM 2 (m_inner (mir n))
  | n + 1, .many_in => fnM 8 (m_many_in (mir n))
  | n + 1, ._law_cell => fnM 6 (m__law_cell (mir n))
  | n + 1, ._law_signs => fnM 2 (m__law_signs (mir n))
  | n + 1, ._law_within => fnM 4 (m__law_within (mir n))
  | n + 1, ._law_counted => fnM 6 (m__law_counted (mir n))
  | n + 1, ._law_odd => fnM 2 (m__law_odd (mir n))
  | n + 1, ._law_form => fnM 9 (m__law_form (mir n))
  | n + 1, ._law_sized => fnM 8 (m__law_sized (mir n))
  | n + 1, ._law_told_right => fnM 4 (m__law_told_right (mir n))
  | n + 1, ._law_bounds_right => fnM 9 (m__law_bounds_right (mir n))
  | n + 1, ._law_deep_right => fnM 4 (m__law_deep_right (mir n))
end L
namespace L
open PySem L2 G
theorem sc_inner : FnScope ["thing", "spot"] ["thing"] (defScope s_inner) := ⟨rfl, rfl, rfl, by decide +kernel, rfl, by decide +kernel, by decide +kernel⟩
theorem sc_many_in : FnScope ["thing", "many", "deep", "waiting", "one", "here", "found", "part"] ["thing"] (defScope s_many_in) := ⟨rfl, rfl, rfl, by decide +kernel, rfl, by decide +kernel, by decide +kernel⟩
theorem sc__law_cell : FnScope ["_law_cells", "_law_spot", "_law_k", "_law_base", "_law_own", "_law_turn"] ["_law_cells", "_law_spot"] (defScope s__law_cell) := ⟨rfl, rfl, rfl, by decide +kernel, rfl, by decide +kernel, by decide +kernel⟩
theorem sc__law_signs : FnScope ["_law_word", "_law_signs_here"] ["_law_word"] (defScope s__law_signs) := ⟨rfl, rfl, rfl, by decide +kernel, rfl, by decide +kernel, by decide +kernel⟩
theorem sc__law_within : FnScope ["_law_thing", "_law_signs_here", "_law_sign", "_law_one"] ["_law_thing"] (defScope s__law_within) := ⟨rfl, rfl, rfl, by decide +kernel, rfl, by decide +kernel, by decide +kernel⟩
theorem sc__law_counted : FnScope ["_law_thing", "_law_some", "_law_below", "_law_one", "_law_many", "_law_deep"] ["_law_thing"] (defScope s__law_counted) := ⟨rfl, rfl, rfl, by decide +kernel, rfl, by decide +kernel, by decide +kernel⟩
theorem sc__law_odd : FnScope ["_law_n", "_law_some"] ["_law_n"] (defScope s__law_odd) := ⟨rfl, rfl, rfl, by decide +kernel, rfl, by decide +kernel, by decide +kernel⟩
theorem sc__law_form : FnScope ["_law_cells", "_law_spot", "_law_deep", "_law_n", "_law_words", "_law_word", "_law_found", "_law_sign", "_law_k"] ["_law_cells", "_law_spot", "_law_deep"] (defScope s__law_form) := ⟨rfl, rfl, rfl, by decide +kernel, rfl, by decide +kernel, by decide +kernel⟩
theorem sc__law_sized : FnScope ["_law_many", "_law_n", "_law_way", "_law_parts", "_law_some", "_law_k", "_law_one", "_law_deep"] ["_law_many", "_law_n"] (defScope s__law_sized) := ⟨rfl, rfl, rfl, by decide +kernel, rfl, by decide +kernel, by decide +kernel⟩
theorem sc__law_told_right : FnScope ["_law_thing", "_law_due", "_law_turn", "_law_found"] ["_law_thing"] (defScope s__law_told_right) := ⟨rfl, rfl, rfl, by decide +kernel, rfl, by decide +kernel, by decide +kernel⟩
theorem sc__law_bounds_right : FnScope ["_law_n", "_law_many", "_law_ground", "_law_deep", "_law_high", "_law_chain", "_law_turn", "_law_often", "_law_whole"] ["_law_n"] (defScope s__law_bounds_right) := ⟨rfl, rfl, rfl, by decide +kernel, rfl, by decide +kernel, by decide +kernel⟩
theorem sc__law_deep_right : FnScope ["_law_n", "_law_chain", "_law_nest", "_law_turn"] ["_law_n"] (defScope s__law_deep_right) := ⟨rfl, rfl, rfl, by decide +kernel, rfl, by decide +kernel, by decide +kernel⟩
theorem sc_law : FnScope ["_law_script", "_law_spot", "_law_k", "_law_thing"] ["_law_script"] (defScope s_law) := ⟨rfl, rfl, rfl, by decide +kernel, rfl, by decide +kernel, by decide +kernel⟩
/-- what the top has written -/
structure Tt (K : PySem.W.Frag) (mg : Str → Option Value) (pr : Params) : Prop where
  inner : FnIn K mg "inner" s_inner ["thing"] []
  many_in : FnIn K mg "many_in" s_many_in ["thing"] []
  _law_cell : FnIn K mg "_law_cell" s__law_cell ["_law_cells", "_law_spot"] []
  _law_signs : FnIn K mg "_law_signs" s__law_signs ["_law_word"] []
  _law_within : FnIn K mg "_law_within" s__law_within ["_law_thing"] []
  _law_counted : FnIn K mg "_law_counted" s__law_counted ["_law_thing"] []
  _law_odd : FnIn K mg "_law_odd" s__law_odd ["_law_n"] []
  _law_form : FnIn K mg "_law_form" s__law_form ["_law_cells", "_law_spot", "_law_deep"] []
  _law_sized : FnIn K mg "_law_sized" s__law_sized ["_law_many", "_law_n"] []
  _law_told_right : FnIn K mg "_law_told_right" s__law_told_right ["_law_thing"] []
  _law_bounds_right : FnIn K mg "_law_bounds_right" s__law_bounds_right ["_law_n"] []
  _law_deep_right : FnIn K mg "_law_deep_right" s__law_deep_right ["_law_n"] []
  b_int : mg "int" = none
  b_isinstance : mg "isinstance" = none
  b_len : mg "len" = none
  b_list : mg "list" = none
  b_max : mg "max" = none
  b_min : mg "min" = none
  b_range : mg "range" = none
  b_repr : mg "repr" = none
  b_str : mg "str" = none
  b_sum : mg "sum" = none
  b_tuple : mg "tuple" = none
  b_zip : mg "zip" = none
  c_MOST_DEEP : GlD K mg "MOST_DEEP" c_MOST_DEEP
  c_MOST_GROUNDS : GlD K mg "MOST_GROUNDS" c_MOST_GROUNDS
  k_SIZES : KDD K pr mg "SIZES" t_SIZES
  k_SPOTS : KDD K pr mg "SPOTS" t_SPOTS
structure Tx (P : Program) (w : World) (K : PySem.W.Frag) (mg : Str → Option Value) (base : Heap) (n : Nat) : Prop where
  sb : SysB base
  inner : FnAt MX P w K mg base (xrK K) n "inner" ["thing"] [] (mir n .inner)
  many_in : FnAt MX P w K mg base (xrK K) n "many_in" ["thing"] [] (mir n .many_in)
  _law_cell : FnAt MX P w K mg base (xrK K) n "_law_cell" ["_law_cells", "_law_spot"] [] (mir n ._law_cell)
  _law_signs : FnAt MX P w K mg base (xrK K) n "_law_signs" ["_law_word"] [] (mir n ._law_signs)
  _law_within : FnAt MX P w K mg base (xrK K) n "_law_within" ["_law_thing"] [] (mir n ._law_within)
  _law_counted : FnAt MX P w K mg base (xrK K) n "_law_counted" ["_law_thing"] [] (mir n ._law_counted)
  _law_odd : FnAt MX P w K mg base (xrK K) n "_law_odd" ["_law_n"] [] (mir n ._law_odd)
  _law_form : FnAt MX P w K mg base (xrK K) n "_law_form" ["_law_cells", "_law_spot", "_law_deep"] [] (mir n ._law_form)
  _law_sized : FnAt MX P w K mg base (xrK K) n "_law_sized" ["_law_many", "_law_n"] [] (mir n ._law_sized)
  _law_told_right : FnAt MX P w K mg base (xrK K) n "_law_told_right" ["_law_thing"] [] (mir n ._law_told_right)
  _law_bounds_right : FnAt MX P w K mg base (xrK K) n "_law_bounds_right" ["_law_n"] [] (mir n ._law_bounds_right)
  _law_deep_right : FnAt MX P w K mg base (xrK K) n "_law_deep_right" ["_law_n"] [] (mir n ._law_deep_right)
section
variable {P : Program} {w : World} {K : PySem.W.Frag} {mg : Str → Option Value} {base : Heap} {n : Nat}
theorem d_inner (T : Tt K mg w.params) (H : Tx P w K mg base n) : FnAt MX P w K mg base (xrK K) (n + 1) "inner" ["thing"] [] (fnM 2 (m_inner (mir n))) := by
  refine fnAt_succ T.inner sc_inner (fun f cdv A outer s Hp E hr hgu => ?_)
  have p := pc_def (P := P) (w := w) (K := K) (mg := mg) (base := base) (outer := outer) (H := Hp) (E := E) sc_inner hr hgu
  exact (dss_cons (ds_if (dt_w (dw_or (dt_not (dt_tru p.toPl (de_isi p.toPl T.b_isinstance T.b_tuple PyProof.Rows.boot_tuple (de_var 0)))) (dw_or (Cp.dt (cp_eq0 p.toPl) (de_var 0) (de_tup da_nil) (nomark _)) (dw_or1 (dt_not (dt_tru p.toPl (de_isi p.toPl T.b_isinstance T.b_str PyProof.Rows.boot_str (de_ixA p.toPl (de_var 0) de_int)))))))) (dss_one (ds_ret de_non)) dss_nil)
    (dss_cons (ds_if (Cp.dt (cp_ne p.toPl) (de_kget p.toPl p.pw T.k_SIZES (de_ixA p.toPl (de_var 0) de_int) de_int (fun _ => ⟨rfl, rfl, rfl, rfl⟩)) (Fb.de (fb_len p.toPl) p.toPl T.b_len (da_rd (de_var 0) da_nil)) (nomark _)) (dss_one (ds_ret de_non)) dss_nil)
    (dss_cons (ds_if (Cp.dt (cp_eq p.toPl) (de_ixA p.toPl (de_var 0) de_int) de_str (nomark _)) (dss_one (ds_ret (de_if (dt_tru p.toPl (de_isi p.toPl T.b_isinstance T.b_tuple PyProof.Rows.boot_tuple (de_ixA p.toPl (de_var 0) de_int))) (Fb.de (fb_list p.toPl) p.toPl T.b_list (da_rd (de_ixA p.toPl (de_var 0) de_int) da_nil)) de_non))) dss_nil)
    (dss_one (ds_ret (de_lc (own := [("spot", 1)]) p.c p.toPl.nds (fun _ => blkOk_by (N := ["thing", "spot"]) (sc := defScope s_inner) (by decide +kernel)) (di_any p.toPl (de_kix p.toPl p.pw T.k_SPOTS (de_ixA p.toPl (de_var 0) de_int))) (dg_name (p.blk _).toPl.nds (fun _ => rfl) (fun _ => by first | exact Or.inl rfl | exact Or.inr rfl)) dts_nil (de_ixA (p.blk _).toPl (de_var 0) (de_var 1))))))))
theorem d_many_in (T : Tt K mg w.params) (H : Tx P w K mg base n) : FnAt MX P w K mg base (xrK K) (n + 1) "many_in" ["thing"] [] (fnM 8 (m_many_in (mir n))) := by
  refine fnAt_succ T.many_in sc_many_in (fun f cdv A outer s Hp E hr hgu => ?_)
  have p := pc_def (P := P) (w := w) (K := K) (mg := mg) (base := base) (outer := outer) (H := Hp) (E := E) sc_many_in hr hgu
  exact (dss_cons (ds_set (i := 1) p.toPl.nds (fun _ => rfl) (fun _ => by first | exact Or.inl rfl | exact Or.inr rfl) de_int)
    (dss_cons (ds_set (i := 2) p.toPl.nds (fun _ => rfl) (fun _ => by first | exact Or.inl rfl | exact Or.inr rfl) de_int)
    (dss_cons (ds_set (i := 3) p.toPl.nds (fun _ => rfl) (fun _ => by first | exact Or.inl rfl | exact Or.inr rfl) (de_lst (da_es (de_tup (da_es (de_var 0) (da_es de_int da_nil))) da_nil)))
    (dss_cons (ds_while whileN own_def (Cp.dt (cp_ne0 p.toPl) (de_var 3) (de_lst da_nil) (nomark _)) (dss_cons (ds_asg (de_pop (i := 3) p.k (fun _ => rfl) (fun _ => by first | exact Or.inl rfl | exact Or.inr (Or.inl rfl) | exact Or.inr (Or.inr rfl)) (by decide) (by decide)) (dg_tup p.k p.c (dgs_cons (dg_name p.toPl.nds (fun _ => rfl) (fun _ => by first | exact Or.inl rfl | exact Or.inr rfl)) (dgs_cons (dg_name p.toPl.nds (fun _ => rfl) (fun _ => by first | exact Or.inl rfl | exact Or.inr rfl)) dgs_nil))))
    (dss_cons (ds_set (i := 6) p.toPl.nds (fun _ => rfl) (fun _ => by first | exact Or.inl rfl | exact Or.inr rfl) (de_fn p H.inner (da_es (de_var 4) da_nil) (len_cons (fun _ _ _ h => len_nil h))))
    (dss_cons (ds_if (Cp.dt cp_isNot (de_var 6) de_non (nomark _)) (dss_cons (ds_aug (i := 1) p.toPl.nds (fun _ => rfl) (fun _ => by first | exact Or.inl rfl | exact Or.inr rfl) (fun _ => ip_add) de_int)
    (dss_cons (ds_set (i := 2) p.toPl.nds (fun _ => rfl) (fun _ => by first | exact Or.inl rfl | exact Or.inr rfl) (Fb.de (fb_max p.toPl) p.toPl T.b_max (da_rd (de_var 2) (da_rd (de_var 5) da_nil))))
    (dss_one (ds_expr (de_extend (i := 3) p.k (fun _ => rfl) (fun _ => by first | exact Or.inl rfl | exact Or.inr (Or.inl rfl) | exact Or.inr (Or.inr rfl)) (by decide) (by decide) (de_lc (own := [("part", 7)]) p.c p.toPl.nds (fun _ => blkOk_by (N := ["thing", "many", "deep", "waiting", "one", "here", "found", "part"]) (sc := defScope s_many_in) (by decide +kernel)) (di_any p.toPl (de_var 6)) (dg_name (p.blk _).toPl.nds (fun _ => rfl) (fun _ => by first | exact Or.inl rfl | exact Or.inr rfl)) dts_nil (de_tup (da_es (de_var 7) (da_es (de_add (p.blk _).toPl (de_var 5) de_int) da_nil))))))))) dss_nil)
    (dss_one (ds_if (dt_w (dw_or (Cp.dt cp_gt (de_var 1) (de_const p.toPl T.c_MOST_GROUNDS) (nomark _)) (dw_or1 (Cp.dt cp_gt (de_var 2) (de_const p.toPl T.c_MOST_DEEP) (nomark _))))) (dss_one (ds_ret (de_tup (da_es (de_add p.toPl (de_const p.toPl T.c_MOST_GROUNDS) de_int) (da_es (de_add p.toPl (de_const p.toPl T.c_MOST_DEEP) de_int) da_nil))))) dss_nil))))))
    (dss_one (ds_ret (de_tup (da_es (de_var 1) (da_es (de_var 2) da_nil)))))))))
theorem d__law_cell (T : Tt K mg w.params) (H : Tx P w K mg base n) : FnAt MX P w K mg base (xrK K) (n + 1) "_law_cell" ["_law_cells", "_law_spot"] [] (fnM 6 (m__law_cell (mir n))) := by
  refine fnAt_succ T._law_cell sc__law_cell (fun f cdv A outer s Hp E hr hgu => ?_)
  have p := pc_def (P := P) (w := w) (K := K) (mg := mg) (base := base) (outer := outer) (H := Hp) (E := E) sc__law_cell hr hgu
  exact (dss_cons (ds_lput p.toPl (de_add p.toPl (de_ixO p.toPl (de_var 1) de_int) de_int) (de_var 1) de_int)
    (dss_cons (ds_set (i := 2) p.toPl.nds (fun _ => rfl) (fun _ => by first | exact Or.inl rfl | exact Or.inr rfl) (de_ixO p.toPl (de_var 1) de_int))
    (dss_cons (ds_set (i := 3) p.toPl.nds (fun _ => rfl) (fun _ => by first | exact Or.inl rfl | exact Or.inr rfl) (de_add p.toPl (de_mul (de_mul de_int (de_var 2)) (de_var 2)) (de_mul de_int (de_var 2))))
    (dss_cons (ds_if (Cp.dt cp_gt (Fb.de (fb_len p.toPl) p.toPl T.b_len (da_rd (de_var 0) da_nil)) de_int (nomark _)) (dss_cons (ds_set (i := 4) p.toPl.nds (fun _ => rfl) (fun _ => by first | exact Or.inl rfl | exact Or.inr rfl) (de_ixA p.toPl (de_var 0) (de_mod (de_var 2) (Fb.de (fb_len p.toPl) p.toPl T.b_len (da_rd (de_var 0) da_nil)))))
    (dss_cons (ds_set (i := 3) p.toPl.nds (fun _ => rfl) (fun _ => by first | exact Or.inl rfl | exact Or.inr rfl) (de_add p.toPl (de_var 3) (de_mul (de_var 4) (de_add p.toPl de_int (de_fdiv (de_var 2) (Fb.de (fb_len p.toPl) p.toPl T.b_len (da_rd (de_var 0) da_nil)))))))
    (dss_one (ds_if (dt_w (dw_and (Cp.dt cp_ge (de_var 4) (de_pow de_int de_int) (nomark _)) (dw_and1 (Cp.dt cp_lt (de_fdiv (de_var 2) (Fb.de (fb_len p.toPl) p.toPl T.b_len (da_rd (de_var 0) da_nil))) de_int (nomark _))))) (dss_cons (ds_for own_def p.c (di_range1 p.toPl T.b_range (da_rd (de_fdiv (de_var 2) (Fb.de (fb_len p.toPl) p.toPl T.b_len (da_rd (de_var 0) da_nil))) da_nil)) (dg_name p.toPl.nds (fun _ => rfl) (fun _ => by first | exact Or.inl rfl | exact Or.inr rfl)) (dss_one (ds_set (i := 4) p.toPl.nds (fun _ => rfl) (fun _ => by first | exact Or.inl rfl | exact Or.inr rfl) (de_fdiv (de_var 4) de_int))))
    (dss_one (ds_if (Cp.dt cp_gt (de_var 4) de_int (nomark _)) (dss_one (ds_ret (de_mod (de_var 4) de_int))) dss_nil))) dss_nil)))) dss_nil)
    (dss_one (ds_ret (de_fdiv (de_mod (de_mul (de_mod (de_mul (de_var 3) de_int) de_int) de_int) de_int) de_int)))))))
theorem d__law_signs (T : Tt K mg w.params) (H : Tx P w K mg base n) : FnAt MX P w K mg base (xrK K) (n + 1) "_law_signs" ["_law_word"] [] (fnM 2 (m__law_signs (mir n))) := by
  refine fnAt_succ T._law_signs sc__law_signs (fun f cdv A outer s Hp E hr hgu => ?_)
  have p := pc_def (P := P) (w := w) (K := K) (mg := mg) (base := base) (outer := outer) (H := Hp) (E := E) sc__law_signs hr hgu
  exact (dss_cons (ds_set (i := 1) p.toPl.nds (fun _ => rfl) (fun _ => by first | exact Or.inl rfl | exact Or.inr rfl) (de_disp (ks_cons (ks_cons (ks_cons (ks_cons (ks_cons (ks_cons (ks_cons ks_nil))))))) rfl rfl (fun h => nomatch h) (by decide)))
    (dss_cons (ds_expr (de_dupd (de_var 1) (de_disp (ks_cons (ks_cons (ks_cons (ks_cons (ks_cons (ks_cons (ks_cons ks_nil))))))) rfl rfl (fun h => nomatch h) (by decide)) (fun _ => ⟨rfl, rfl, rfl, rfl⟩)))
    (dss_cons (ds_expr (de_dupd (de_var 1) (de_disp (ks_cons (ks_cons (ks_cons (ks_cons (ks_cons (ks_cons ks_nil)))))) rfl rfl (fun h => nomatch h) (by decide)) (fun _ => ⟨rfl, rfl, rfl, rfl⟩)))
    (dss_cons (ds_expr (de_dupd (de_var 1) (de_disp (ks_cons (ks_cons ks_nil)) rfl rfl (fun h => nomatch h) (by decide)) (fun _ => ⟨rfl, rfl, rfl, rfl⟩)))
    (dss_one (ds_ret (de_dget2 p.toPl (de_var 1) (de_var 0) de_str (fun _ => ⟨rfl, rfl, rfl, rfl⟩))))))))
theorem d__law_within (T : Tt K mg w.params) (H : Tx P w K mg base n) : FnAt MX P w K mg base (xrK K) (n + 1) "_law_within" ["_law_thing"] [] (fnM 4 (m__law_within (mir n))) := by
  refine fnAt_succ T._law_within sc__law_within (fun f cdv A outer s Hp E hr hgu => ?_)
  have p := pc_def (P := P) (w := w) (K := K) (mg := mg) (base := base) (outer := outer) (H := Hp) (E := E) sc__law_within hr hgu
  exact (dss_cons (ds_if (dt_w (dw_or (dt_not (dt_tru p.toPl (de_isi p.toPl T.b_isinstance T.b_tuple PyProof.Rows.boot_tuple (de_var 0)))) (dw_or (Cp.dt (cp_eq0 p.toPl) (de_var 0) (de_tup da_nil) (nomark _)) (dw_or1 (dt_not (dt_tru p.toPl (de_isi p.toPl T.b_isinstance T.b_str PyProof.Rows.boot_str (de_ixA p.toPl (de_var 0) de_int)))))))) (dss_one (ds_ret de_non)) dss_nil)
    (dss_cons (ds_set (i := 1) p.toPl.nds (fun _ => rfl) (fun _ => by first | exact Or.inl rfl | exact Or.inr rfl) (de_fn p H._law_signs (da_es (de_ixA p.toPl (de_var 0) de_int) da_nil) (len_cons (fun _ _ _ h => len_nil h))))
    (dss_cons (ds_if (dt_w (dw_or (Cp.dt (cp_eq p.toPl) (de_var 1) de_str (nomark _)) (dw_or1 (Cp.dt (cp_ne p.toPl) (Fb.de (fb_len p.toPl) p.toPl T.b_len (da_rd (de_var 0) da_nil)) (de_add p.toPl (Fb.de (fb_len p.toPl) p.toPl T.b_len (da_rd (de_var 1) da_nil)) de_int) (nomark _))))) (dss_one (ds_ret de_non)) dss_nil)
    (dss_cons (ds_if (Cp.dt (cp_in p.toPl) de_str (de_var 1) rfl) (dss_one (ds_ret (de_if (dt_tru p.toPl (de_isi p.toPl T.b_isinstance T.b_tuple PyProof.Rows.boot_tuple (de_ixA p.toPl (de_var 0) de_int))) (Fb.de (fb_list p.toPl) p.toPl T.b_list (da_rd (de_ixA p.toPl (de_var 0) de_int) da_nil)) de_non))) dss_nil)
    (dss_one (ds_ret (de_lc (own := [("_law_sign", 2), ("_law_one", 3)]) p.c p.toPl.nds (fun _ => blkOk_by (N := ["_law_thing", "_law_signs_here", "_law_sign", "_law_one"]) (sc := defScope s__law_within) (by decide +kernel)) (di_zipX p.toPl T.b_zip (da_es (de_var 1) (da_es (de_sl p.toPl (de_var 0) (do_some de_int) do_none) da_nil))) (dg_tup (p.blk _).k (p.blk _).c (dgs_cons (dg_name (p.blk _).toPl.nds (fun _ => rfl) (fun _ => by first | exact Or.inl rfl | exact Or.inr rfl)) (dgs_cons (dg_name (p.blk _).toPl.nds (fun _ => rfl) (fun _ => by first | exact Or.inl rfl | exact Or.inr rfl)) dgs_nil))) (dts_one (Cp.dt (cp_eq (p.blk _).toPl) (de_var 2) de_str (nomark _))) (de_var 3))))))))
theorem d__law_counted (T : Tt K mg w.params) (H : Tx P w K mg base n) : FnAt MX P w K mg base (xrK K) (n + 1) "_law_counted" ["_law_thing"] [] (fnM 6 (m__law_counted (mir n))) := by
  refine fnAt_succ T._law_counted sc__law_counted (fun f cdv A outer s Hp E hr hgu => ?_)
  have p := pc_def (P := P) (w := w) (K := K) (mg := mg) (base := base) (outer := outer) (H := Hp) (E := E) sc__law_counted hr hgu
  exact (dss_cons (ds_set (i := 1) p.toPl.nds (fun _ => rfl) (fun _ => by first | exact Or.inl rfl | exact Or.inr rfl) (de_fn p H._law_within (da_es (de_var 0) da_nil) (len_cons (fun _ _ _ h => len_nil h))))
    (dss_cons (ds_if (Cp.dt cp_is (de_var 1) de_non (nomark _)) (dss_one (ds_ret (de_tup (da_es de_int (da_es de_int da_nil))))) dss_nil)
    (dss_cons (ds_setLc (i := 2) (own := [("_law_one", 3)]) p.c p.toPl.nds (fun _ => rfl) (fun _ => rfl) (fun _ => sw_true rfl rfl rfl (by decide +kernel)) (fun _ => blkOk_by (N := ["_law_thing", "_law_some", "_law_below", "_law_one", "_law_many", "_law_deep"]) (sc := defScope s__law_counted) (by decide +kernel)) (di_any p.toPl (de_var 1)) (dg_name (p.blk _).toPl.nds (fun _ => rfl) (fun _ => by first | exact Or.inl rfl | exact Or.inr rfl)) dts_nil (de_fn (p.blk _) H._law_counted (da_es (de_var 3) da_nil) (len_cons (fun _ _ _ h => len_nil h))))
    (dss_one (ds_ret (de_tup (da_es (de_add p.toPl de_int (Fb.de (fb_sum p.toPl) p.toPl T.b_sum (da_rd (de_lc (own := [("_law_many", 4), ("_law_deep", 5)]) p.c p.toPl.nds (fun _ => blkOk_by (N := ["_law_thing", "_law_some", "_law_below", "_law_one", "_law_many", "_law_deep"]) (sc := defScope s__law_counted) (by decide +kernel)) (di_any p.toPl (de_var 2)) (dg_tup (p.blk _).k (p.blk _).c (dgs_cons (dg_name (p.blk _).toPl.nds (fun _ => rfl) (fun _ => by first | exact Or.inl rfl | exact Or.inr rfl)) (dgs_cons (dg_name (p.blk _).toPl.nds (fun _ => rfl) (fun _ => by first | exact Or.inl rfl | exact Or.inr rfl)) dgs_nil))) dts_nil (de_var 4)) da_nil))) (da_es (de_add p.toPl de_int (de_maxK p.toPl T.b_max (da_rd (de_lc (own := [("_law_many", 4), ("_law_deep", 5)]) p.c p.toPl.nds (fun _ => blkOk_by (N := ["_law_thing", "_law_some", "_law_below", "_law_one", "_law_many", "_law_deep"]) (sc := defScope s__law_counted) (by decide +kernel)) (di_any p.toPl (de_var 2)) (dg_tup (p.blk _).k (p.blk _).c (dgs_cons (dg_name (p.blk _).toPl.nds (fun _ => rfl) (fun _ => by first | exact Or.inl rfl | exact Or.inr rfl)) (dgs_cons (dg_name (p.blk _).toPl.nds (fun _ => rfl) (fun _ => by first | exact Or.inl rfl | exact Or.inr rfl)) dgs_nil))) dts_nil (de_var 5)) da_nil) (fun _ => pe_int))) da_nil))))))))
theorem d__law_odd (T : Tt K mg w.params) (H : Tx P w K mg base n) : FnAt MX P w K mg base (xrK K) (n + 1) "_law_odd" ["_law_n"] [] (fnM 2 (m__law_odd (mir n))) := by
  refine fnAt_succ T._law_odd sc__law_odd (fun f cdv A outer s Hp E hr hgu => ?_)
  have p := pc_def (P := P) (w := w) (K := K) (mg := mg) (base := base) (outer := outer) (H := Hp) (E := E) sc__law_odd hr hgu
  exact (dss_cons (ds_set (i := 1) p.toPl.nds (fun _ => rfl) (fun _ => by first | exact Or.inl rfl | exact Or.inr rfl) (de_lst (da_es de_non (da_es de_int (da_es de_bl (da_es de_str (da_es (de_lst (da_es (de_tup (da_es de_str (da_es de_int da_nil))) da_nil)) (da_es de_emp (da_es (de_tup da_nil) (da_es (de_tup (da_es de_str da_nil)) (da_es (de_tup (da_es de_str (da_es de_int (da_es de_int da_nil)))) (da_es (de_tup (da_es de_str (da_es de_int da_nil))) (da_es (de_tup (da_es de_int (da_es de_int da_nil))) (da_es de_str da_nil))))))))))))))
    (dss_cons (ds_set (i := 1) p.toPl.nds (fun _ => rfl) (fun _ => by first | exact Or.inl rfl | exact Or.inr rfl) (de_add p.toPl (de_var 1) (de_lst (da_es (de_tup (da_es de_str (da_es de_str (da_es (de_tup (da_es de_str da_nil)) (da_es (de_lst (da_es (de_tup (da_es de_str (da_es de_int da_nil))) da_nil)) da_nil))))) (da_es (de_tup (da_es de_str (da_es de_str (da_es (de_tup (da_es de_str da_nil)) da_nil)))) (da_es (de_tup (da_es (de_tup (da_es (de_tup (da_es de_str (da_es de_int da_nil))) da_nil)) (da_es de_int da_nil))) (da_es (de_tup (da_es de_str da_nil)) da_nil)))))))
    (dss_one (ds_ret (de_ixA p.toPl (de_var 1) (de_mod (de_var 0) de_int))))))
theorem d__law_form (T : Tt K mg w.params) (H : Tx P w K mg base n) : FnAt MX P w K mg base (xrK K) (n + 1) "_law_form" ["_law_cells", "_law_spot", "_law_deep"] [] (fnM 9 (m__law_form (mir n))) := by
  refine fnAt_succ T._law_form sc__law_form (fun f cdv A outer s Hp E hr hgu => ?_)
  have p := pc_def (P := P) (w := w) (K := K) (mg := mg) (base := base) (outer := outer) (H := Hp) (E := E) sc__law_form hr hgu
  exact (dss_cons (ds_set (i := 3) p.toPl.nds (fun _ => rfl) (fun _ => by first | exact Or.inl rfl | exact Or.inr rfl) (de_fn p H._law_cell (da_es (de_var 0) (da_es (de_var 1) da_nil)) (len_cons (len_cons (fun _ _ _ h => len_nil h)))))
    (dss_cons (ds_if (Cp.dt (cp_eq p.toPl) (de_mod (de_var 3) de_int) de_int (nomark _)) (dss_one (ds_ret (de_fn p H._law_odd (da_es (de_fdiv (de_var 3) de_int) da_nil) (len_cons (fun _ _ _ h => len_nil h))))) dss_nil)
    (dss_cons (ds_set (i := 4) p.toPl.nds (fun _ => rfl) (fun _ => by first | exact Or.inl rfl | exact Or.inr rfl) (de_lst (da_es de_str (da_es de_str (da_es de_str (da_es de_str da_nil))))))
    (dss_cons (ds_if (Cp.dt cp_gt (de_var 2) de_int (nomark _)) (dss_cons (ds_set (i := 4) p.toPl.nds (fun _ => rfl) (fun _ => by first | exact Or.inl rfl | exact Or.inr rfl) (de_lst (da_es de_str (da_es de_str (da_es de_str (da_es de_str (da_es de_str (da_es de_str (da_es de_str (da_es de_str (da_es de_str (da_es de_str (da_es de_str (da_es de_str da_nil))))))))))))))
    (dss_one (ds_set (i := 4) p.toPl.nds (fun _ => rfl) (fun _ => by first | exact Or.inl rfl | exact Or.inr rfl) (de_add p.toPl (de_var 4) (de_lst (da_es de_str (da_es de_str (da_es de_str (da_es de_str (da_es de_str (da_es de_str (da_es de_str (da_es de_str da_nil))))))))))))) dss_nil)
    (dss_cons (ds_set (i := 5) p.toPl.nds (fun _ => rfl) (fun _ => by first | exact Or.inl rfl | exact Or.inr rfl) (de_ixA p.toPl (de_var 4) (de_mod (de_fdiv (de_var 3) de_int) (Fb.de (fb_len p.toPl) p.toPl T.b_len (da_rd (de_var 4) da_nil)))))
    (dss_cons (ds_set (i := 6) p.toPl.nds (fun _ => rfl) (fun _ => by first | exact Or.inl rfl | exact Or.inr rfl) (de_lst (da_es (de_var 5) da_nil)))
    (dss_cons (ds_for own_def p.c (di_any p.toPl (de_fn p H._law_signs (da_es (de_var 5) da_nil) (len_cons (fun _ _ _ h => len_nil h)))) (dg_name p.toPl.nds (fun _ => rfl) (fun _ => by first | exact Or.inl rfl | exact Or.inr rfl)) (dss_one (ds_if (Cp.dt (cp_eq p.toPl) (de_var 7) de_str (nomark _)) (dss_one (ds_expr (de_append (i := 6) p.k (fun _ => rfl) (fun _ => by first | exact Or.inl rfl | exact Or.inr (Or.inl rfl) | exact Or.inr (Or.inr rfl)) (by decide) (by decide) (de_fn p H._law_form (da_es (de_var 0) (da_es (de_var 1) (da_es (de_sub (de_var 2) de_int) da_nil))) (len_cons (len_cons (len_cons (fun _ _ _ h => len_nil h)))))))) (dss_one (ds_if (Cp.dt (cp_eq p.toPl) (de_var 7) de_str (nomark _)) (dss_one (ds_expr (de_append (i := 6) p.k (fun _ => rfl) (fun _ => by first | exact Or.inl rfl | exact Or.inr (Or.inl rfl) | exact Or.inr (Or.inr rfl)) (by decide) (by decide) (Fb.de (fb_tuple p.toPl) p.toPl T.b_tuple (da_rd (de_lc (own := [("_law_k", 8)]) p.c p.toPl.nds (fun _ => blkOk_by (N := ["_law_cells", "_law_spot", "_law_deep", "_law_n", "_law_words", "_law_word", "_law_found", "_law_sign", "_law_k"]) (sc := defScope s__law_form) (by decide +kernel)) (di_range1 p.toPl T.b_range (da_rd (de_mod (de_fdiv (de_var 3) de_int) de_int) da_nil)) (dg_name (p.blk _).toPl.nds (fun _ => rfl) (fun _ => by first | exact Or.inl rfl | exact Or.inr rfl)) dts_nil (de_fn (p.blk _) H._law_form (da_es (de_var 0) (da_es (de_var 1) (da_es (de_sub (de_var 2) de_int) da_nil))) (len_cons (len_cons (len_cons (fun _ _ _ h => len_nil h)))))) da_nil))))) (dss_one (ds_expr (de_append (i := 6) p.k (fun _ => rfl) (fun _ => by first | exact Or.inl rfl | exact Or.inr (Or.inl rfl) | exact Or.inr (Or.inr rfl)) (by decide) (by decide) (de_ixA p.toPl (de_lst (da_es de_int (da_es de_str (da_es (de_tup (da_es de_str da_nil)) (da_es (de_tup (da_es de_str (da_es (de_tup (da_es de_str (da_es de_int da_nil))) (da_es (de_tup (da_es de_str (da_es de_int da_nil))) da_nil)))) (da_es de_non da_nil)))))) (de_mod (de_fdiv (de_var 3) de_int) de_int))))))))))
    (dss_cons (ds_if (Cp.dt (cp_eq p.toPl) (de_mod (de_fdiv (de_var 3) de_int) de_int) de_int (nomark _)) (dss_one (ds_set (i := 6) p.toPl.nds (fun _ => rfl) (fun _ => by first | exact Or.inl rfl | exact Or.inr rfl) (de_add p.toPl (de_var 6) (de_lst (da_es (de_tup (da_es de_str (da_es de_int da_nil))) da_nil))))) dss_nil)
    (dss_one (ds_ret (Fb.de (fb_tuple p.toPl) p.toPl T.b_tuple (da_rd (de_var 6) da_nil))))))))))))
theorem d__law_sized (T : Tt K mg w.params) (H : Tx P w K mg base n) : FnAt MX P w K mg base (xrK K) (n + 1) "_law_sized" ["_law_many", "_law_n"] [] (fnM 8 (m__law_sized (mir n))) := by
  refine fnAt_succ T._law_sized sc__law_sized (fun f cdv A outer s Hp E hr hgu => ?_)
  have p := pc_def (P := P) (w := w) (K := K) (mg := mg) (base := base) (outer := outer) (H := Hp) (E := E) sc__law_sized hr hgu
  exact (dss_cons (ds_if (Cp.dt cp_lt (de_var 0) de_int (nomark _)) (dss_one (ds_ret (de_ixA p.toPl (de_lst (da_es (de_tup (da_es (de_tup (da_es de_str (da_es (de_mod (de_var 1) de_int) da_nil))) (da_es de_int da_nil))) (da_es (de_tup (da_es (de_tup (da_es de_str (da_es (de_tup (da_es de_str (da_es de_int da_nil))) da_nil))) (da_es de_int da_nil))) da_nil))) (de_sub (de_var 0) de_int)))) dss_nil)
    (dss_cons (ds_set (i := 2) p.toPl.nds (fun _ => rfl) (fun _ => by first | exact Or.inl rfl | exact Or.inr rfl) (de_mod (de_var 1) de_int))
    (dss_cons (ds_if (dt_w (dw_and (Cp.dt (cp_eq p.toPl) (de_var 2) de_int (nomark _)) (dw_and1 (Cp.dt cp_gt (de_var 0) de_int (nomark _))))) (dss_cons (ds_setLc (i := 3) (own := [("_law_k", 5)]) p.c p.toPl.nds (fun _ => rfl) (fun _ => rfl) (fun _ => sw_true rfl rfl rfl (by decide +kernel)) (fun _ => blkOk_by (N := ["_law_many", "_law_n", "_law_way", "_law_parts", "_law_some", "_law_k", "_law_one", "_law_deep"]) (sc := defScope s__law_sized) (by decide +kernel)) (di_range1 p.toPl T.b_range (da_rd de_int da_nil)) (dg_name (p.blk _).toPl.nds (fun _ => rfl) (fun _ => by first | exact Or.inl rfl | exact Or.inr rfl)) dts_nil (de_fn (p.blk _) H._law_sized (da_es (de_fdiv (de_add (p.blk _).toPl (de_sub (de_var 0) de_int) (de_var 5)) de_int) (da_es (de_add (p.blk _).toPl (de_fdiv (de_var 1) de_int) (de_var 5)) da_nil)) (len_cons (len_cons (fun _ _ _ h => len_nil h)))))
    (dss_one (ds_ret (de_tup (da_es (de_add p.toPl (de_tup (da_es de_str da_nil)) (Fb.de (fb_tuple p.toPl) p.toPl T.b_tuple (da_rd (de_lc (own := [("_law_one", 6), ("_law_deep", 7)]) p.c p.toPl.nds (fun _ => blkOk_by (N := ["_law_many", "_law_n", "_law_way", "_law_parts", "_law_some", "_law_k", "_law_one", "_law_deep"]) (sc := defScope s__law_sized) (by decide +kernel)) (di_any p.toPl (de_var 3)) (dg_tup (p.blk _).k (p.blk _).c (dgs_cons (dg_name (p.blk _).toPl.nds (fun _ => rfl) (fun _ => by first | exact Or.inl rfl | exact Or.inr rfl)) (dgs_cons (dg_name (p.blk _).toPl.nds (fun _ => rfl) (fun _ => by first | exact Or.inl rfl | exact Or.inr rfl)) dgs_nil))) dts_nil (de_var 6)) da_nil))) (da_es (de_add p.toPl de_int (Fb.de (fb_max p.toPl) p.toPl T.b_max (da_rd (de_lc (own := [("_law_one", 6), ("_law_deep", 7)]) p.c p.toPl.nds (fun _ => blkOk_by (N := ["_law_many", "_law_n", "_law_way", "_law_parts", "_law_some", "_law_k", "_law_one", "_law_deep"]) (sc := defScope s__law_sized) (by decide +kernel)) (di_any p.toPl (de_var 3)) (dg_tup (p.blk _).k (p.blk _).c (dgs_cons (dg_name (p.blk _).toPl.nds (fun _ => rfl) (fun _ => by first | exact Or.inl rfl | exact Or.inr rfl)) (dgs_cons (dg_name (p.blk _).toPl.nds (fun _ => rfl) (fun _ => by first | exact Or.inl rfl | exact Or.inr rfl)) dgs_nil))) dts_nil (de_var 7)) da_nil))) da_nil)))))) dss_nil)
    (dss_cons (ds_setLc (i := 3) (own := [("_law_k", 5)]) p.c p.toPl.nds (fun _ => rfl) (fun _ => rfl) (fun _ => sw_true rfl rfl rfl (by decide +kernel)) (fun _ => blkOk_by (N := ["_law_many", "_law_n", "_law_way", "_law_parts", "_law_some", "_law_k", "_law_one", "_law_deep"]) (sc := defScope s__law_sized) (by decide +kernel)) (di_range1 p.toPl T.b_range (da_rd de_int da_nil)) (dg_name (p.blk _).toPl.nds (fun _ => rfl) (fun _ => by first | exact Or.inl rfl | exact Or.inr rfl)) dts_nil (de_fn (p.blk _) H._law_sized (da_es (de_fdiv (de_add (p.blk _).toPl (de_sub (de_var 0) de_int) (de_var 5)) de_int) (da_es (de_add (p.blk _).toPl (de_fdiv (de_var 1) de_int) (de_var 5)) da_nil)) (len_cons (len_cons (fun _ _ _ h => len_nil h)))))
    (dss_cons (ds_set (i := 4) p.toPl.nds (fun _ => rfl) (fun _ => by first | exact Or.inl rfl | exact Or.inr rfl) (Fb.de (fb_tuple p.toPl) p.toPl T.b_tuple (da_rd (de_lc (own := [("_law_one", 6), ("_law_deep", 7)]) p.c p.toPl.nds (fun _ => blkOk_by (N := ["_law_many", "_law_n", "_law_way", "_law_parts", "_law_some", "_law_k", "_law_one", "_law_deep"]) (sc := defScope s__law_sized) (by decide +kernel)) (di_any p.toPl (de_var 3)) (dg_tup (p.blk _).k (p.blk _).c (dgs_cons (dg_name (p.blk _).toPl.nds (fun _ => rfl) (fun _ => by first | exact Or.inl rfl | exact Or.inr rfl)) (dgs_cons (dg_name (p.blk _).toPl.nds (fun _ => rfl) (fun _ => by first | exact Or.inl rfl | exact Or.inr rfl)) dgs_nil))) dts_nil (de_var 6)) da_nil)))
    (dss_one (ds_ret (de_tup (da_es (de_if (Cp.dt cp_lt (de_var 2) de_int (nomark _)) (de_add p.toPl (de_tup (da_es de_str da_nil)) (de_var 4)) (de_tup (da_es de_str (da_es de_str (da_es (de_tup (da_es de_str da_nil)) (da_es (de_var 4) da_nil)))))) (da_es (de_add p.toPl de_int (Fb.de (fb_max p.toPl) p.toPl T.b_max (da_rd (de_lc (own := [("_law_one", 6), ("_law_deep", 7)]) p.c p.toPl.nds (fun _ => blkOk_by (N := ["_law_many", "_law_n", "_law_way", "_law_parts", "_law_some", "_law_k", "_law_one", "_law_deep"]) (sc := defScope s__law_sized) (by decide +kernel)) (di_any p.toPl (de_var 3)) (dg_tup (p.blk _).k (p.blk _).c (dgs_cons (dg_name (p.blk _).toPl.nds (fun _ => rfl) (fun _ => by first | exact Or.inl rfl | exact Or.inr rfl)) (dgs_cons (dg_name (p.blk _).toPl.nds (fun _ => rfl) (fun _ => by first | exact Or.inl rfl | exact Or.inr rfl)) dgs_nil))) dts_nil (de_var 7)) da_nil))) da_nil))))))))))
theorem d__law_told_right (T : Tt K mg w.params) (H : Tx P w K mg base n) : FnAt MX P w K mg base (xrK K) (n + 1) "_law_told_right" ["_law_thing"] [] (fnM 4 (m__law_told_right (mir n))) := by
  refine fnAt_succ T._law_told_right sc__law_told_right (fun f cdv A outer s Hp E hr hgu => ?_)
  have p := pc_def (P := P) (w := w) (K := K) (mg := mg) (base := base) (outer := outer) (H := Hp) (E := E) sc__law_told_right hr hgu
  exact (dss_cons (ds_set (i := 1) p.toPl.nds (fun _ => rfl) (fun _ => by first | exact Or.inl rfl | exact Or.inr rfl) (de_fn p H._law_within (da_es (de_var 0) da_nil) (len_cons (fun _ _ _ h => len_nil h))))
    (dss_cons (ds_for own_def p.c (di_range1 p.toPl T.b_range (da_rd de_int da_nil)) (dg_name p.toPl.nds (fun _ => rfl) (fun _ => by first | exact Or.inl rfl | exact Or.inr rfl)) (dss_cons (ds_set (i := 3) p.toPl.nds (fun _ => rfl) (fun _ => by first | exact Or.inl rfl | exact Or.inr rfl) (de_fn p H.inner (da_es (de_var 0) da_nil) (len_cons (fun _ _ _ h => len_nil h))))
    (dss_cons (ds_if (Cp.dt (cp_ne p.toPl) (Fb.de (fb_reprE p H.sb) p.toPl T.b_repr (da_rd (de_var 3) da_nil)) (Fb.de (fb_reprE p H.sb) p.toPl T.b_repr (da_rd (de_var 1) da_nil)) (nomark _)) (dss_one (ds_ret de_bl)) dss_nil)
    (dss_one (ds_if (Cp.dt cp_isNot (de_var 3) de_non (nomark _)) (dss_one (ds_expr (de_append (i := 3) p.k (fun _ => rfl) (fun _ => by first | exact Or.inl rfl | exact Or.inr (Or.inl rfl) | exact Or.inr (Or.inr rfl)) (by decide) (by decide) de_non))) dss_nil)))))
    (dss_one (ds_ret (Cp.de (cp_eq p.toPl) (Fb.de (fb_reprE p H.sb) p.toPl T.b_repr (da_rd (de_fn p H.many_in (da_es (de_var 0) da_nil) (len_cons (fun _ _ _ h => len_nil h))) da_nil)) (Fb.de (fb_reprE p H.sb) p.toPl T.b_repr (da_rd (de_fn p H._law_counted (da_es (de_var 0) da_nil) (len_cons (fun _ _ _ h => len_nil h))) da_nil)) (nomark _))))))
theorem d__law_bounds_right (T : Tt K mg w.params) (H : Tx P w K mg base n) : FnAt MX P w K mg base (xrK K) (n + 1) "_law_bounds_right" ["_law_n"] [] (fnM 9 (m__law_bounds_right (mir n))) := by
  refine fnAt_succ T._law_bounds_right sc__law_bounds_right (fun f cdv A outer s Hp E hr hgu => ?_)
  have p := pc_def (P := P) (w := w) (K := K) (mg := mg) (base := base) (outer := outer) (H := Hp) (E := E) sc__law_bounds_right hr hgu
  exact (dss_cons (ds_set (i := 1) p.toPl.nds (fun _ => rfl) (fun _ => by first | exact Or.inl rfl | exact Or.inr rfl) (de_ixA p.toPl (de_lst (da_es de_int (da_es de_int (da_es de_int (da_es (de_add p.toPl de_int (de_mod (de_fdiv (de_var 0) de_int) de_int)) (da_es (de_add p.toPl de_int (de_mod (de_fdiv (de_var 0) de_int) de_int)) da_nil)))))) (de_mod (de_var 0) de_int)))
    (dss_cons (ds_asg (de_fn p H._law_sized (da_es (de_var 1) (da_es (de_fdiv (de_var 0) de_int) da_nil)) (len_cons (len_cons (fun _ _ _ h => len_nil h)))) (dg_tup p.k p.c (dgs_cons (dg_name p.toPl.nds (fun _ => rfl) (fun _ => by first | exact Or.inl rfl | exact Or.inr rfl)) (dgs_cons (dg_name p.toPl.nds (fun _ => rfl) (fun _ => by first | exact Or.inl rfl | exact Or.inr rfl)) dgs_nil))))
    (dss_cons (ds_if (Cp.dt (cp_ne p.toPl) (de_fn p H.many_in (da_es (de_var 2) da_nil) (len_cons (fun _ _ _ h => len_nil h))) (de_if (Cp.dt cp_lt (de_var 1) de_int (nomark _)) (de_tup (da_es (de_var 1) (da_es (de_var 3) da_nil))) (de_tup (da_es de_int (da_es de_int da_nil)))) (nomark _)) (dss_one (ds_ret de_bl)) dss_nil)
    (dss_cons (ds_set (i := 4) p.toPl.nds (fun _ => rfl) (fun _ => by first | exact Or.inl rfl | exact Or.inr rfl) (de_ixA p.toPl (de_lst (da_es de_int (da_es de_int (da_es de_int (da_es (de_add p.toPl de_int (de_mod (de_fdiv (de_var 0) de_int) de_int)) (da_es (de_add p.toPl de_int (de_mod (de_fdiv (de_var 0) de_int) de_int)) da_nil)))))) (de_mod (de_fdiv (de_var 0) de_int) de_int)))
    (dss_cons (ds_set (i := 5) p.toPl.nds (fun _ => rfl) (fun _ => by first | exact Or.inl rfl | exact Or.inr rfl) (de_tup (da_es de_str (da_es de_int da_nil))))
    (dss_cons (ds_for own_def p.c (di_range1 p.toPl T.b_range (da_rd (de_sub (de_var 4) de_int) da_nil)) (dg_name p.toPl.nds (fun _ => rfl) (fun _ => by first | exact Or.inl rfl | exact Or.inr rfl)) (dss_one (ds_set (i := 5) p.toPl.nds (fun _ => rfl) (fun _ => by first | exact Or.inl rfl | exact Or.inr rfl) (de_tup (da_es de_str (da_es (de_var 5) da_nil))))))
    (dss_cons (ds_if (Cp.dt (cp_ne p.toPl) (de_fn p H.many_in (da_es (de_var 5) da_nil) (len_cons (fun _ _ _ h => len_nil h))) (de_if (Cp.dt cp_lt (de_var 4) de_int (nomark _)) (de_tup (da_es (de_var 4) (da_es (de_var 4) da_nil))) (de_tup (da_es de_int (da_es de_int da_nil)))) (nomark _)) (dss_one (ds_ret de_bl)) dss_nil)
    (dss_cons (ds_set (i := 7) p.toPl.nds (fun _ => rfl) (fun _ => by first | exact Or.inl rfl | exact Or.inr rfl) (de_tup (da_es de_str (da_es de_int da_nil))))
    (dss_cons (ds_for own_def p.c (di_range1 p.toPl T.b_range (da_rd (de_mod (de_fdiv (de_var 0) de_int) de_int) da_nil)) (dg_name p.toPl.nds (fun _ => rfl) (fun _ => by first | exact Or.inl rfl | exact Or.inr rfl)) (dss_one (ds_set (i := 7) p.toPl.nds (fun _ => rfl) (fun _ => by first | exact Or.inl rfl | exact Or.inr rfl) (de_tup (da_es de_str (da_es (de_var 7) (da_es (de_var 7) da_nil)))))))
    (dss_cons (ds_set (i := 8) p.toPl.nds (fun _ => rfl) (fun _ => by first | exact Or.inl rfl | exact Or.inr rfl) de_int)
    (dss_cons (ds_for own_def p.c (di_range1 p.toPl T.b_range (da_rd (de_mod (de_fdiv (de_var 0) de_int) de_int) da_nil)) (dg_name p.toPl.nds (fun _ => rfl) (fun _ => by first | exact Or.inl rfl | exact Or.inr rfl)) (dss_one (ds_set (i := 8) p.toPl.nds (fun _ => rfl) (fun _ => by first | exact Or.inl rfl | exact Or.inr rfl) (de_add p.toPl (de_mul de_int (de_var 8)) de_int))))
    (dss_one (ds_ret (Cp.de (cp_eq p.toPl) (de_fn p H.many_in (da_es (de_var 7) da_nil) (len_cons (fun _ _ _ h => len_nil h))) (de_if (Cp.dt cp_lt (de_var 8) de_int (nomark _)) (de_tup (da_es (de_var 8) (da_es (de_add p.toPl de_int (de_mod (de_fdiv (de_var 0) de_int) de_int)) da_nil))) (de_tup (da_es de_int (da_es de_int da_nil)))) (nomark _)))))))))))))))
theorem d__law_deep_right (T : Tt K mg w.params) (H : Tx P w K mg base n) : FnAt MX P w K mg base (xrK K) (n + 1) "_law_deep_right" ["_law_n"] [] (fnM 4 (m__law_deep_right (mir n))) := by
  refine fnAt_succ T._law_deep_right sc__law_deep_right (fun f cdv A outer s Hp E hr hgu => ?_)
  have p := pc_def (P := P) (w := w) (K := K) (mg := mg) (base := base) (outer := outer) (H := Hp) (E := E) sc__law_deep_right hr hgu
  exact (dss_cons (ds_asg (de_tup (da_es (de_tup (da_es de_str (da_es de_int da_nil))) (da_es de_non da_nil))) (dg_tup p.k p.c (dgs_cons (dg_name p.toPl.nds (fun _ => rfl) (fun _ => by first | exact Or.inl rfl | exact Or.inr rfl)) (dgs_cons (dg_name p.toPl.nds (fun _ => rfl) (fun _ => by first | exact Or.inl rfl | exact Or.inr rfl)) dgs_nil))))
    (dss_cons (ds_for own_def p.c (di_range1 p.toPl T.b_range (da_rd (de_add p.toPl de_int (de_mod (de_var 0) (de_ixA p.toPl (de_lst (da_es de_int (da_es de_int (da_es de_int da_nil)))) (de_mod (de_fdiv (de_var 0) de_int) de_int)))) da_nil)) (dg_name p.toPl.nds (fun _ => rfl) (fun _ => by first | exact Or.inl rfl | exact Or.inr rfl)) (dss_cons (ds_set (i := 1) p.toPl.nds (fun _ => rfl) (fun _ => by first | exact Or.inl rfl | exact Or.inr rfl) (de_ixA p.toPl (de_lst (da_es (de_tup (da_es de_str (da_es (de_var 1) da_nil))) (da_es (de_tup (da_es de_str (da_es (de_var 1) (da_es de_non da_nil)))) (da_es (de_tup (da_es de_str (da_es de_str (da_es de_non (da_es (de_tup (da_es (de_var 1) da_nil)) da_nil))))) da_nil)))) (de_mod (de_fdiv (de_var 0) de_int) de_int)))
    (dss_one (ds_set (i := 2) p.toPl.nds (fun _ => rfl) (fun _ => by first | exact Or.inl rfl | exact Or.inr rfl) (de_ixA p.toPl (de_lst (da_es (de_tup (da_es (de_var 2) da_nil)) (da_es (de_tup (da_es de_str (da_es (de_var 2) da_nil))) (da_es (de_tup (da_es de_str (da_es (de_var 2) da_nil))) da_nil)))) (de_mod (de_fdiv (de_var 0) de_int) de_int))))))
    (dss_cons (ds_if (dt_w (dw_or (Cp.dt (cp_ne p.toPl) (de_fn p H.many_in (da_es (de_var 1) da_nil) (len_cons (fun _ _ _ h => len_nil h))) (de_tup (da_es de_int (da_es de_int da_nil))) (nomark _)) (dw_or1 (Cp.dt (cp_ne p.toPl) (Fb.de (fb_len p.toPl) p.toPl T.b_len (da_rd (de_fn p H.inner (da_es (de_var 1) da_nil) (len_cons (fun _ _ _ h => len_nil h))) da_nil)) de_int (nomark _))))) (dss_one (ds_ret de_bl)) dss_nil)
    (dss_cons (ds_if (dt_w (dw_or (Cp.dt (cp_ne p.toPl) (de_fn p H.many_in (da_es (de_var 2) da_nil) (len_cons (fun _ _ _ h => len_nil h))) (de_tup (da_es de_int (da_es de_int da_nil))) (nomark _)) (dw_or1 (Cp.dt cp_isNot (de_fn p H.inner (da_es (de_var 2) da_nil) (len_cons (fun _ _ _ h => len_nil h))) de_non (nomark _))))) (dss_one (ds_ret de_bl)) dss_nil)
    (dss_one (ds_ret (de_and (Cp.de (cp_eq p.toPl) (de_fn p H.many_in (da_es (de_tup (da_es de_str (da_es (de_var 2) (da_es (de_tup (da_es de_str (da_es (de_var 2) da_nil))) da_nil)))) da_nil) (len_cons (fun _ _ _ h => len_nil h))) (de_tup (da_es de_int (da_es de_int da_nil))) (nomark _)) (de_one (Cp.de (cp_eq p.toPl) (de_fn p H.many_in (da_es (de_tup (da_es de_str (da_es (de_var 1) (da_es (de_var 2) da_nil)))) da_nil) (len_cons (fun _ _ _ h => len_nil h))) (de_tup (da_es de_int (da_es de_int da_nil))) (nomark _))))))))))
theorem tx_zero (T : Tt K mg w.params) (sb : SysB base) : Tx P w K mg base 0 := ⟨sb, fnAt_zero T.inner, fnAt_zero T.many_in, fnAt_zero T._law_cell, fnAt_zero T._law_signs, fnAt_zero T._law_within, fnAt_zero T._law_counted, fnAt_zero T._law_odd, fnAt_zero T._law_form, fnAt_zero T._law_sized, fnAt_zero T._law_told_right, fnAt_zero T._law_bounds_right, fnAt_zero T._law_deep_right⟩
theorem tx_succ (T : Tt K mg w.params) (H : Tx P w K mg base n) : Tx P w K mg base (n + 1) := ⟨H.sb, d_inner T H, d_many_in T H, d__law_cell T H, d__law_signs T H, d__law_within T H, d__law_counted T H, d__law_odd T H, d__law_form T H, d__law_sized T H, d__law_told_right T H, d__law_bounds_right T H, d__law_deep_right T H⟩
theorem tx_all (T : Tt K mg w.params) (sb : SysB base) : ∀ n : Nat, Tx P w K mg base n
  | 0 => tx_zero T sb
  | n + 1 => tx_succ T (tx_all T sb n)
theorem d_law (T : Tt K mg w.params) (sb : SysB base) {f : Addr} {fd : FuncData} (hF : FunD K "law" "law" (defArgs s_law) (defBody s_law) (defScope s_law) [] [] f fd)
    (hp : ∀ ns : List Int, ns.length ≤ 63 → (∀ z ∈ ns, Builtin.Int.intBits z ≤ 1048576) → ∃ z', m_law (mir lawLevel) (zX 3 ns) = .ok (.rt (.d (.bl true))) z') : FnG P w K mg base (L2.CX P w) (lawLevel + 9) f fd ["_law_script"] (spLaw K) := by
  have H : Tx P w K mg base lawLevel := tx_all T sb lawLevel
  refine okG hF sc_law (fun vs H Q E h => by obtain ⟨a, ns, rfl, _⟩ := h; rfl) (fun cdv A outer s Hp vs Q E hr hgu h => ?_)
  have p := pc_def (P := P) (w := w) (K := K) (mg := mg) (base := base) (outer := outer) (H := Hp) (E := E) sc_law hr hgu
  obtain ⟨t, pt, ct⟩ : DSs MX (xrK K) K (fun _ : Unit => cxOf (L2.CX P w) P w K mg base ["_law_script", "_law_spot", "_law_k", "_law_thing"] "law" (defScope s_law) f cdv A outer s Hp E) (fun cls d _ H => E cls d H) (defBody s_law) (m_law (mir lawLevel)) :=
    (dss_cons (ds_set (i := 1) p.toPl.nds (fun _ => rfl) (fun _ => by first | exact Or.inl rfl | exact Or.inr rfl) (de_newL (da_es de_int da_nil)))
    (dss_cons (ds_for own_def p.c (di_range1 p.toPl T.b_range (da_rd (de_add p.toPl de_int (Fb.de (fb_min p.toPl) p.toPl T.b_min (da_rd de_int (da_rd (Fb.de (fb_len p.toPl) p.toPl T.b_len (da_rd (de_var 0) da_nil)) da_nil)))) da_nil)) (dg_name p.toPl.nds (fun _ => rfl) (fun _ => by first | exact Or.inl rfl | exact Or.inr rfl)) (dss_cons (ds_set (i := 3) p.toPl.nds (fun _ => rfl) (fun _ => by first | exact Or.inl rfl | exact Or.inr rfl) (de_fn p H._law_form (da_es (de_var 0) (da_es (de_var 1) (da_es (de_add p.toPl de_int (de_mod (de_var 2) de_int)) da_nil))) (len_cons (len_cons (len_cons (fun _ _ _ h => len_nil h))))))
    (dss_one (ds_if (dt_w (dw_or (dt_not (dt_tru p.toPl (de_fn p H._law_told_right (da_es (de_var 3) da_nil) (len_cons (fun _ _ _ h => len_nil h))))) (dw_or1 (dt_not (dt_tru p.toPl (de_fn p H._law_told_right (da_es (de_fn p H._law_odd (da_es (de_fn p H._law_cell (da_es (de_var 0) (da_es (de_var 1) da_nil)) (len_cons (len_cons (fun _ _ _ h => len_nil h)))) da_nil) (len_cons (fun _ _ _ h => len_nil h))) da_nil) (len_cons (fun _ _ _ h => len_nil h)))))))) (dss_one (ds_ret de_bl)) dss_nil))))
    (dss_one (ds_ret (de_and (de_fn p H._law_bounds_right (da_es (de_fn p H._law_cell (da_es (de_var 0) (da_es (de_var 1) da_nil)) (len_cons (len_cons (fun _ _ _ h => len_nil h)))) da_nil) (len_cons (fun _ _ _ h => len_nil h))) (de_one (de_fn p H._law_deep_right (da_es (de_fn p H._law_cell (da_es (de_var 0) (da_es (de_var 1) da_nil)) (len_cons (len_cons (fun _ _ _ h => len_nil h)))) da_nil) (len_cons (fun _ _ _ h => len_nil h)))))))))
  exact ⟨_, pt (), law_runX (N := ["_law_script", "_law_spot", "_law_k", "_law_thing"]) (by decide) hp ct h⟩
end
/-! ### the end -/
theorem all_mk {l : PySem.W.OpenLaw} {w : World} {K : PySem.W.Frag} {h : Heap} {mg : Str → Option Value} {fa f0 f1 f2 f3 f4 f5 f6 f7 f8 f9 f10 f11 f12 : Addr} (X : K.In h) (G0 : h.Ns mainGlobals mg) (hfa : mg "law" = some (.ref fa))
    {od0 an0 od1 an1 od2 an2 od3 an3 od4 an4 od5 an5 od6 an6 od7 an7 od8 an8 od9 an9 od10 an10 od11 an11 od12 an12 : Option Addr} {sl0 sl1 sl2 sl3 sl4 sl5 sl6 sl7 sl8 sl9 sl10 sl11 sl12 : Array (Option Value)} {oc0 kV0 dc0 pm0 cd0 ct0 oc1 kV1 dc1 pm1 cd1 ct1 oc2 kV2 dc2 pm2 cd2 ct2 oc3 kV3 dc3 pm3 cd3 ct3 oc4 kV4 dc4 pm4 cd4 ct4 oc5 kV5 dc5 pm5 cd5 ct5 oc6 kV6 dc6 pm6 cd6 ct6 oc7 kV7 dc7 pm7 cd7 ct7 oc8 kV8 dc8 pm8 cd8 ct8 oc9 kV9 dc9 pm9 cd9 ct9 oc10 kV10 dc10 pm10 cd10 ct10 oc11 kV11 dc11 pm11 cd11 ct11 oc12 kV12 dc12 pm12 cd12 ct12 : Value}
    (a0 : PySem.W.nsIn K mainGlobals "inner" = some (some (.ref f0))) (l0 : K.lookup f0 = some ⟨oc0, od0, .func (PySem.W.fnOf "inner" "inner" (defArgs s_inner) (defBody s_inner) (defScope s_inner) .none kV0 dc0 pm0 an0 cd0 ct0), sl0⟩) (c0 : PySem.W.codeIn K cd0 "inner" = true) (k0 : PySem.W.keepIn K (.ref f0) = true)
    (a1 : PySem.W.nsIn K mainGlobals "many_in" = some (some (.ref f1))) (l1 : K.lookup f1 = some ⟨oc1, od1, .func (PySem.W.fnOf "many_in" "many_in" (defArgs s_many_in) (defBody s_many_in) (defScope s_many_in) .none kV1 dc1 pm1 an1 cd1 ct1), sl1⟩) (c1 : PySem.W.codeIn K cd1 "many_in" = true) (k1 : PySem.W.keepIn K (.ref f1) = true)
    (a2 : PySem.W.nsIn K mainGlobals "_law_cell" = some (some (.ref f2))) (l2 : K.lookup f2 = some ⟨oc2, od2, .func (PySem.W.fnOf "_law_cell" "_law_cell" (defArgs s__law_cell) (defBody s__law_cell) (defScope s__law_cell) .none kV2 dc2 pm2 an2 cd2 ct2), sl2⟩) (c2 : PySem.W.codeIn K cd2 "_law_cell" = true) (k2 : PySem.W.keepIn K (.ref f2) = true)
    (a3 : PySem.W.nsIn K mainGlobals "_law_signs" = some (some (.ref f3))) (l3 : K.lookup f3 = some ⟨oc3, od3, .func (PySem.W.fnOf "_law_signs" "_law_signs" (defArgs s__law_signs) (defBody s__law_signs) (defScope s__law_signs) .none kV3 dc3 pm3 an3 cd3 ct3), sl3⟩) (c3 : PySem.W.codeIn K cd3 "_law_signs" = true) (k3 : PySem.W.keepIn K (.ref f3) = true)
    (a4 : PySem.W.nsIn K mainGlobals "_law_within" = some (some (.ref f4))) (l4 : K.lookup f4 = some ⟨oc4, od4, .func (PySem.W.fnOf "_law_within" "_law_within" (defArgs s__law_within) (defBody s__law_within) (defScope s__law_within) .none kV4 dc4 pm4 an4 cd4 ct4), sl4⟩) (c4 : PySem.W.codeIn K cd4 "_law_within" = true) (k4 : PySem.W.keepIn K (.ref f4) = true)
    (a5 : PySem.W.nsIn K mainGlobals "_law_counted" = some (some (.ref f5))) (l5 : K.lookup f5 = some ⟨oc5, od5, .func (PySem.W.fnOf "_law_counted" "_law_counted" (defArgs s__law_counted) (defBody s__law_counted) (defScope s__law_counted) .none kV5 dc5 pm5 an5 cd5 ct5), sl5⟩) (c5 : PySem.W.codeIn K cd5 "_law_counted" = true) (k5 : PySem.W.keepIn K (.ref f5) = true)
    (a6 : PySem.W.nsIn K mainGlobals "_law_odd" = some (some (.ref f6))) (l6 : K.lookup f6 = some ⟨oc6, od6, .func (PySem.W.fnOf "_law_odd" "_law_odd" (defArgs s__law_odd) (defBody s__law_odd) (defScope s__law_odd) .none kV6 dc6 pm6 an6 cd6 ct6), sl6⟩) (c6 : PySem.W.codeIn K cd6 "_law_odd" = true) (k6 : PySem.W.keepIn K (.ref f6) = true)
    (a7 : PySem.W.nsIn K mainGlobals "_law_form" = some (some (.ref f7))) (l7 : K.lookup f7 = some ⟨oc7, od7, .func (PySem.W.fnOf "_law_form" "_law_form" (defArgs s__law_form) (defBody s__law_form) (defScope s__law_form) .none kV7 dc7 pm7 an7 cd7 ct7), sl7⟩) (c7 : PySem.W.codeIn K cd7 "_law_form" = true) (k7 : PySem.W.keepIn K (.ref f7) = true)
    (a8 : PySem.W.nsIn K mainGlobals "_law_sized" = some (some (.ref f8))) (l8 : K.lookup f8 = some ⟨oc8, od8, .func (PySem.W.fnOf "_law_sized" "_law_sized" (defArgs s__law_sized) (defBody s__law_sized) (defScope s__law_sized) .none kV8 dc8 pm8 an8 cd8 ct8), sl8⟩) (c8 : PySem.W.codeIn K cd8 "_law_sized" = true) (k8 : PySem.W.keepIn K (.ref f8) = true)
    (a9 : PySem.W.nsIn K mainGlobals "_law_told_right" = some (some (.ref f9))) (l9 : K.lookup f9 = some ⟨oc9, od9, .func (PySem.W.fnOf "_law_told_right" "_law_told_right" (defArgs s__law_told_right) (defBody s__law_told_right) (defScope s__law_told_right) .none kV9 dc9 pm9 an9 cd9 ct9), sl9⟩) (c9 : PySem.W.codeIn K cd9 "_law_told_right" = true) (k9 : PySem.W.keepIn K (.ref f9) = true)
    (a10 : PySem.W.nsIn K mainGlobals "_law_bounds_right" = some (some (.ref f10))) (l10 : K.lookup f10 = some ⟨oc10, od10, .func (PySem.W.fnOf "_law_bounds_right" "_law_bounds_right" (defArgs s__law_bounds_right) (defBody s__law_bounds_right) (defScope s__law_bounds_right) .none kV10 dc10 pm10 an10 cd10 ct10), sl10⟩) (c10 : PySem.W.codeIn K cd10 "_law_bounds_right" = true) (k10 : PySem.W.keepIn K (.ref f10) = true)
    (a11 : PySem.W.nsIn K mainGlobals "_law_deep_right" = some (some (.ref f11))) (l11 : K.lookup f11 = some ⟨oc11, od11, .func (PySem.W.fnOf "_law_deep_right" "_law_deep_right" (defArgs s__law_deep_right) (defBody s__law_deep_right) (defScope s__law_deep_right) .none kV11 dc11 pm11 an11 cd11 ct11), sl11⟩) (c11 : PySem.W.codeIn K cd11 "_law_deep_right" = true) (k11 : PySem.W.keepIn K (.ref f11) = true)
    (a12 : PySem.W.nsIn K mainGlobals "law" = some (some (.ref f12))) (l12 : K.lookup f12 = some ⟨oc12, od12, .func (PySem.W.fnOf "law" "law" (defArgs s_law) (defBody s_law) (defScope s_law) .none kV12 dc12 pm12 an12 cd12 ct12), sl12⟩) (c12 : PySem.W.codeIn K cd12 "law" = true) (k12 : PySem.W.keepIn K (.ref f12) = true)
    (z_int : PySem.W.nsIn K mainGlobals "int" = some none)
    (z_isinstance : PySem.W.nsIn K mainGlobals "isinstance" = some none)
    (z_len : PySem.W.nsIn K mainGlobals "len" = some none)
    (z_list : PySem.W.nsIn K mainGlobals "list" = some none)
    (z_max : PySem.W.nsIn K mainGlobals "max" = some none)
    (z_min : PySem.W.nsIn K mainGlobals "min" = some none)
    (z_range : PySem.W.nsIn K mainGlobals "range" = some none)
    (z_repr : PySem.W.nsIn K mainGlobals "repr" = some none)
    (z_str : PySem.W.nsIn K mainGlobals "str" = some none)
    (z_sum : PySem.W.nsIn K mainGlobals "sum" = some none)
    (z_tuple : PySem.W.nsIn K mainGlobals "tuple" = some none)
    (z_zip : PySem.W.nsIn K mainGlobals "zip" = some none)
    {ca_SIZES : Addr} {nn_SIZES : Nat} {tk0_SIZES tv0_SIZES tk1_SIZES tv1_SIZES tk2_SIZES tv2_SIZES tk3_SIZES tv3_SIZES tk4_SIZES tv4_SIZES tk5_SIZES tv5_SIZES tk6_SIZES tv6_SIZES tk7_SIZES tv7_SIZES tk8_SIZES tv8_SIZES tk9_SIZES tv9_SIZES tk10_SIZES tv10_SIZES tk11_SIZES tv11_SIZES tk12_SIZES tv12_SIZES tk13_SIZES tv13_SIZES tk14_SIZES tv14_SIZES tk15_SIZES tv15_SIZES tk16_SIZES tv16_SIZES tk17_SIZES tv17_SIZES tk18_SIZES tv18_SIZES tk19_SIZES tv19_SIZES tk20_SIZES tv20_SIZES tk21_SIZES tv21_SIZES : Tok}  (g_SIZES : PySem.W.nsIn K mainGlobals "SIZES" = some (some (.ref ca_SIZES))) (gl_SIZES : K.lookup ca_SIZES = some ⟨.type "dict", none, .dict #[⟨PyData.keyHash w.params "held", .str "held" tk0_SIZES, .int 2 tv0_SIZES⟩, ⟨PyData.keyHash w.params "use", .str "use" tk1_SIZES, .int 2 tv1_SIZES⟩, ⟨PyData.keyHash w.params "pair", .str "pair" tk2_SIZES, .int 3 tv2_SIZES⟩, ⟨PyData.keyHash w.params "first", .str "first" tk3_SIZES, .int 2 tv3_SIZES⟩, ⟨PyData.keyHash w.params "second", .str "second" tk4_SIZES, .int 2 tv4_SIZES⟩, ⟨PyData.keyHash w.params "either", .str "either" tk5_SIZES, .int 3 tv5_SIZES⟩, ⟨PyData.keyHash w.params "other", .str "other" tk6_SIZES, .int 3 tv6_SIZES⟩, ⟨PyData.keyHash w.params "cases", .str "cases" tk7_SIZES, .int 4 tv7_SIZES⟩, ⟨PyData.keyHash w.params "take", .str "take" tk8_SIZES, .int 3 tv8_SIZES⟩, ⟨PyData.keyHash w.params "give", .str "give" tk9_SIZES, .int 3 tv9_SIZES⟩, ⟨PyData.keyHash w.params "void", .str "void" tk10_SIZES, .int 3 tv10_SIZES⟩, ⟨PyData.keyHash w.params "twice", .str "twice" tk11_SIZES, .int 2 tv11_SIZES⟩, ⟨PyData.keyHash w.params "each", .str "each" tk12_SIZES, .int 3 tv12_SIZES⟩, ⟨PyData.keyHash w.params "at", .str "at" tk13_SIZES, .int 3 tv13_SIZES⟩, ⟨PyData.keyHash w.params "some", .str "some" tk14_SIZES, .int 5 tv14_SIZES⟩, ⟨PyData.keyHash w.params "open", .str "open" tk15_SIZES, .int 3 tv15_SIZES⟩, ⟨PyData.keyHash w.params "alike", .str "alike" tk16_SIZES, .int 2 tv16_SIZES⟩, ⟨PyData.keyHash w.params "swap", .str "swap" tk17_SIZES, .int 4 tv17_SIZES⟩, ⟨PyData.keyHash w.params "members", .str "members" tk18_SIZES, .int 4 tv18_SIZES⟩, ⟨PyData.keyHash w.params "unlike", .str "unlike" tk19_SIZES, .int 3 tv19_SIZES⟩, ⟨PyData.keyHash w.params "fold", .str "fold" tk20_SIZES, .int 4 tv20_SIZES⟩, ⟨PyData.keyHash w.params "unfold", .str "unfold" tk21_SIZES, .int 2 tv21_SIZES⟩] nn_SIZES, #[]⟩) (gs_SIZES : (ca_SIZES == sysModules) = false) 
    {ca_SPOTS : Addr} {nn_SPOTS : Nat} {tk0_SPOTS tk1_SPOTS tk2_SPOTS tk3_SPOTS tk4_SPOTS tk5_SPOTS tk6_SPOTS tk7_SPOTS tk8_SPOTS tk9_SPOTS tk10_SPOTS tk11_SPOTS tk12_SPOTS tk13_SPOTS tk14_SPOTS tk15_SPOTS tk16_SPOTS tk17_SPOTS tk18_SPOTS tk19_SPOTS tk20_SPOTS : Tok} {vr0_SPOTS : Addr} {vd0_SPOTS : Option Addr} {vs0_SPOTS : Array (Option Value)} {vn0_SPOTS : Nat} {vr1_SPOTS : Addr} {vd1_SPOTS : Option Addr} {vs1_SPOTS : Array (Option Value)} {vn1_SPOTS : Nat} {vr2_SPOTS : Addr} {vd2_SPOTS : Option Addr} {vs2_SPOTS : Array (Option Value)} {vn2_SPOTS : Nat} {vt2_0_SPOTS vt2_1_SPOTS : Tok} {vr3_SPOTS : Addr} {vd3_SPOTS : Option Addr} {vs3_SPOTS : Array (Option Value)} {vn3_SPOTS : Nat} {vt3_0_SPOTS : Tok} {vr4_SPOTS : Addr} {vd4_SPOTS : Option Addr} {vs4_SPOTS : Array (Option Value)} {vn4_SPOTS : Nat} {vt4_0_SPOTS : Tok} {vr5_SPOTS : Addr} {vd5_SPOTS : Option Addr} {vs5_SPOTS : Array (Option Value)} {vn5_SPOTS : Nat} {vt5_0_SPOTS : Tok} {vr6_SPOTS : Addr} {vd6_SPOTS : Option Addr} {vs6_SPOTS : Array (Option Value)} {vn6_SPOTS : Nat} {vt6_0_SPOTS : Tok} {vr7_SPOTS : Addr} {vd7_SPOTS : Option Addr} {vs7_SPOTS : Array (Option Value)} {vn7_SPOTS : Nat} {vt7_0_SPOTS vt7_1_SPOTS vt7_2_SPOTS : Tok} {vr8_SPOTS : Addr} {vd8_SPOTS : Option Addr} {vs8_SPOTS : Array (Option Value)} {vn8_SPOTS : Nat} {vt8_0_SPOTS : Tok} {vr9_SPOTS : Addr} {vd9_SPOTS : Option Addr} {vs9_SPOTS : Array (Option Value)} {vn9_SPOTS : Nat} {vt9_0_SPOTS vt9_1_SPOTS : Tok} {vr10_SPOTS : Addr} {vd10_SPOTS : Option Addr} {vs10_SPOTS : Array (Option Value)} {vn10_SPOTS : Nat} {vt10_0_SPOTS : Tok} {vr11_SPOTS : Addr} {vd11_SPOTS : Option Addr} {vs11_SPOTS : Array (Option Value)} {vn11_SPOTS : Nat} {vt11_0_SPOTS : Tok} {vr12_SPOTS : Addr} {vd12_SPOTS : Option Addr} {vs12_SPOTS : Array (Option Value)} {vn12_SPOTS : Nat} {vt12_0_SPOTS : Tok} {vr13_SPOTS : Addr} {vd13_SPOTS : Option Addr} {vs13_SPOTS : Array (Option Value)} {vn13_SPOTS : Nat} {vt13_0_SPOTS : Tok} {vr14_SPOTS : Addr} {vd14_SPOTS : Option Addr} {vs14_SPOTS : Array (Option Value)} {vn14_SPOTS : Nat} {vt14_0_SPOTS : Tok} {vr15_SPOTS : Addr} {vd15_SPOTS : Option Addr} {vs15_SPOTS : Array (Option Value)} {vn15_SPOTS : Nat} {vt15_0_SPOTS vt15_1_SPOTS : Tok} {vr16_SPOTS : Addr} {vd16_SPOTS : Option Addr} {vs16_SPOTS : Array (Option Value)} {vn16_SPOTS : Nat} {vr17_SPOTS : Addr} {vd17_SPOTS : Option Addr} {vs17_SPOTS : Array (Option Value)} {vn17_SPOTS : Nat} {vt17_0_SPOTS vt17_1_SPOTS : Tok} {vr18_SPOTS : Addr} {vd18_SPOTS : Option Addr} {vs18_SPOTS : Array (Option Value)} {vn18_SPOTS : Nat} {vr19_SPOTS : Addr} {vd19_SPOTS : Option Addr} {vs19_SPOTS : Array (Option Value)} {vn19_SPOTS : Nat} {vt19_0_SPOTS : Tok} {vr20_SPOTS : Addr} {vd20_SPOTS : Option Addr} {vs20_SPOTS : Array (Option Value)} {vn20_SPOTS : Nat} {vt20_0_SPOTS : Tok} (g_SPOTS : PySem.W.nsIn K mainGlobals "SPOTS" = some (some (.ref ca_SPOTS))) (gl_SPOTS : K.lookup ca_SPOTS = some ⟨.type "dict", none, .dict #[⟨PyData.keyHash w.params "held", .str "held" tk0_SPOTS, .ref vr0_SPOTS⟩, ⟨PyData.keyHash w.params "use", .str "use" tk1_SPOTS, .ref vr1_SPOTS⟩, ⟨PyData.keyHash w.params "pair", .str "pair" tk2_SPOTS, .ref vr2_SPOTS⟩, ⟨PyData.keyHash w.params "first", .str "first" tk3_SPOTS, .ref vr3_SPOTS⟩, ⟨PyData.keyHash w.params "second", .str "second" tk4_SPOTS, .ref vr4_SPOTS⟩, ⟨PyData.keyHash w.params "either", .str "either" tk5_SPOTS, .ref vr5_SPOTS⟩, ⟨PyData.keyHash w.params "other", .str "other" tk6_SPOTS, .ref vr6_SPOTS⟩, ⟨PyData.keyHash w.params "cases", .str "cases" tk7_SPOTS, .ref vr7_SPOTS⟩, ⟨PyData.keyHash w.params "take", .str "take" tk8_SPOTS, .ref vr8_SPOTS⟩, ⟨PyData.keyHash w.params "give", .str "give" tk9_SPOTS, .ref vr9_SPOTS⟩, ⟨PyData.keyHash w.params "void", .str "void" tk10_SPOTS, .ref vr10_SPOTS⟩, ⟨PyData.keyHash w.params "twice", .str "twice" tk11_SPOTS, .ref vr11_SPOTS⟩, ⟨PyData.keyHash w.params "each", .str "each" tk12_SPOTS, .ref vr12_SPOTS⟩, ⟨PyData.keyHash w.params "at", .str "at" tk13_SPOTS, .ref vr13_SPOTS⟩, ⟨PyData.keyHash w.params "some", .str "some" tk14_SPOTS, .ref vr14_SPOTS⟩, ⟨PyData.keyHash w.params "open", .str "open" tk15_SPOTS, .ref vr15_SPOTS⟩, ⟨PyData.keyHash w.params "alike", .str "alike" tk16_SPOTS, .ref vr16_SPOTS⟩, ⟨PyData.keyHash w.params "swap", .str "swap" tk17_SPOTS, .ref vr17_SPOTS⟩, ⟨PyData.keyHash w.params "unlike", .str "unlike" tk18_SPOTS, .ref vr18_SPOTS⟩, ⟨PyData.keyHash w.params "fold", .str "fold" tk19_SPOTS, .ref vr19_SPOTS⟩, ⟨PyData.keyHash w.params "unfold", .str "unfold" tk20_SPOTS, .ref vr20_SPOTS⟩] nn_SPOTS, #[]⟩) (gs_SPOTS : (ca_SPOTS == sysModules) = false) (vl0_SPOTS : K.lookup vr0_SPOTS = some ⟨.type "tuple", vd0_SPOTS, .seq #[] vn0_SPOTS, vs0_SPOTS⟩) (vl1_SPOTS : K.lookup vr1_SPOTS = some ⟨.type "tuple", vd1_SPOTS, .seq #[] vn1_SPOTS, vs1_SPOTS⟩) (vl2_SPOTS : K.lookup vr2_SPOTS = some ⟨.type "tuple", vd2_SPOTS, .seq #[.int 1 vt2_0_SPOTS, .int 2 vt2_1_SPOTS] vn2_SPOTS, vs2_SPOTS⟩) (vl3_SPOTS : K.lookup vr3_SPOTS = some ⟨.type "tuple", vd3_SPOTS, .seq #[.int 1 vt3_0_SPOTS] vn3_SPOTS, vs3_SPOTS⟩) (vl4_SPOTS : K.lookup vr4_SPOTS = some ⟨.type "tuple", vd4_SPOTS, .seq #[.int 1 vt4_0_SPOTS] vn4_SPOTS, vs4_SPOTS⟩) (vl5_SPOTS : K.lookup vr5_SPOTS = some ⟨.type "tuple", vd5_SPOTS, .seq #[.int 1 vt5_0_SPOTS] vn5_SPOTS, vs5_SPOTS⟩) (vl6_SPOTS : K.lookup vr6_SPOTS = some ⟨.type "tuple", vd6_SPOTS, .seq #[.int 2 vt6_0_SPOTS] vn6_SPOTS, vs6_SPOTS⟩) (vl7_SPOTS : K.lookup vr7_SPOTS = some ⟨.type "tuple", vd7_SPOTS, .seq #[.int 1 vt7_0_SPOTS, .int 2 vt7_1_SPOTS, .int 3 vt7_2_SPOTS] vn7_SPOTS, vs7_SPOTS⟩) (vl8_SPOTS : K.lookup vr8_SPOTS = some ⟨.type "tuple", vd8_SPOTS, .seq #[.int 2 vt8_0_SPOTS] vn8_SPOTS, vs8_SPOTS⟩) (vl9_SPOTS : K.lookup vr9_SPOTS = some ⟨.type "tuple", vd9_SPOTS, .seq #[.int 1 vt9_0_SPOTS, .int 2 vt9_1_SPOTS] vn9_SPOTS, vs9_SPOTS⟩) (vl10_SPOTS : K.lookup vr10_SPOTS = some ⟨.type "tuple", vd10_SPOTS, .seq #[.int 1 vt10_0_SPOTS] vn10_SPOTS, vs10_SPOTS⟩) (vl11_SPOTS : K.lookup vr11_SPOTS = some ⟨.type "tuple", vd11_SPOTS, .seq #[.int 1 vt11_0_SPOTS] vn11_SPOTS, vs11_SPOTS⟩) (vl12_SPOTS : K.lookup vr12_SPOTS = some ⟨.type "tuple", vd12_SPOTS, .seq #[.int 2 vt12_0_SPOTS] vn12_SPOTS, vs12_SPOTS⟩) (vl13_SPOTS : K.lookup vr13_SPOTS = some ⟨.type "tuple", vd13_SPOTS, .seq #[.int 1 vt13_0_SPOTS] vn13_SPOTS, vs13_SPOTS⟩) (vl14_SPOTS : K.lookup vr14_SPOTS = some ⟨.type "tuple", vd14_SPOTS, .seq #[.int 4 vt14_0_SPOTS] vn14_SPOTS, vs14_SPOTS⟩) (vl15_SPOTS : K.lookup vr15_SPOTS = some ⟨.type "tuple", vd15_SPOTS, .seq #[.int 1 vt15_0_SPOTS, .int 2 vt15_1_SPOTS] vn15_SPOTS, vs15_SPOTS⟩) (vl16_SPOTS : K.lookup vr16_SPOTS = some ⟨.type "tuple", vd16_SPOTS, .seq #[] vn16_SPOTS, vs16_SPOTS⟩) (vl17_SPOTS : K.lookup vr17_SPOTS = some ⟨.type "tuple", vd17_SPOTS, .seq #[.int 2 vt17_0_SPOTS, .int 3 vt17_1_SPOTS] vn17_SPOTS, vs17_SPOTS⟩) (vl18_SPOTS : K.lookup vr18_SPOTS = some ⟨.type "tuple", vd18_SPOTS, .seq #[] vn18_SPOTS, vs18_SPOTS⟩) (vl19_SPOTS : K.lookup vr19_SPOTS = some ⟨.type "tuple", vd19_SPOTS, .seq #[.int 3 vt19_0_SPOTS] vn19_SPOTS, vs19_SPOTS⟩) (vl20_SPOTS : K.lookup vr20_SPOTS = some ⟨.type "tuple", vd20_SPOTS, .seq #[.int 1 vt20_0_SPOTS] vn20_SPOTS, vs20_SPOTS⟩)
    {tk_MOST_DEEP : Tok} (g_MOST_DEEP : PySem.W.nsIn K mainGlobals "MOST_DEEP" = some (some (.int 150 tk_MOST_DEEP)))
    {tk_MOST_GROUNDS : Tok} (g_MOST_GROUNDS : PySem.W.nsIn K mainGlobals "MOST_GROUNDS" = some (some (.int 4000 tk_MOST_GROUNDS)))
    (hp : ∀ ns : List Int, ns.length ≤ 63 → (∀ z ∈ ns, Builtin.Int.intBits z ≤ 1048576) → ∃ z', m_law (mir lawLevel) (zX 3 ns) = .ok (.rt (.d (.bl true))) z') :
    ∃ fd : FuncData, (∀ (s : Shared) (v : Value), BindsTo s fd ⟨[v], []⟩ [("_law_script", v)]) ∧ ∀ base : Heap, SysB base → K.In base → base.Ns mainGlobals mg → FnG l.prog w K mg base (L2.CX l.prog w) (lawLevel + 9) fa fd ["_law_script"] (spLaw K) := by
  have e := hfa.symm.trans (PySem.W.mg_of X G0 a12)
  cases e
  have T : Tt K mg w.params := ⟨fnIn_mk X G0 a0 l0 c0 k0 (fun _ _ _ _ _ _ us hl => match us, hl with | [_], _ => rfl), fnIn_mk X G0 a1 l1 c1 k1 (fun _ _ _ _ _ _ us hl => match us, hl with | [_], _ => rfl), fnIn_mk X G0 a2 l2 c2 k2 (fun _ _ _ _ _ _ us hl => match us, hl with | [_, _], _ => rfl), fnIn_mk X G0 a3 l3 c3 k3 (fun _ _ _ _ _ _ us hl => match us, hl with | [_], _ => rfl), fnIn_mk X G0 a4 l4 c4 k4 (fun _ _ _ _ _ _ us hl => match us, hl with | [_], _ => rfl), fnIn_mk X G0 a5 l5 c5 k5 (fun _ _ _ _ _ _ us hl => match us, hl with | [_], _ => rfl), fnIn_mk X G0 a6 l6 c6 k6 (fun _ _ _ _ _ _ us hl => match us, hl with | [_], _ => rfl), fnIn_mk X G0 a7 l7 c7 k7 (fun _ _ _ _ _ _ us hl => match us, hl with | [_, _, _], _ => rfl), fnIn_mk X G0 a8 l8 c8 k8 (fun _ _ _ _ _ _ us hl => match us, hl with | [_, _], _ => rfl), fnIn_mk X G0 a9 l9 c9 k9 (fun _ _ _ _ _ _ us hl => match us, hl with | [_], _ => rfl), fnIn_mk X G0 a10 l10 c10 k10 (fun _ _ _ _ _ _ us hl => match us, hl with | [_], _ => rfl), fnIn_mk X G0 a11 l11 c11 k11 (fun _ _ _ _ _ _ us hl => match us, hl with | [_], _ => rfl), PySem.W.mg_none_of X G0 z_int, PySem.W.mg_none_of X G0 z_isinstance, PySem.W.mg_none_of X G0 z_len, PySem.W.mg_none_of X G0 z_list, PySem.W.mg_none_of X G0 z_max, PySem.W.mg_none_of X G0 z_min, PySem.W.mg_none_of X G0 z_range, PySem.W.mg_none_of X G0 z_repr, PySem.W.mg_none_of X G0 z_str, PySem.W.mg_none_of X G0 z_sum, PySem.W.mg_none_of X G0 z_tuple, PySem.W.mg_none_of X G0 z_zip, ⟨.int 150, _, PySem.W.mg_of X G0 g_MOST_DEEP, ⟨_, rfl⟩, fun _ => .int _⟩, ⟨.int 4000, _, PySem.W.mg_of X G0 g_MOST_GROUNDS, ⟨_, rfl⟩, fun _ => .int _⟩, ⟨ca_SIZES, _, _, PySem.W.mg_of X G0 g_SIZES, gl_SIZES, gs_SIZES, (.cons (v := .int 2) ⟨_, rfl⟩ (fun _ => .int _) (.cons (v := .int 2) ⟨_, rfl⟩ (fun _ => .int _) (.cons (v := .int 3) ⟨_, rfl⟩ (fun _ => .int _) (.cons (v := .int 2) ⟨_, rfl⟩ (fun _ => .int _) (.cons (v := .int 2) ⟨_, rfl⟩ (fun _ => .int _) (.cons (v := .int 3) ⟨_, rfl⟩ (fun _ => .int _) (.cons (v := .int 3) ⟨_, rfl⟩ (fun _ => .int _) (.cons (v := .int 4) ⟨_, rfl⟩ (fun _ => .int _) (.cons (v := .int 3) ⟨_, rfl⟩ (fun _ => .int _) (.cons (v := .int 3) ⟨_, rfl⟩ (fun _ => .int _) (.cons (v := .int 3) ⟨_, rfl⟩ (fun _ => .int _) (.cons (v := .int 2) ⟨_, rfl⟩ (fun _ => .int _) (.cons (v := .int 3) ⟨_, rfl⟩ (fun _ => .int _) (.cons (v := .int 3) ⟨_, rfl⟩ (fun _ => .int _) (.cons (v := .int 5) ⟨_, rfl⟩ (fun _ => .int _) (.cons (v := .int 3) ⟨_, rfl⟩ (fun _ => .int _) (.cons (v := .int 2) ⟨_, rfl⟩ (fun _ => .int _) (.cons (v := .int 4) ⟨_, rfl⟩ (fun _ => .int _) (.cons (v := .int 4) ⟨_, rfl⟩ (fun _ => .int _) (.cons (v := .int 3) ⟨_, rfl⟩ (fun _ => .int _) (.cons (v := .int 4) ⟨_, rfl⟩ (fun _ => .int _) (.cons (v := .int 2) ⟨_, rfl⟩ (fun _ => .int _) .nil))))))))))))))))))))))⟩, ⟨ca_SPOTS, _, _, PySem.W.mg_of X G0 g_SPOTS, gl_SPOTS, gs_SPOTS, (.cons (v := .ref vr0_SPOTS) rfl (fun _ => .tup (.inr ⟨_, _, _, vl0_SPOTS, rfl, rfl, by show 0 ≤ sizeLine; decide, (show Vals [] [] from .nil)⟩) .nil) (.cons (v := .ref vr1_SPOTS) rfl (fun _ => .tup (.inr ⟨_, _, _, vl1_SPOTS, rfl, rfl, by show 0 ≤ sizeLine; decide, (show Vals [] [] from .nil)⟩) .nil) (.cons (v := .ref vr2_SPOTS) rfl (fun _ => .tup (.inr ⟨_, _, _, vl2_SPOTS, rfl, rfl, by show 2 ≤ sizeLine; decide, (show Vals [V.int 1, V.int 2] [_, _] from (.cons ⟨_, rfl⟩ (.cons ⟨_, rfl⟩ .nil)))⟩) (.cons (.int _) (.cons (.int _) .nil))) (.cons (v := .ref vr3_SPOTS) rfl (fun _ => .tup (.inr ⟨_, _, _, vl3_SPOTS, rfl, rfl, by show 1 ≤ sizeLine; decide, (show Vals [V.int 1] [_] from (.cons ⟨_, rfl⟩ .nil))⟩) (.cons (.int _) .nil)) (.cons (v := .ref vr4_SPOTS) rfl (fun _ => .tup (.inr ⟨_, _, _, vl4_SPOTS, rfl, rfl, by show 1 ≤ sizeLine; decide, (show Vals [V.int 1] [_] from (.cons ⟨_, rfl⟩ .nil))⟩) (.cons (.int _) .nil)) (.cons (v := .ref vr5_SPOTS) rfl (fun _ => .tup (.inr ⟨_, _, _, vl5_SPOTS, rfl, rfl, by show 1 ≤ sizeLine; decide, (show Vals [V.int 1] [_] from (.cons ⟨_, rfl⟩ .nil))⟩) (.cons (.int _) .nil)) (.cons (v := .ref vr6_SPOTS) rfl (fun _ => .tup (.inr ⟨_, _, _, vl6_SPOTS, rfl, rfl, by show 1 ≤ sizeLine; decide, (show Vals [V.int 2] [_] from (.cons ⟨_, rfl⟩ .nil))⟩) (.cons (.int _) .nil)) (.cons (v := .ref vr7_SPOTS) rfl (fun _ => .tup (.inr ⟨_, _, _, vl7_SPOTS, rfl, rfl, by show 3 ≤ sizeLine; decide, (show Vals [V.int 1, V.int 2, V.int 3] [_, _, _] from (.cons ⟨_, rfl⟩ (.cons ⟨_, rfl⟩ (.cons ⟨_, rfl⟩ .nil))))⟩) (.cons (.int _) (.cons (.int _) (.cons (.int _) .nil)))) (.cons (v := .ref vr8_SPOTS) rfl (fun _ => .tup (.inr ⟨_, _, _, vl8_SPOTS, rfl, rfl, by show 1 ≤ sizeLine; decide, (show Vals [V.int 2] [_] from (.cons ⟨_, rfl⟩ .nil))⟩) (.cons (.int _) .nil)) (.cons (v := .ref vr9_SPOTS) rfl (fun _ => .tup (.inr ⟨_, _, _, vl9_SPOTS, rfl, rfl, by show 2 ≤ sizeLine; decide, (show Vals [V.int 1, V.int 2] [_, _] from (.cons ⟨_, rfl⟩ (.cons ⟨_, rfl⟩ .nil)))⟩) (.cons (.int _) (.cons (.int _) .nil))) (.cons (v := .ref vr10_SPOTS) rfl (fun _ => .tup (.inr ⟨_, _, _, vl10_SPOTS, rfl, rfl, by show 1 ≤ sizeLine; decide, (show Vals [V.int 1] [_] from (.cons ⟨_, rfl⟩ .nil))⟩) (.cons (.int _) .nil)) (.cons (v := .ref vr11_SPOTS) rfl (fun _ => .tup (.inr ⟨_, _, _, vl11_SPOTS, rfl, rfl, by show 1 ≤ sizeLine; decide, (show Vals [V.int 1] [_] from (.cons ⟨_, rfl⟩ .nil))⟩) (.cons (.int _) .nil)) (.cons (v := .ref vr12_SPOTS) rfl (fun _ => .tup (.inr ⟨_, _, _, vl12_SPOTS, rfl, rfl, by show 1 ≤ sizeLine; decide, (show Vals [V.int 2] [_] from (.cons ⟨_, rfl⟩ .nil))⟩) (.cons (.int _) .nil)) (.cons (v := .ref vr13_SPOTS) rfl (fun _ => .tup (.inr ⟨_, _, _, vl13_SPOTS, rfl, rfl, by show 1 ≤ sizeLine; decide, (show Vals [V.int 1] [_] from (.cons ⟨_, rfl⟩ .nil))⟩) (.cons (.int _) .nil)) (.cons (v := .ref vr14_SPOTS) rfl (fun _ => .tup (.inr ⟨_, _, _, vl14_SPOTS, rfl, rfl, by show 1 ≤ sizeLine; decide, (show Vals [V.int 4] [_] from (.cons ⟨_, rfl⟩ .nil))⟩) (.cons (.int _) .nil)) (.cons (v := .ref vr15_SPOTS) rfl (fun _ => .tup (.inr ⟨_, _, _, vl15_SPOTS, rfl, rfl, by show 2 ≤ sizeLine; decide, (show Vals [V.int 1, V.int 2] [_, _] from (.cons ⟨_, rfl⟩ (.cons ⟨_, rfl⟩ .nil)))⟩) (.cons (.int _) (.cons (.int _) .nil))) (.cons (v := .ref vr16_SPOTS) rfl (fun _ => .tup (.inr ⟨_, _, _, vl16_SPOTS, rfl, rfl, by show 0 ≤ sizeLine; decide, (show Vals [] [] from .nil)⟩) .nil) (.cons (v := .ref vr17_SPOTS) rfl (fun _ => .tup (.inr ⟨_, _, _, vl17_SPOTS, rfl, rfl, by show 2 ≤ sizeLine; decide, (show Vals [V.int 2, V.int 3] [_, _] from (.cons ⟨_, rfl⟩ (.cons ⟨_, rfl⟩ .nil)))⟩) (.cons (.int _) (.cons (.int _) .nil))) (.cons (v := .ref vr18_SPOTS) rfl (fun _ => .tup (.inr ⟨_, _, _, vl18_SPOTS, rfl, rfl, by show 0 ≤ sizeLine; decide, (show Vals [] [] from .nil)⟩) .nil) (.cons (v := .ref vr19_SPOTS) rfl (fun _ => .tup (.inr ⟨_, _, _, vl19_SPOTS, rfl, rfl, by show 1 ≤ sizeLine; decide, (show Vals [V.int 3] [_] from (.cons ⟨_, rfl⟩ .nil))⟩) (.cons (.int _) .nil)) (.cons (v := .ref vr20_SPOTS) rfl (fun _ => .tup (.inr ⟨_, _, _, vl20_SPOTS, rfl, rfl, by show 1 ≤ sizeLine; decide, (show Vals [V.int 1] [_] from (.cons ⟨_, rfl⟩ .nil))⟩) (.cons (.int _) .nil)) .nil)))))))))))))))))))))⟩⟩
  exact ⟨PySem.W.fnOf "law" "law" (defArgs s_law) (defBody s_law) (defScope s_law) .none kV12 dc12 pm12 an12 cd12 ct12, fun s v => .of_eq rfl, fun base sb _ _ => d_law T sb (funD_mk (st := s_law) l12 c12 k12) hp⟩
end L
set_option pp.maxSteps 400
set_option pp.deepTerms false
namespace L
open PySem L2 G
local macro_rules | `(tactic| walk_at "ey") => `(tactic| try simp only [sSpot, eSpot, sSeq, sSet, sExpr, sRet, sIf, sAsg, una, escf, escS, opd, eVar, eC, eBin, eUn, eFn, eCall, eTup, eLst, aCons, aNil, fin, rd, rds, R.toS, dsOf, Rs.bind_ok, Rs.bind_bad, Rs.bind_ex, Rs.opt_some, Option.bind_some, Option.map_some, ownAt, eExt, eApp, ePop, List.getElem?_cons_zero, List.getElem?_cons_succ, List.set_cons_zero, List.set_cons_succ, okArg, List.all_cons, List.all_nil, Bool.and_self, if_true, kName, kTup, ksCons, ksNil, fMax, tOf, List.length_cons, List.length_nil, Bool.not_false, Bool.not_true, if_false, Bool.false_eq_true, lm0, lm1, lm2, lm3, lm4, lm5, lm6, lm7, lm8, lm9, lm10, lm11, lm12, fnM, List.map_cons, List.map_nil, List.replicate, List.cons_append, List.nil_append, Nat.reduceAdd, Nat.reduceSub, sNil, tAndM, tOrM, tNotM, tTru, dTru, eIf, dSub_i, dAdd_i, dLt_i, dLe_i, dGt_i, dGe_i, dEq_i, decide_true, decide_false, eChain, eAndM, eSl, oInt, dNeg, fInt, aDef, fTuple])
/-! a draw -/
theorem mulA (i j : Int) (h : -(18446744073709551616 : Int) < i ∧ i < 18446744073709551616) : dMul (.int i) (.int j) = some (.d (.int (i * j))) := by
  unfold dMul dI
  exact if_pos (decide_eq_true (.inl h))
theorem mulB (i j : Int) (h : -(18446744073709551616 : Int) < j ∧ j < 18446744073709551616) : dMul (.int i) (.int j) = some (.d (.int (i * j))) := by
  unfold dMul dI
  exact if_pos (decide_eq_true (.inr h))
theorem divA (i j : Int) (h : 0 < j ∧ j < 1073741824) : dFdiv (.int i) (.int j) = some (.d (.int (i / j))) := by
  unfold dFdiv dI
  exact if_pos (decide_eq_true h)
theorem modA (i j : Int) (h : 0 < j) : dMod (.int i) (.int j) = some (.d (.int (i % j))) := by
  unfold dMod dI
  exact if_pos (decide_eq_true h)
theorem atI_nat {α : Type} {xs : List α} {i : Nat} {v : α} (h : xs[i]? = some v) : atI xs (i : Int) = some v := by
  have hi : i < xs.length := by
    rcases Nat.lt_or_ge i xs.length with q | q
    · exact q
    · rw [List.getElem?_eq_none q] at h; cases h
  unfold atI ixN
  rw [if_pos (by omega), if_pos (by omega)]
  exact h
theorem ixA (ns : List Int) (i : Int) (h : 0 ≤ i) (h2 : i < (ns.length : Nat)) : ∃ a : Int, dIx (.scr ns) (.int i) = some (.d (.int a)) := by
  obtain ⟨k, rfl⟩ : ∃ k : Nat, i = (k : Int) := ⟨i.toNat, by omega⟩
  have hk : k < ns.length := by omega
  refine ⟨ns[k], ?_⟩
  show (atI ns (k : Int)).map (fun n => R.d (.int n)) = _
  rw [atI_nat (v := ns[k]) (List.getElem?_eq_getElem hk)]
  rfl
theorem lenA (ns : List Int) : fLen [.scr ns] = some (.d (.int (ns.length : Nat))) := rfl
/-- the store with the law's place ahead -/
def sp (m : Int) (g : List MO) : List MO := .lst [.int m] :: g
theorem cell_put {s0 s2 s3 s4 s5 : Option S} {m : Int} {g : List MO} : (sLPutM (eBin dAdd (eIxO (eVar 1) (eC (.int 0))) (eC (.int 1))) (eVar 1) (eC (.int 0)) : Sm MX Out) ⟨[s0, some (.d (.o 0)), s2, s3, s4, s5], sp m g⟩ = .ok .nx ⟨[s0, some (.d (.o 0)), s2, s3, s4, s5], sp (m + 1) g⟩ := rfl
theorem cell_get {s0 s2 s3 s4 s5 : Option S} {m : Int} {g : List MO} : (eIxO (eVar 1) (eC (.int 0)) : Sm MX S) ⟨[s0, some (.d (.o 0)), s2, s3, s4, s5], sp m g⟩ = .ok (.d (.int m)) ⟨[s0, some (.d (.o 0)), s2, s3, s4, s5], sp m g⟩ := rfl
theorem ow_loop (s0 s1 s2 s3 : Option S) (m : List MO) : ∀ (ds : List D) (o : Int) (s5 : Option S), ∃ (o' : Int) (s5' : Option S), forL (M := MX) (kName 5) (sSet 4 (eBin dFdiv (eVar 4) (eC (.int 306783379)))) ds ⟨[s0, s1, s2, s3, some (.d (.int o)), s5], m⟩ = .ok .nx ⟨[s0, s1, s2, s3, some (.d (.int o')), s5'], m⟩
  | [], o, s5 => ⟨o, s5, rfl⟩
  | d :: r, o, s5 => by
    obtain ⟨o', s5', e⟩ := ow_loop s0 s1 s2 s3 m r (o / 306783379) (some (.d d))
    refine ⟨o', s5', ?_⟩
    rw [← e]
    conv => lhs; unfold forL
    walk_at "ey"
    rw [divA _ _ (by omega)]
    walk_at "ey"
theorem ci_it {cells : D} {k L q : Int} (hl : fLen [cells] = some (.d (.int L))) (hd : dFdiv (.int k) (.int L) = some (.d (.int q))) (h0 : 0 ≤ q) (h1 : q ≤ 1000000) (s3 s4 : Option S) (m : List MO) : (iRg1M (aCons (opd (eBin dFdiv (eVar 2) (eFn fLen (aCons (opd (eVar 0)) aNil)))) aNil) : Sm MX (List D)) ⟨[some (.d cells), some (.d (.o 0)), some (.d (.int k)), s3, s4, none], m⟩ = .ok (rangeD 0 q.toNat) ⟨[some (.d cells), some (.d (.o 0)), some (.d (.int k)), s3, s4, none], m⟩ := by
  simp only [iRg1M]
  walk_at "ey"
  rw [hl]
  walk_at "ey"
  rw [hd]
  walk_at "ey"
  rw [if_pos (rg_lim h0 h1)]
theorem ci_for {F : Sm MX (List D)} {B : Sm MX Out} {z z1 : Z (List MO)} {ds : List D} {r : Rs Out (Z (List MO))} {K : D → Z (List MO) → Option (Z (List MO))} (h : F z = .ok ds z1) (h2 : forL (M := MX) K B ds z1 = r) : (sFor F K B : Sm MX Out) z = r := by
  unfold sFor
  rw [h, Rs.bind_ok]
  exact h2
def CR : Sm MX Out := sRet (eBin dFdiv (eBin dMod (eBin dMul (eBin dMod (eBin dMul (eVar 3) (eC (.int 48271))) (eC (.int 2147483647))) (eC (.int 69621))) (eC (.int 2147483629))) (eC (.int 7)))
theorem cr_end {s0 s1 s2 s4 s5 : Option S} {base p q r t u : Int} {m : List MO} (h1 : dMul (.int base) (.int 48271) = some (.d (.int p))) (h2 : dMod (.int p) (.int 2147483647) = some (.d (.int q))) (h3 : dMul (.int q) (.int 69621) = some (.d (.int t))) (h4 : dMod (.int t) (.int 2147483629) = some (.d (.int u))) (h5 : dFdiv (.int u) (.int 7) = some (.d (.int r))) :
    CR ⟨[s0, s1, s2, some (.d (.int base)), s4, s5], m⟩ = .ok (.rt (.d (.int r))) ⟨[s0, s1, s2, some (.d (.int base)), s4, s5], m⟩ := by
  unfold CR
  walk_at "ey"
  rw [h1]
  walk_at "ey"
  rw [h2]
  walk_at "ey"
  rw [h3]
  walk_at "ey"
  rw [h4]
  walk_at "ey"
  rw [h5]
  walk_at "ey"
theorem cr_ok (s0 s1 s2 s4 s5 : Option S) (base : Int) (m : List MO) : ∃ r : Int, CR ⟨[s0, s1, s2, some (.d (.int base)), s4, s5], m⟩ = .ok (.rt (.d (.int r))) ⟨[s0, s1, s2, some (.d (.int base)), s4, s5], m⟩ ∧ 0 ≤ r :=
  ⟨_, cr_end (mulB _ _ (by omega)) (modA _ _ (by omega)) (mulB _ _ (by omega)) (modA _ _ (by omega)) (divA _ _ (by omega)), Int.ediv_nonneg (Int.emod_nonneg _ (by omega)) (by omega)⟩
def CF : Sm MX Out := (sSeq (sFor (iRg1M (aCons (opd (eBin dFdiv (eVar 2) (eFn fLen (aCons (opd (eVar 0)) aNil)))) aNil)) (kName 5) (sSet 4 (eBin dFdiv (eVar 4) (eC (.int 306783379)))))
    (sIf (tOf (eBin dGt (eVar 4) (eC (.int 0)))) (sRet (eBin dMod (eVar 4) (eC (.int 306783379)))) sNil))
theorem cf_gen {F : Sm MX Out} {cells : D} {k o : Int} {s3 s5 : Option S} {m : List MO} {z : Z (List MO)} (hF : F z = .ok .nx ⟨[some (.d cells), some (.d (.o 0)), some (.d (.int k)), s3, some (.d (.int o)), s5], m⟩) :
    (sSeq F (sIf (tOf (eBin dGt (eVar 4) (eC (.int 0)))) (sRet (eBin dMod (eVar 4) (eC (.int 306783379)))) sNil) : Sm MX Out) z = (if 0 < o then .ok (.rt (.d (.int (o % 306783379)))) ⟨[some (.d cells), some (.d (.o 0)), some (.d (.int k)), s3, some (.d (.int o)), s5], m⟩ else .ok .nx ⟨[some (.d cells), some (.d (.o 0)), some (.d (.int k)), s3, some (.d (.int o)), s5], m⟩) := by
  rw [seq_nx hF]
  walk_at "ey"
  by_cases c : 0 < o
  · rw [if_pos c]
    simp only [c]
    walk_at "ey"
    rw [modA _ _ (by omega)]
    walk_at "ey"
  · rw [if_neg c]
    simp only [c]
    walk_at "ey"
theorem cf_ok (ns : List Int) (k a : Int) (s3 : Option S) (m : List MO) (hl : ns.length ≤ 1000) (h0 : 0 ≤ k) (h2 : k / (ns.length : Nat) < 60) (c : 0 < ((ns.length : Nat) : Int)) :
    (∃ s4 s5, CF ⟨[some (.d (.scr ns)), some (.d (.o 0)), some (.d (.int k)), s3, some (.d (.int a)), none], m⟩ = .ok .nx ⟨[some (.d (.scr ns)), some (.d (.o 0)), some (.d (.int k)), s3, s4, s5], m⟩) ∨ ∃ (r : Int) (rho' : List (Option S)), CF ⟨[some (.d (.scr ns)), some (.d (.o 0)), some (.d (.int k)), s3, some (.d (.int a)), none], m⟩ = .ok (.rt (.d (.int r))) ⟨rho', m⟩ ∧ 0 ≤ r := by
  obtain ⟨o', s5', e⟩ := ow_loop (some (.d (.scr ns))) (some (.d (.o 0))) (some (.d (.int k))) s3 m (rangeD 0 (k / (ns.length : Nat)).toNat) a none
  have hq0 : 0 ≤ k / (ns.length : Nat) := Int.ediv_nonneg h0 (by omega)
  have F : (sFor (iRg1M (aCons (opd (eBin dFdiv (eVar 2) (eFn fLen (aCons (opd (eVar 0)) aNil)))) aNil)) (kName 5) (sSet 4 (eBin dFdiv (eVar 4) (eC (.int 306783379)))) : Sm MX Out) ⟨[some (.d (.scr ns)), some (.d (.o 0)), some (.d (.int k)), s3, some (.d (.int a)), none], m⟩ = .ok .nx ⟨[some (.d (.scr ns)), some (.d (.o 0)), some (.d (.int k)), s3, some (.d (.int o')), s5'], m⟩ := ci_for (ci_it (lenA ns) (divA k _ (by omega)) hq0 (by omega) s3 (some (.d (.int a))) m) e
  have g := cf_gen F
  by_cases q : 0 < o'
  · rw [if_pos q] at g
    exact .inr ⟨_, _, g, Int.emod_nonneg _ (by omega)⟩
  · rw [if_neg q] at g
    exact .inl ⟨_, _, g⟩
def CB : Sm MX Out := (sSeq (sSet 4 (eBin dIx (eVar 0) (eBin dMod (eVar 2) (eFn fLen (aCons (opd (eVar 0)) aNil)))))
    (sSeq (sSet 3 (eBin dAdd (eVar 3) (eBin dMul (eVar 4) (eBin dAdd (eC (.int 1)) (eBin dFdiv (eVar 2) (eFn fLen (aCons (opd (eVar 0)) aNil)))))))
    (sIf (tAndM (tOf (eBin dGe (eVar 4) (eBin dPow (eC (.int 10)) (eC (.int 18))))) (tOf (eBin dLt (eBin dFdiv (eVar 2) (eFn fLen (aCons (opd (eVar 0)) aNil))) (eC (.int 60))))) CF sNil)))
theorem cb_gen {I : Sm MX Out} {cells : D} {k base L r q a p w : Int} {m : List MO} {R : Rs Out (Z (List MO)) → Prop} (hl : fLen [cells] = some (.d (.int L))) (h1 : dMod (.int k) (.int L) = some (.d (.int r))) (h2 : dIx cells (.int r) = some (.d (.int a))) (h3 : dFdiv (.int k) (.int L) = some (.d (.int q))) (h4 : dMul (.int a) (.int (1 + q)) = some (.d (.int p))) (h5 : dPow (.int 10) (.int 18) = some (.d (.int w)))
    (yes : q < 60 → R (I ⟨[some (.d cells), some (.d (.o 0)), some (.d (.int k)), some (.d (.int (base + p))), some (.d (.int a)), none], m⟩)) (no : R (.ok .nx ⟨[some (.d cells), some (.d (.o 0)), some (.d (.int k)), some (.d (.int (base + p))), some (.d (.int a)), none], m⟩)) :
    R ((sSeq (sSet 4 (eBin dIx (eVar 0) (eBin dMod (eVar 2) (eFn fLen (aCons (opd (eVar 0)) aNil)))))
    (sSeq (sSet 3 (eBin dAdd (eVar 3) (eBin dMul (eVar 4) (eBin dAdd (eC (.int 1)) (eBin dFdiv (eVar 2) (eFn fLen (aCons (opd (eVar 0)) aNil)))))))
    (sIf (tAndM (tOf (eBin dGe (eVar 4) (eBin dPow (eC (.int 10)) (eC (.int 18))))) (tOf (eBin dLt (eBin dFdiv (eVar 2) (eFn fLen (aCons (opd (eVar 0)) aNil))) (eC (.int 60))))) I sNil)) : Sm MX Out) ⟨[some (.d cells), some (.d (.o 0)), some (.d (.int k)), some (.d (.int base)), none, none], m⟩) := by
  walk_at "ey"
  rw [hl]
  walk_at "ey"
  rw [h1]
  walk_at "ey"
  rw [h2]
  walk_at "ey"
  rw [hl]
  walk_at "ey"
  rw [h3]
  walk_at "ey"
  rw [h4]
  walk_at "ey"
  rw [h5]
  walk_at "ey"
  by_cases c2 : w ≤ a
  · simp only [c2]
    walk_at "ey"
    rw [hl]
    walk_at "ey"
    rw [h3]
    walk_at "ey"
    by_cases c3 : q < 60
    · simp only [c3]
      walk_at "ey"
      exact yes c3
    · simp only [c3]
      walk_at "ey"
      exact no
  · simp only [c2]
    walk_at "ey"
    exact no
/-- what a draw's tail asks: the next statement goes on, or a number comes -/
def CP (s0 s1 s2 : Option S) (m : List MO) (r : Rs Out (Z (List MO))) : Prop := (∃ (b : Int) (s4 s5 : Option S), r = .ok .nx ⟨[s0, s1, s2, some (.d (.int b)), s4, s5], m⟩) ∨ ∃ (n : Int) (rho' : List (Option S)), r = .ok (.rt (.d (.int n))) ⟨rho', m⟩ ∧ 0 ≤ n
theorem cb_ok (ns : List Int) (k base : Int) (m : List MO) (hl : ns.length ≤ 1000) (h0 : 0 ≤ k) (h1 : k < 1000000000000000) (c : 0 < ((ns.length : Nat) : Int)) : CP (some (.d (.scr ns))) (some (.d (.o 0))) (some (.d (.int k))) m (CB ⟨[some (.d (.scr ns)), some (.d (.o 0)), some (.d (.int k)), some (.d (.int base)), none, none], m⟩) := by
  obtain ⟨a, ea⟩ := ixA ns (k % (ns.length : Nat)) (Int.emod_nonneg _ (by omega)) (Int.emod_lt_of_pos _ c)
  have hq : k / (ns.length : Nat) ≤ k := Int.ediv_le_self _ h0
  have hq0 : 0 ≤ k / (ns.length : Nat) := Int.ediv_nonneg h0 (by omega)
  refine cb_gen (I := CF) (R := CP _ _ _ m) (lenA ns) (modA _ _ c) ea (divA _ _ (by omega)) (mulB _ _ (by omega)) (show dPow (.int 10) (.int 18) = some (.d (.int (10 ^ 18))) from by unfold dPow dI; exact if_pos (by decide +kernel)) (fun q60 => ?_) (.inl ⟨_, _, _, rfl⟩)
  rcases cf_ok ns k a _ m hl h0 q60 c with ⟨s4, s5, e⟩ | ⟨r, rho', e, hr⟩
  · exact .inl ⟨_, s4, s5, e⟩
  · exact .inr ⟨r, rho', e, hr⟩
theorem ce_gen {C : Sm MX Bool} {I : Sm MX Out} {cells : D} {m p1 p2 p3 : Int} {g : List MO} {b : Bool} (h1 : dMul (.int 31) (.int (m + 1)) = some (.d (.int p1))) (h2 : dMul (.int p1) (.int (m + 1)) = some (.d (.int p2))) (h3 : dMul (.int 7919) (.int (m + 1)) = some (.d (.int p3)))
    (hC : C ⟨[some (.d cells), some (.d (.o 0)), some (.d (.int (m + 1))), some (.d (.int (p2 + p3))), none, none], sp (m + 1) g⟩ = .ok b ⟨[some (.d cells), some (.d (.o 0)), some (.d (.int (m + 1))), some (.d (.int (p2 + p3))), none, none], sp (m + 1) g⟩)
    (hI : b = true → CP (some (.d cells)) (some (.d (.o 0))) (some (.d (.int (m + 1)))) (sp (m + 1) g) (I ⟨[some (.d cells), some (.d (.o 0)), some (.d (.int (m + 1))), some (.d (.int (p2 + p3))), none, none], sp (m + 1) g⟩)) :
    ∃ r : Int, fnM 6 (sSeq (sLPutM (eBin dAdd (eIxO (eVar 1) (eC (.int 0))) (eC (.int 1))) (eVar 1) (eC (.int 0)))
    (sSeq (sSet 2 (eIxO (eVar 1) (eC (.int 0))))
    (sSeq (sSet 3 (eBin dAdd (eBin dMul (eBin dMul (eC (.int 31)) (eVar 2)) (eVar 2)) (eBin dMul (eC (.int 7919)) (eVar 2))))
    (sSeq (sIf C I sNil) CR)))) [.d cells, .d (.o 0)] (sp m g) = .ok (.d (.int r)) (sp (m + 1) g) ∧ 0 ≤ r := by
  walk_at "ey"
  rw [cell_put]
  walk_at "ey"
  rw [cell_get]
  walk_at "ey"
  rw [h1]
  walk_at "ey"
  rw [h2]
  walk_at "ey"
  rw [h3]
  walk_at "ey"
  rw [hC]
  walk_at "ey"
  cases b with
  | true =>
    walk_at "ey"
    rcases hI rfl with ⟨b2, s4, s5, e⟩ | ⟨r, rho', e, hr⟩
    · rw [e]
      walk_at "ey"
      obtain ⟨r, e2, hr⟩ := cr_ok (some (.d cells)) (some (.d (.o 0))) (some (.d (.int (m + 1)))) s4 s5 b2 (sp (m + 1) g)
      rw [e2]
      exact ⟨r, rfl, hr⟩
    · rw [e]
      exact ⟨r, rfl, hr⟩
  | false =>
    walk_at "ey"
    obtain ⟨r, e2, hr⟩ := cr_ok (some (.d cells)) (some (.d (.o 0))) (some (.d (.int (m + 1)))) none none (p2 + p3) (sp (m + 1) g)
    rw [e2]
    exact ⟨r, rfl, hr⟩
def CC : Sm MX Bool := tOf (eBin dGt (eFn fLen (aCons (opd (eVar 0)) aNil)) (eC (.int 0)))
theorem cc_ok {cells : D} {L : Int} {r : List (Option S)} {m : List MO} (hl : fLen [cells] = some (.d (.int L))) :
    CC ⟨some (.d cells) :: r, m⟩ = .ok (decide (0 < L)) ⟨some (.d cells) :: r, m⟩ := by
  unfold CC
  walk_at "ey"
  rw [hl]
  walk_at "ey"
theorem cell_ok (n : Nat) (ns : List Int) (m : Int) (g : List MO) (hl : ns.length ≤ 1000) (h0 : 0 ≤ m) (h1 : m < 100000000000000) : ∃ r : Int, mir (n + 1) ._law_cell [.d (.scr ns), .d (.o 0)] (sp m g) = .ok (.d (.int r)) (sp (m + 1) g) ∧ 0 ≤ r :=
  ce_gen (C := CC) (I := CB) (mulA _ _ (by omega)) (mulB _ _ (by omega)) (mulA _ _ (by omega)) (cc_ok (lenA ns)) fun hb => cb_ok ns (m + 1) _ _ hl (by omega) (by omega) (of_decide_eq_true hb)
end L
set_option pp.maxSteps 400
set_option pp.deepTerms false
namespace L
open PySem L2 G
local macro_rules | `(tactic| walk_at "ey") => `(tactic| try simp only [sSpot, eSpot, sSeq, sSet, sExpr, sRet, sIf, sAsg, una, escf, escS, opd, eVar, eC, eBin, eUn, eFn, eCall, eTup, eLst, aCons, aNil, fin, rd, rds, R.toS, dsOf, Rs.bind_ok, Rs.bind_bad, Rs.bind_ex, Rs.opt_some, Option.bind_some, Option.map_some, ownAt, eExt, eApp, ePop, List.getElem?_cons_zero, List.getElem?_cons_succ, List.set_cons_zero, List.set_cons_succ, okArg, List.all_cons, List.all_nil, Bool.and_self, if_true, kName, kTup, ksCons, ksNil, fMax, tOf, List.length_cons, List.length_nil, Bool.not_false, Bool.not_true, if_false, Bool.false_eq_true, lm0, lm1, lm2, lm3, lm4, lm5, lm6, lm7, lm8, lm9, lm10, lm11, lm12, fnM, List.map_cons, List.map_nil, List.replicate, List.cons_append, List.nil_append, Nat.reduceAdd, Nat.reduceSub, sNil, tAndM, tOrM, tNotM, tTru, dTru, eIf, dSub_i, dAdd_i, dLt_i, dLe_i, dGt_i, dGe_i, dEq_i, decide_true, decide_false, eChain, eAndM, eSl, oInt, dNeg, fInt, aDef, fTuple])

/-! the forms of grounds by their signs -/
def sgT : List (Str × Str) := [("held", "n"), ("use", "n"), ("pair", "gg"), ("first", "g"), ("second", "g"), ("either", "gn"), ("other", "ng"), ("cases", "ggg"), ("take", "ng"), ("give", "gg"), ("void", "gn"), ("twice", "g"), ("each", "ng"), ("at", "gn"), ("some", "nnng"), ("open", "gg"), ("alike", "n"), ("swap", "ngg"), ("members", "nnm"), ("unlike", "nn"), ("fold", "nng"), ("unfold", "g")]
def hasM (s : Str) : Bool := decide (109 ∈ s.cps.toList)
def spotsF : List Nat → Nat → List Nat
  | [], _ => []
  | c :: cs, i => if c = 103 then i :: spotsF cs (i + 1) else spotsF cs (i + 1)
def gsel : List Nat → List D → List D
  | c :: cs, d :: ds => if c = 103 then d :: gsel cs ds else gsel cs ds
  | _, _ => []
/-- what stands right within a ground; none of another thing -/
def innD : D → Option (List D)
  | .tup (.str x :: r) => match sgT.lookup x with
    | none => none
    | some s => if r.length = s.cps.size then (if hasM s = true then (match r[2]? with
        | some (D.tup ys) => some ys
        | _ => none) else some (gsel s.cps.toList r)) else none
  | _ => none
theorem sizes_eq : t_SIZES = sgT.map fun p => (p.1, D.int ((p.2.cps.size + 1 : Nat) : Int)) := by kernel_rfl
theorem spots_eq : t_SPOTS = (sgT.filter fun p => !hasM p.2).map fun p => (p.1, D.tup ((spotsF p.2.cps.toList 1).map fun i : Nat => D.int (i : Int))) := by kernel_rfl
theorem mem_m : ∀ p ∈ sgT, hasM p.2 = decide (p.1 = ("members" : Str)) := by decide +kernel
theorem mem_3 : ∀ p ∈ sgT, hasM p.2 = true → p.2.cps.size = 3 := by decide +kernel
theorem mem_0 : ∀ p ∈ sgT, p.2 ≠ ("" : Str) ∧ p.2.cps.size ≤ 4 := by decide +kernel
theorem look_map {α β : Type} (f : α → β) (x : Str) : ∀ l : List (Str × α), (l.map fun p => (p.1, f p.2)).lookup x = (l.lookup x).map f
  | [] => rfl
  | p :: r => by
    rw [List.map_cons, List.lookup_cons, List.lookup_cons]
    cases x == p.1 with
    | true => rfl
    | false => exact look_map f x r
theorem look_filt {α : Type} (q : α → Bool) (x : Str) : ∀ {l : List (Str × α)} {v : α}, l.lookup x = some v → q v = true → (l.filter fun p => q p.2).lookup x = some v
  | [], _, h, _ => by cases h
  | p :: r, v, h, hq => by
    rw [List.lookup_cons] at h
    cases e : x == p.1 with
    | true =>
      rw [e] at h
      cases h
      rw [List.filter_cons_of_pos (by exact hq), List.lookup_cons, e]
    | false =>
      rw [e] at h
      rw [List.filter_cons]
      split
      · rw [List.lookup_cons, e]
        exact look_filt q x h hq
      · exact look_filt q x h hq
theorem look_mem {α : Type} {x : Str} : ∀ {l : List (Str × α)} {v : α}, l.lookup x = some v → (x, v) ∈ l
  | [], _, h => by cases h
  | p :: r, v, h => by
    rw [List.lookup_cons] at h
    cases e : x == p.1 with
    | true =>
      rw [e] at h
      cases h
      rw [show x = p.1 from eq_of_beq e]
      exact List.mem_cons_self
    | false =>
      rw [e] at h
      exact List.mem_cons_of_mem _ (look_mem h)
theorem size_look (x : Str) : t_SIZES.lookup x = (sgT.lookup x).map fun s => D.int ((s.cps.size + 1 : Nat) : Int) := by
  rw [sizes_eq]
  exact look_map (fun s : Str => D.int ((s.cps.size + 1 : Nat) : Int)) x sgT
theorem spot_look {x s : Str} (h : sgT.lookup x = some s) (hm : hasM s = false) : t_SPOTS.lookup x = some (.tup ((spotsF s.cps.toList 1).map fun i : Nat => D.int (i : Int))) := by
  rw [spots_eq]
  refine (look_map (fun s : Str => D.tup ((spotsF s.cps.toList 1).map fun i : Nat => D.int (i : Int))) x _).trans ?_
  rw [look_filt (fun s : Str => !hasM s) x h (by rw [hm]; rfl)]
  rfl
theorem gsel_spots : ∀ (cs : List Nat) (pre ds : List D), cs.length = ds.length → (spotsF cs pre.length).map (fun i => (pre ++ ds).getD i .non) = gsel cs ds
  | [], _, [], _ => rfl
  | c :: cs, pre, d :: ds, h => by
    have e := gsel_spots cs (pre ++ [d]) ds (by simpa using h)
    rw [List.length_append, List.length_singleton, List.append_assoc, List.singleton_append] at e
    rw [spotsF, gsel]
    by_cases q : c = 103
    · rw [if_pos q, if_pos q, List.map_cons, e]
      congr 1
      simp
    · rw [if_neg q, if_neg q, e]
theorem spots_lt : ∀ (cs : List Nat) (i j : Nat), j ∈ spotsF cs i → i ≤ j ∧ j < i + cs.length
  | c :: cs, i, j, h => by
    rw [spotsF] at h
    rw [List.length_cons]
    split at h
    · rcases List.mem_cons.mp h with rfl | h
      · omega
      · have := spots_lt cs (i + 1) j h; omega
    · have := spots_lt cs (i + 1) j h; omega
theorem gsel_len : ∀ (cs : List Nat) (ds : List D), (gsel cs ds).length ≤ ds.length
  | [], _ => by simp [gsel]
  | _ :: _, [] => by simp [gsel]
  | c :: cs, d :: ds => by
    have := gsel_len cs ds
    rw [gsel]
    split <;> simp <;> omega
theorem gsel_mem {x : D} : ∀ {cs : List Nat} {ds : List D}, x ∈ gsel cs ds → x ∈ ds
  | [], _, h => by simp [gsel] at h
  | _ :: _, [], h => by simp [gsel] at h
  | c :: cs, d :: ds, h => by
    rw [gsel] at h
    split at h
    · rcases List.mem_cons.mp h with rfl | h
      · exact List.mem_cons_self
      · exact List.mem_cons_of_mem _ (gsel_mem h)
    · exact List.mem_cons_of_mem _ (gsel_mem h)
/-! things that the law makes: texts are texts -/
mutual
def gd : D → Bool
  | .str x => PyData.strOk x
  | .tup xs => gds xs
  | .lst xs => gds xs
  | .scr _ => false
  | .exc _ _ => false
  | .o _ => false
  | _ => true
def gds : List D → Bool
  | [] => true
  | x :: r => gd x && gds r
end
theorem gds_mem : ∀ {ds : List D} {x : D}, gds ds = true → x ∈ ds → gd x = true
  | d :: r, x, h, hx => by
    rw [gds, Bool.and_eq_true] at h
    rcases List.mem_cons.mp hx with rfl | hx
    · exact h.1
    · exact gds_mem h.2 hx
def isT : D → Bool
  | .tup _ => true
  | _ => false
def isS : D → Bool
  | .str _ => true
  | _ => false
theorem isi_tup {d : D} (h : gd d = true) : dIsiN "tuple" d = some (.d (.bl (isT d))) := by
  have t1 : kitB "NoneType" "tuple" = some false := by decide +kernel
  have t2 : kitB "bool" "tuple" = some false := by decide +kernel
  have t3 : kitB "int" "tuple" = some false := by decide +kernel
  have t4 : kitB "str" "tuple" = some false := by decide +kernel
  have t5 : kitB "tuple" "tuple" = some true := by decide +kernel
  have t6 : kitB "list" "tuple" = some false := by decide +kernel
  have t7 : kitB "dict" "tuple" = some false := by decide +kernel
  unfold dIsiN dIsi
  cases d <;> first | (rw [gd] at h; cases h; done) | simp only [notScr, tyD, if_true, t1, t2, t3, t4, t5, t6, t7, Option.map_some, isT]
theorem isi_str {d : D} (h : gd d = true) : dIsiN "str" d = some (.d (.bl (isS d))) := by
  have t1 : kitB "NoneType" "str" = some false := by decide +kernel
  have t2 : kitB "bool" "str" = some false := by decide +kernel
  have t3 : kitB "int" "str" = some false := by decide +kernel
  have t4 : kitB "str" "str" = some true := by decide +kernel
  have t5 : kitB "tuple" "str" = some false := by decide +kernel
  have t6 : kitB "list" "str" = some false := by decide +kernel
  have t7 : kitB "dict" "str" = some false := by decide +kernel
  unfold dIsiN dIsi
  cases d <;> first | (rw [gd] at h; cases h; done) | simp only [notScr, tyD, if_true, t1, t2, t3, t4, t5, t6, t7, Option.map_some, isS]
theorem dEq_t {x y : Str} (hx : PyData.strOk x = true) (hy : PyData.strOk y = true) : dEq (.str x) (.str y) = some (.d (.bl (decide (x = y)))) := by
  unfold dEq
  rw [if_pos (by simp [eqOk, lay, hx, hy, dep]), eqD_str]
  congr 3
theorem dNe_t {x y : Str} (hx : PyData.strOk x = true) (hy : PyData.strOk y = true) : dNe (.str x) (.str y) = some (.d (.bl (!decide (x = y)))) := by
  unfold dNe
  rw [if_pos (by simp [eqOk, lay, hx, hy, dep]), eqD_str]
  congr 4
end L
set_option pp.maxSteps 400
set_option pp.deepTerms false
namespace L
open PySem L2 G
local macro_rules | `(tactic| walk_at "ey") => `(tactic| try simp only [sSpot, eSpot, sSeq, sSet, sExpr, sRet, sIf, sAsg, una, escf, escS, opd, eVar, eC, eBin, eUn, eFn, eCall, eTup, eLst, aCons, aNil, fin, rd, rds, R.toS, dsOf, Rs.bind_ok, Rs.bind_bad, Rs.bind_ex, Rs.opt_some, Option.bind_some, Option.map_some, ownAt, eExt, eApp, ePop, List.getElem?_cons_zero, List.getElem?_cons_succ, List.set_cons_zero, List.set_cons_succ, okArg, List.all_cons, List.all_nil, Bool.and_self, if_true, kName, kTup, ksCons, ksNil, fMax, tOf, List.length_cons, List.length_nil, Bool.not_false, Bool.not_true, if_false, Bool.false_eq_true, lm0, lm1, lm2, lm3, lm4, lm5, lm6, lm7, lm8, lm9, lm10, lm11, lm12, fnM, List.map_cons, List.map_nil, List.replicate, List.cons_append, List.nil_append, Nat.reduceAdd, Nat.reduceSub, sNil, tAndM, tOrM, tNotM, tTru, dTru, eIf, dSub_i, dAdd_i, dLt_i, dLe_i, dGt_i, dGe_i, dEq_i, decide_true, decide_false, eChain, eAndM, eSl, oInt, dNeg, fInt, aDef, fTuple])

/-! inner, signs, within -/
def innS (t : D) : S := match innD t with
  | some l => .l l
  | none => .d .non
theorem gd_tup {xs : List D} (h : gd (.tup xs) = true) : gds xs = true := by rwa [gd] at h
theorem dIx_nat {xs : List D} {i : Nat} (h : i < xs.length) : dIx (.tup xs) (.int (i : Int)) = some (.d (xs.getD i .non)) := by
  show (atI xs (i : Int)).map R.d = _
  rw [atI_nat (List.getElem?_eq_getElem h)]
  simp [h]
theorem spotsF_len (cs : List Nat) : ∀ i : Nat, (spotsF cs i).length ≤ cs.length := by
  induction cs with
  | nil => intro i; simp [spotsF]
  | cons c cs ih => intro i; have := ih (i + 1); rw [spotsF]; split <;> simp <;> omega
theorem dIx_t0 {d : D} {r : List D} : dIx (.tup (d :: r)) (.int 0) = some (.d d) := by
  show (atI (d :: r) 0).map R.d = _
  rw [atI0]
  rfl
theorem kget0 {x : Str} {r : List D} {s1 : Option S} {m : List MO} : (eKGet t_SIZES (eBin dIx (eVar 0) (eC (.int 0))) (eC (.int 0)) : Sm MX S) ⟨[some (.d (.tup (.str x :: r))), s1], m⟩ = .ok (.d ((t_SIZES.lookup x).getD (.int 0))) ⟨[some (.d (.tup (.str x :: r))), s1], m⟩ := by
  simp only [eKGet]
  walk_at "ey"
  rw [dIx_t0]
  walk_at "ey"
theorem inner_it {x s : Str} {r : List D} (hs : sgT.lookup x = some s) (hm : hasM s = false) (m : List MO) :
    (iAnyM (eKIx t_SPOTS (eBin dIx (eVar 0) (eC (.int 0)))) : Sm MX (List D)) ⟨[some (.d (.tup (.str x :: r))), none], m⟩ = .ok ((spotsF s.cps.toList 1).map fun i : Nat => D.int (i : Int)) ⟨[some (.d (.tup (.str x :: r))), none], m⟩ := by
  simp only [iAnyM]
  walk_at "ey"
  simp only [eKIx]
  walk_at "ey"
  rw [dIx_t0]
  walk_at "ey"
  rw [spot_look hs hm]
  walk_at "ey"
  rfl
theorem inner_lc {x s : Str} {r : List D} (hs : sgT.lookup x = some s) (hl : r.length = s.cps.size) (hm : hasM s = false) (hk : r.length ≤ 10) (m : List MO) :
    (eLc (iAnyM (eKIx t_SPOTS (eBin dIx (eVar 0) (eC (.int 0))))) (kName 1) (fun z => .ok true z) (eBin dIx (eVar 0) (eVar 1)) [1] : Sm MX S) ⟨[some (.d (.tup (.str x :: r))), none], m⟩ = .ok (.l (gsel s.cps.toList r)) ⟨[some (.d (.tup (.str x :: r))), none], m⟩ := by
  have e0 := gsel_spots s.cps.toList [.str x] r (by rw [Array.length_toList]; exact hl.symm)
  rw [show ([D.str x] : List D).length = 1 from rfl] at e0
  rw [← e0]
  refine elc_map (en := fun i : Nat => D.int (i : Int)) (inner_it hs hm m) rfl ?_ (fun i hi => ?_)
  · have q := spotsF_len s.cps.toList 1
    rw [Array.length_toList (xs := s.cps)] at q
    show _ ≤ 1000000
    omega
  · obtain ⟨l1, l2⟩ := spots_lt _ _ _ hi
    rw [Array.length_toList] at l2
    have hj : i < (D.str x :: r).length := by rw [List.length_cons]; omega
    walk_at "ey"
    rw [dIx_nat hj]
    walk_at "ey"
theorem inner_ok (n : Nat) {t : D} (h : gd t = true) (m : List MO) : mir (n + 1) .inner [.d t] m = .ok (innS t) m := by
  show fnM 2 (m_inner (mir n)) [.d t] m = _
  unfold m_inner
  walk_at "ey"
  rw [isi_tup h]
  walk_at "ey"
  cases t with
  | tup xs =>
    simp only [isT]
    walk_at "ey"
    cases xs with
    | nil =>
      simp only [dEq0, List.isEmpty_nil, Bool.false_xor]
      walk_at "ey"
      rfl
    | cons d r =>
      simp only [dEq0, List.isEmpty_cons, Bool.false_xor]
      walk_at "ey"
      simp only [dIx_t0]
      walk_at "ey"
      rw [isi_str (gds_mem (gd_tup h) List.mem_cons_self)]
      walk_at "ey"
      cases d with
      | str x =>
        have hx : PyData.strOk x = true := by have := gds_mem (gd_tup h) (List.mem_cons_self); rwa [gd] at this
        simp only [isS]
        walk_at "ey"
        rw [kget0, size_look]
        walk_at "ey"
        cases es : sgT.lookup x with
        | none =>
          simp only [Option.map_none, Option.getD_none]
          walk_at "ey"
          simp only [fLen]
          walk_at "ey"
          rw [dNe_i, show decide ((0 : Int) = ((r.length + 1 : Nat) : Int)) = false from decide_eq_false (by omega)]
          walk_at "ey"
          simp only [innS, innD, es]
        | some s =>
          simp only [Option.map_some, Option.getD_some]
          walk_at "ey"
          simp only [fLen]
          walk_at "ey"
          rw [dNe_i]
          by_cases hl : r.length = s.cps.size
          · rw [show decide (((s.cps.size + 1 : Nat) : Int) = ((r.length + 1 : Nat) : Int)) = true from decide_eq_true (by rw [hl])]
            walk_at "ey"
            simp only [dIx_t0]
            walk_at "ey"
            rw [dEq_t hx (by decide +kernel)]
            have em := mem_m _ (look_mem es)
            simp only at em
            rw [← em]
            cases hm : hasM s with
            | true =>
              have h3 := mem_3 _ (look_mem es) hm
              simp only at h3
              rw [h3] at hl
              match r, hl, h with
              | [a, b, c], _, h =>
                walk_at "ey"
                simp only [show ∀ y : D, dIx (.tup [y, a, b, c]) (.int 3) = some (.d c) from fun y => rfl]
                walk_at "ey"
                have hc : gd c = true := gds_mem (gd_tup h) (List.mem_cons_of_mem _ (List.mem_cons_of_mem _ (List.mem_cons_of_mem _ List.mem_cons_self)))
                rw [isi_tup hc]
                walk_at "ey"
                have e3 : ([a, b, c] : List D).length = s.cps.size := h3.symm
                cases c with
                | tup ys =>
                  simp only [isT]
                  walk_at "ey"
                  simp only [show ∀ y : D, dIx (.tup [y, a, b, .tup ys]) (.int 3) = some (.d (.tup ys)) from fun y => rfl]
                  walk_at "ey"
                  simp only [fList]
                  walk_at "ey"
                  simp only [innS, innD, es, e3, hm, if_true, List.getElem?_cons_succ, List.getElem?_cons_zero]
                | _ =>
                  simp only [isT]
                  walk_at "ey"
                  simp only [innS, innD, es, e3, hm, if_true, List.getElem?_cons_succ, List.getElem?_cons_zero]
            | false =>
              have h4 := (mem_0 _ (look_mem es)).2
              simp only at h4
              walk_at "ey"
              rw [inner_lc es hl hm (by omega) m]
              walk_at "ey"
              simp only [innS, innD, es, hl, hm, if_true, Bool.false_eq_true, if_false]
          · rw [show decide (((s.cps.size + 1 : Nat) : Int) = ((r.length + 1 : Nat) : Int)) = false from decide_eq_false (by omega)]
            walk_at "ey"
            simp only [innS, innD, es, hl, if_false]
      | _ => simp only [isS]; walk_at "ey"; rfl
  | _ => simp only [isT]; walk_at "ey"; rfl
end L
set_option pp.maxSteps 400
set_option pp.deepTerms false
namespace L
open PySem L2 G
local macro_rules | `(tactic| walk_at "ey") => `(tactic| try simp only [sSpot, eSpot, sSeq, sSet, sExpr, sRet, sIf, sAsg, una, escf, escS, opd, eVar, eC, eBin, eUn, eFn, eCall, eTup, eLst, aCons, aNil, fin, rd, rds, R.toS, dsOf, Rs.bind_ok, Rs.bind_bad, Rs.bind_ex, Rs.opt_some, Option.bind_some, Option.map_some, ownAt, eExt, eApp, ePop, List.getElem?_cons_zero, List.getElem?_cons_succ, List.set_cons_zero, List.set_cons_succ, okArg, List.all_cons, List.all_nil, Bool.and_self, if_true, kName, kTup, ksCons, ksNil, fMax, tOf, List.length_cons, List.length_nil, Bool.not_false, Bool.not_true, if_false, Bool.false_eq_true, lm0, lm1, lm2, lm3, lm4, lm5, lm6, lm7, lm8, lm9, lm10, lm11, lm12, fnM, List.map_cons, List.map_nil, List.replicate, List.cons_append, List.nil_append, Nat.reduceAdd, Nat.reduceSub, sNil, tAndM, tOrM, tNotM, tTru, dTru, eIf, dSub_i, dAdd_i, dLt_i, dLe_i, dGt_i, dGe_i, dEq_i, decide_true, decide_false, eChain, eAndM, eSl, oInt, dNeg, fInt, aDef, fTuple])

/-! the law's signs, and what stands within by them -/
def sA : List (Str × Str) := [("held", "n"), ("use", "n"), ("pair", "gg"), ("first", "g"), ("second", "g"), ("either", "gn"), ("other", "ng")]
def sB : List (Str × Str) := [("cases", "ggg"), ("take", "ng"), ("give", "gg"), ("void", "gn"), ("twice", "g"), ("each", "ng"), ("at", "gn")]
def sC : List (Str × Str) := [("some", "nnng"), ("open", "gg"), ("alike", "n"), ("swap", "ngg"), ("members", "nnm"), ("unlike", "nn")]
def sD : List (Str × Str) := [("fold", "nng"), ("unfold", "g")]
def dk (l : List (Str × Str)) : List (Key × D) := mergeD [] (ksD l)
theorem merged : mergeD (mergeD (mergeD (dk sA) (dk sB)) (dk sC)) (dk sD) = ksD sgT := by kernel_rfl
theorem dk_len : (dk sA).length = 7 ∧ (dk sB).length = 7 ∧ (dk sC).length = 6 ∧ (dk sD).length = 2 := by decide +kernel
theorem mg_len : (mergeD (dk sA) (dk sB)).length = 14 ∧ (mergeD (mergeD (dk sA) (dk sB)) (dk sC)).length = 20 := by decide +kernel
theorem valD_ks (x : Str) : ∀ l : List (Str × Str), valD (ksD l) (.inr x) = (l.lookup x).map D.str
  | [] => rfl
  | p :: r => by
    show (if (Sum.inr p.1 : Key) = .inr x then some (D.str p.2) else valD (ksD r) (.inr x)) = _
    rw [List.lookup_cons]
    by_cases e : p.1 = x
    · rw [if_pos (by rw [e]), show (x == p.1) = true from by rw [e]; exact beq_self_eq_true x]
      rfl
    · rw [if_neg (fun h => e (Sum.inr.inj h)), show (x == p.1) = false from beq_eq_false_iff_ne.mpr (fun h => e h.symm)]
      exact valD_ks x r
def sgS (x : Str) : Str := (sgT.lookup x).getD ""
theorem disp_ok (l : List (Str × Str)) (h : l.length ≤ 15) (rho : List (Option S)) (m : List MO) : eDisp l ⟨rho, m⟩ = .ok (.d (.o m.length)) ⟨rho, m ++ [.dK (dk l)]⟩ := if_pos h
theorem upd_ok (l : List (Str × Str)) (h : l.length ≤ 15) (b : List MO) (P : List (Key × D)) (j : List MO) (s0 : Option S) (hz : P.length + (dk l).length ≤ lim) :
    eDUpd (eVar 1) (eDisp l) ⟨[s0, some (.d (.o b.length))], b ++ .dK P :: j⟩ = .ok (.d .non) ⟨[s0, some (.d (.o b.length))], b ++ .dK (mergeD P (dk l)) :: (j ++ [.dK (dk l)])⟩ := by
  have e1 : ∀ j : List MO, (b ++ .dK P :: j)[b.length]? = some (.dK P) := fun j => by simp
  have d1 : ∀ j : List MO, dictAt ⟨[s0, some (.d (.o b.length))], b ++ .dK P :: j⟩ (.d (.o b.length)) = some (b.length, P) := fun j => by
    unfold dictAt
    simp only [rd]
    rw [e1]
  have e2 : ((b ++ .dK P :: j) ++ [MO.dK (dk l)])[(b ++ .dK P :: j).length]? = some (.dK (dk l)) := by simp
  have d2 : dictAt ⟨[s0, some (.d (.o b.length))], b ++ .dK P :: (j ++ [.dK (dk l)])⟩ (.d (.o (b ++ .dK P :: j).length)) = some ((b ++ MO.dK P :: j).length, dk l) := by
    unfold dictAt
    simp only [rd]
    rw [show b ++ MO.dK P :: (j ++ [.dK (dk l)]) = (b ++ .dK P :: j) ++ [MO.dK (dk l)] from by simp, e2]
  simp only [eDUpd]
  walk_at "ey"
  rw [d1]
  simp only [disp_ok l h]
  walk_at "ey"
  rw [show (b ++ MO.dK P :: j) ++ [.dK (dk l)] = b ++ MO.dK P :: (j ++ [.dK (dk l)]) from by simp, d1, d2]
  simp only
  rw [if_pos ⟨by simp, hz⟩]
  congr 2
  simp
theorem signs_ok (n : Nat) (x : Str) (m : Int) (g : List MO) : ∃ j : List MO, mir (n + 1) ._law_signs [.d (.str x)] (sp m g) = .ok (.d (.str (sgS x))) (sp m (g ++ j)) := by
  obtain ⟨l1, l2, l3, l4⟩ := dk_len
  obtain ⟨l5, l6⟩ := mg_len
  refine ⟨.dK (mergeD (mergeD (mergeD (dk sA) (dk sB)) (dk sC)) (dk sD)) :: ([] ++ [.dK (dk sB)] ++ [.dK (dk sC)] ++ [.dK (dk sD)]), ?_⟩
  show fnM 2 (m__law_signs (mir n)) [.d (.str x)] (sp m g) = _
  have u1 := upd_ok sB (by decide) (sp m g) (dk sA) [] (some (.d (.str x))) (by rw [l1, l2]; decide)
  have u2 := upd_ok sC (by decide) (sp m g) (mergeD (dk sA) (dk sB)) ([] ++ [.dK (dk sB)]) (some (.d (.str x))) (by rw [l5, l3]; decide)
  have u3 := upd_ok sD (by decide) (sp m g) (mergeD (mergeD (dk sA) (dk sB)) (dk sC)) ([] ++ [.dK (dk sB)] ++ [.dK (dk sC)]) (some (.d (.str x))) (by rw [l6, l4]; decide)
  have a0 : (sSet 1 (eDisp sA) : Sm MX Out) ⟨[some (.d (.str x)), none], sp m g⟩ = .ok .nx ⟨[some (.d (.str x)), some (.d (.o (sp m g).length))], sp m g ++ .dK (dk sA) :: []⟩ := by
    walk_at "ey"
    rw [disp_ok sA (by decide)]
    walk_at "ey"
  have st : ∀ (l : List (Str × Str)) {z z' : Z (List MO)}, eDUpd (eVar 1) (eDisp l) z = .ok (.d .non) z' → (sExpr (eDUpd (eVar 1) (eDisp l)) : Sm MX Out) z = .ok .nx z' := fun l z z' h => by
    simp only [sExpr, h, Rs.bind_ok]
  have fin : (sRet (eDGet2 (eVar 1) (eVar 0) (eC (.str ""))) : Sm MX Out) ⟨[some (.d (.str x)), some (.d (.o (sp m g).length))], sp m g ++ .dK (mergeD (mergeD (mergeD (dk sA) (dk sB)) (dk sC)) (dk sD)) :: ([] ++ [.dK (dk sB)] ++ [.dK (dk sC)] ++ [.dK (dk sD)])⟩ = .ok (.rt (.d (.str (sgS x)))) ⟨[some (.d (.str x)), some (.d (.o (sp m g).length))], sp m g ++ .dK (mergeD (mergeD (mergeD (dk sA) (dk sB)) (dk sC)) (dk sD)) :: ([] ++ [.dK (dk sB)] ++ [.dK (dk sC)] ++ [.dK (dk sD)])⟩ := by
    generalize ([] ++ [MO.dK (dk sB)] ++ [MO.dK (dk sC)] ++ [MO.dK (dk sD)]) = j
    rw [merged]
    have d1 : ∀ P : List (Key × D), dictAt ⟨[some (.d (.str x)), some (.d (.o (sp m g).length))], sp m g ++ .dK P :: j⟩ (.d (.o (sp m g).length)) = some ((sp m g).length, P) := fun P => by
      unfold dictAt
      simp only [rd]
      rw [show (sp m g ++ .dK P :: j)[(sp m g).length]? = some (.dK P) from by simp]
    simp only [sRet, eDGet2]
    walk_at "ey"
    rw [d1]
    simp only [keyD]
    walk_at "ey"
    rw [valD_ks]
    unfold sgS
    cases sgT.lookup x <;> rfl
  unfold m__law_signs
  simp only [fnM, List.map_cons, List.map_nil, List.length_cons, List.length_nil, Nat.zero_add, Nat.reduceSub, List.replicate, List.cons_append, List.nil_append]
  have all : (sSeq (sSet 1 (eDisp sA)) (sSeq (sExpr (eDUpd (eVar 1) (eDisp sB))) (sSeq (sExpr (eDUpd (eVar 1) (eDisp sC))) (sSeq (sExpr (eDUpd (eVar 1) (eDisp sD))) (sRet (eDGet2 (eVar 1) (eVar 0) (eC (.str ""))))))) : Sm MX Out) ⟨[some (.d (.str x)), none], sp m g⟩ = _ := ((seq_nx a0).trans ((seq_nx (st sB u1)).trans ((seq_nx (st sC u2)).trans ((seq_nx (st sD u3)).trans fin))))
  unfold sA sB sC sD at all
  rw [all]
  rfl
end L
set_option pp.maxSteps 400
set_option pp.deepTerms false
namespace L
open PySem L2 G
local macro_rules | `(tactic| walk_at "ey") => `(tactic| try simp only [sSpot, eSpot, sSeq, sSet, sExpr, sRet, sIf, sAsg, una, escf, escS, opd, eVar, eC, eBin, eUn, eFn, eCall, eTup, eLst, aCons, aNil, fin, rd, rds, R.toS, dsOf, Rs.bind_ok, Rs.bind_bad, Rs.bind_ex, Rs.opt_some, Option.bind_some, Option.map_some, ownAt, eExt, eApp, ePop, List.getElem?_cons_zero, List.getElem?_cons_succ, List.set_cons_zero, List.set_cons_succ, okArg, List.all_cons, List.all_nil, Bool.and_self, if_true, kName, kTup, ksCons, ksNil, fMax, tOf, List.length_cons, List.length_nil, Bool.not_false, Bool.not_true, if_false, Bool.false_eq_true, lm0, lm1, lm2, lm3, lm4, lm5, lm6, lm7, lm8, lm9, lm10, lm11, lm12, fnM, List.map_cons, List.map_nil, List.replicate, List.cons_append, List.nil_append, Nat.reduceAdd, Nat.reduceSub, sNil, tAndM, tOrM, tNotM, tTru, dTru, eIf, dSub_i, dAdd_i, dLt_i, dLe_i, dGt_i, dGe_i, dEq_i, decide_true, decide_false, eChain, eAndM, eSl, oInt, dNeg, fInt, aDef, fTuple])

/-! within, by the law's signs -/
theorem sg_ok : ∀ p ∈ sgT, PyData.strOk p.2 = true ∧ p.2 ≠ ("" : Str) ∧ (p.2.cps.toList.all fun c => decide (c < 128)) = true := by decide +kernel
theorem one_g (c : Nat) : decide ((⟨#[c]⟩ : Str) = ("g" : Str)) = decide (c = 103) := by
  rw [show ("g" : Str) = ⟨#[103]⟩ from by decide +kernel, decide_eq_decide]
  constructor
  · intro h
    have := congrArg (fun s : Str => s.cps[0]?) h
    simpa using this
  · intro h; rw [h]
theorem one_ok {c : Nat} (h : c < 128) : PyData.strOk ⟨#[c]⟩ = true := by
  unfold PyData.strOk
  simp
  omega
theorem in_m (s : Str) : dIn (.str "m") (.str s) = some (.d (.bl (hasM s))) := by
  have e : dIn (.str ⟨#[109]⟩) (.str s) = some (.d (.bl (hasM s))) := rfl
  rw [← e, show ("m" : Str) = ⟨#[109]⟩ from by decide +kernel]
theorem zip_lc (s0 s1 : Option S) (m : List MO) : ∀ (cs : List Nat) (ds acc : List D), (∀ c ∈ cs, c < 128) → acc.length + ds.length ≤ lim →
    lcL (M := MX) (kTup 2 (ksCons (kName 2) (ksCons (kName 3) ksNil))) (tOf (eBin dEq (eVar 2) (eC (.str "g")))) (eVar 3) [2, 3] (zipD (cs.map fun c => .str ⟨#[c]⟩) ds) acc ⟨[s0, s1, none, none], m⟩ = .ok (acc ++ gsel cs ds) ⟨[s0, s1, none, none], m⟩
  | [], ds, acc, _, _ => by simp [zipD, lcL, gsel]
  | c :: cs, [], acc, _, _ => by simp [zipD, lcL, gsel]
  | c :: cs, d :: ds, acc, h, hl => by
    rw [List.length_cons] at hl
    have hc := h c List.mem_cons_self
    have et : (tOf (eBin dEq (eVar 2) (eC (.str "g"))) : Sm MX Bool) ⟨[s0, s1, some (.d (.str ⟨#[c]⟩)), some (.d d)], m⟩ = .ok (decide (c = 103)) ⟨[s0, s1, some (.d (.str ⟨#[c]⟩)), some (.d d)], m⟩ := by
      walk_at "ey"
      rw [dEq_t (one_ok hc) (by decide +kernel), one_g]
      walk_at "ey"
    have ee : (escf (eVar 3) : Sm MX S) ⟨[s0, s1, some (.d (.str ⟨#[c]⟩)), some (.d d)], m⟩ = .ok (.d d) ⟨[s0, s1, some (.d (.str ⟨#[c]⟩)), some (.d d)], m⟩ := by
      walk_at "ey"
    have ek : kTup (M := MX) 2 (ksCons (kName 2) (ksCons (kName 3) ksNil)) (.tup [.str ⟨#[c]⟩, d]) ⟨[s0, s1, none, none], m⟩ = some ⟨[s0, s1, some (.d (.str ⟨#[c]⟩)), some (.d d)], m⟩ := rfl
    have ew : wipeZ (M := MX) ⟨[s0, s1, some (.d (.str ⟨#[c]⟩)), some (.d d)], m⟩ [2, 3] = ⟨[s0, s1, none, none], m⟩ := rfl
    rw [List.map_cons, zipD, gsel]
    unfold lcL
    simp only [ek, et, nox, Rs.bind_ok]
    by_cases q : c = 103
    · simp only [q, decide_true, if_true]
      rw [q] at ee ew
      simp only [ee, Rs.bind_ok]
      rw [if_pos (by omega), ew, zip_lc s0 s1 m cs ds (acc ++ [d]) (fun x hx => h x (List.mem_cons_of_mem _ hx)) (by rw [List.length_append, List.length_singleton]; omega)]
      simp
    · simp only [q, decide_false, Bool.false_eq_true, if_false]
      rw [ew, zip_lc s0 s1 m cs ds acc (fun x hx => h x (List.mem_cons_of_mem _ hx)) (by omega)]
theorem elc_go {M : MI} {its : Sm M (List D)} {k : D → Z M.T → Option (Z M.T)} {t : Sm M Bool} {e : Sm M S} {vs : List Nat} {z : Z M.T} {ds acc : List D} (h0 : its z = .ok ds z) (hn : noOwn z.rho vs = true) (hw : wipeZ z vs = z) (hl : lcL k t e vs ds [] z = .ok acc z) (hr : restR z.rho z.rho vs = z.rho) : eLc its k t e vs z = .ok (.l acc) z := by
  unfold eLc
  rw [h0, Rs.bind_ok, if_pos hn, hw, hl, Rs.bind_ok, hr]
theorem cut1 (x : D) (r : List D) : dSl (.tup (x :: r)) (some 1) none = some (.t r) := by
  show some (R.t (cutD (x :: r) (some 1) none)) = _
  unfold cutD
  have e1 : HT.sIx (x :: r).length 0 (some 1) = 1 := by
    unfold HT.sIx
    simp
    try omega
  have e2 : HT.sIx (x :: r).length (x :: r).length none = (x :: r).length := rfl
  rw [e1, e2]
  simp
theorem within_ok (n : Nat) {t : D} (h : gd t = true) (m : Int) (g : List MO) : ∃ j : List MO, mir (n + 2) ._law_within [.d t] (sp m g) = .ok (innS t) (sp m (g ++ j)) := by
  have nil : ∀ {r : Rs S (List MO)}, r = .ok (innS t) (sp m g) → ∃ j : List MO, r = .ok (innS t) (sp m (g ++ j)) := fun e => ⟨[], by rw [List.append_nil]; exact e⟩
  show ∃ j, fnM 4 (m__law_within (mir (n + 1))) [.d t] (sp m g) = _
  unfold m__law_within
  walk_at "ey"
  rw [isi_tup h]
  walk_at "ey"
  cases t with
  | tup xs =>
    simp only [isT]
    walk_at "ey"
    cases xs with
    | nil =>
      simp only [dEq0, List.isEmpty_nil, Bool.false_xor]
      walk_at "ey"
      exact nil rfl
    | cons d r =>
      simp only [dEq0, List.isEmpty_cons, Bool.false_xor]
      walk_at "ey"
      simp only [dIx_t0]
      walk_at "ey"
      rw [isi_str (gds_mem (gd_tup h) List.mem_cons_self)]
      walk_at "ey"
      cases d with
      | str x =>
        have hx : PyData.strOk x = true := by have := gds_mem (gd_tup h) (List.mem_cons_self); rwa [gd] at this
        simp only [isS]
        walk_at "ey"
        simp only [dIx_t0]
        walk_at "ey"
        obtain ⟨j, ej⟩ := signs_ok n x m g
        refine ⟨j, ?_⟩
        rw [ej]
        walk_at "ey"
        cases es : sgT.lookup x with
        | none =>
          have e0 : sgS x = "" := by unfold sgS; rw [es]; rfl
          rw [e0, dEq_t (by decide +kernel) (by decide +kernel), decide_eq_true rfl]
          walk_at "ey"
          simp only [innS, innD, es]
        | some s =>
          have e0 : sgS x = s := by unfold sgS; rw [es]; rfl
          obtain ⟨o1, o2, o3⟩ := sg_ok _ (look_mem es)
          simp only at o1 o2 o3
          have o4 := (mem_0 _ (look_mem es)).2
          simp only at o4
          rw [e0, dEq_t o1 (by decide +kernel), decide_eq_false o2]
          walk_at "ey"
          rw [show fLen [D.tup (D.str x :: r)] = some (.d (.int ((r.length + 1 : Nat) : Int))) from rfl]
          walk_at "ey"
          rw [fLen_s (by show s.cps.size ≤ 1000000; omega)]
          walk_at "ey"
          rw [dNe_i]
          by_cases hl : r.length = s.cps.size
          · rw [show decide (((r.length + 1 : Nat) : Int) = ((s.length : Nat) : Int) + 1) = true from decide_eq_true (by show ((r.length + 1 : Nat) : Int) = ((s.cps.size : Nat) : Int) + 1; omega)]
            walk_at "ey"
            rw [in_m]
            cases hm : hasM s with
            | true =>
              have h3 := mem_3 _ (look_mem es) hm
              simp only at h3
              rw [h3] at hl
              match r, hl, h with
              | [a, b, c], _, h =>
                walk_at "ey"
                simp only [show ∀ y : D, dIx (.tup [y, a, b, c]) (.int 3) = some (.d c) from fun y => rfl]
                walk_at "ey"
                have hc : gd c = true := gds_mem (gd_tup h) (List.mem_cons_of_mem _ (List.mem_cons_of_mem _ (List.mem_cons_of_mem _ List.mem_cons_self)))
                rw [isi_tup hc]
                walk_at "ey"
                have e3 : ([a, b, c] : List D).length = s.cps.size := h3.symm
                cases c with
                | tup ys =>
                  simp only [isT]
                  walk_at "ey"
                  simp only [show ∀ y : D, dIx (.tup [y, a, b, .tup ys]) (.int 3) = some (.d (.tup ys)) from fun y => rfl]
                  walk_at "ey"
                  simp only [fList]
                  walk_at "ey"
                  simp only [innS, innD, es, e3, hm, if_true, List.getElem?_cons_succ, List.getElem?_cons_zero]
                | _ =>
                  simp only [isT]
                  walk_at "ey"
                  simp only [innS, innD, es, e3, hm, if_true, List.getElem?_cons_succ, List.getElem?_cons_zero]
            | false =>
              walk_at "ey"
              have zit : (iZipXM (aCons (escf (eVar 1)) (aCons (escf (eSl dSl (eVar 0) (oInt (eC (.int 1))) (fun z => .ok none z))) aNil)) : Sm MX (List D)) ⟨[some (.d (.tup (.str x :: r))), some (.d (.str s)), none, none], sp m (g ++ j)⟩ = .ok (zipD (s.cps.toList.map fun c => .str ⟨#[c]⟩) r) ⟨[some (.d (.tup (.str x :: r))), some (.d (.str s)), none, none], sp m (g ++ j)⟩ := by
                simp only [iZipXM]
                walk_at "ey"
                rw [cut1]
                walk_at "ey"
                rfl
              have lc : (eLc (iZipXM (aCons (escf (eVar 1)) (aCons (escf (eSl dSl (eVar 0) (oInt (eC (.int 1))) (fun z => .ok none z))) aNil))) (kTup 2 (ksCons (kName 2) (ksCons (kName 3) ksNil))) (tOf (eBin dEq (eVar 2) (eC (.str "g")))) (eVar 3) [2, 3] : Sm MX S) ⟨[some (.d (.tup (.str x :: r))), some (.d (.str s)), none, none], sp m (g ++ j)⟩ = .ok (.l (gsel s.cps.toList r)) ⟨[some (.d (.tup (.str x :: r))), some (.d (.str s)), none, none], sp m (g ++ j)⟩ := by
                exact elc_go zit rfl rfl (zip_lc _ _ _ s.cps.toList r [] (fun c hc => of_decide_eq_true (List.all_eq_true.mp o3 c hc)) (by rw [List.length_nil]; show 0 + r.length ≤ 1000000; omega)) rfl
              rw [lc]
              walk_at "ey"
              simp only [innS, innD, es, hl, hm, if_true, Bool.false_eq_true, if_false]
          · rw [show decide (((r.length + 1 : Nat) : Int) = ((s.length : Nat) : Int) + 1) = false from decide_eq_false (by show ¬ ((r.length + 1 : Nat) : Int) = ((s.cps.size : Nat) : Int) + 1; omega)]
            walk_at "ey"
            simp only [innS, innD, es, hl, if_false]
      | _ => simp only [isS]; walk_at "ey"; exact nil rfl
  | _ => simp only [isT]; walk_at "ey"; exact nil rfl
end L
set_option pp.maxSteps 400
set_option pp.deepTerms false
namespace L
open PySem L2 G
local macro_rules | `(tactic| walk_at "ey") => `(tactic| try simp only [sSpot, eSpot, sSeq, sSet, sExpr, sRet, sIf, sAsg, una, escf, escS, opd, eVar, eC, eBin, eUn, eFn, eCall, eTup, eLst, aCons, aNil, fin, rd, rds, R.toS, dsOf, Rs.bind_ok, Rs.bind_bad, Rs.bind_ex, Rs.opt_some, Option.bind_some, Option.map_some, ownAt, eExt, eApp, ePop, List.getElem?_cons_zero, List.getElem?_cons_succ, List.set_cons_zero, List.set_cons_succ, okArg, List.all_cons, List.all_nil, Bool.and_self, if_true, kName, kTup, ksCons, ksNil, fMax, tOf, List.length_cons, List.length_nil, Bool.not_false, Bool.not_true, if_false, Bool.false_eq_true, lm0, lm1, lm2, lm3, lm4, lm5, lm6, lm7, lm8, lm9, lm10, lm11, lm12, fnM, List.map_cons, List.map_nil, List.replicate, List.cons_append, List.nil_append, Nat.reduceAdd, Nat.reduceSub, sNil, tAndM, tOrM, tNotM, tTru, dTru, eIf, dSub_i, dAdd_i, dLt_i, dLe_i, dGt_i, dGe_i, dEq_i, decide_true, decide_false, eChain, eAndM, eSl, oInt, dNeg, fInt, aDef, fTuple])

/-! how many grounds, how many within one another, how many things are taken up -/
theorem inn_lt {d : D} {l : List D} (h : innD d = some l) {x : D} (hx : x ∈ l) : sizeOf x < sizeOf d := by
  unfold innD at h
  split at h
  · rename_i s r
    split at h
    · cases h
    · rename_i sg es
      split at h
      · split at h
        · split at h
          · rename_i ys e2
            cases h
            have h1 := List.sizeOf_lt_of_mem hx
            have h2 : D.tup l ∈ r := List.mem_of_getElem? e2
            have h3 := List.sizeOf_lt_of_mem h2
            simp at h3 ⊢
            omega
          · cases h
        · cases h
          have h1 := List.sizeOf_lt_of_mem (gsel_mem hx)
          simp
          omega
      · cases h
  · cases h
def cnt (d : D) : Nat := match h : innD d with
  | none => 0
  | some l => 1 + (l.attach.map fun x => cnt x.1).sum
termination_by sizeOf d
decreasing_by exact inn_lt h x.2
def dpt (d : D) : Nat := match h : innD d with
  | none => 0
  | some l => 1 + (l.attach.map fun x => dpt x.1).foldr max 0
termination_by sizeOf d
decreasing_by exact inn_lt h x.2
def pops (d : D) : Nat := match h : innD d with
  | none => 1
  | some l => 1 + (l.attach.map fun x => pops x.1).sum
termination_by sizeOf d
decreasing_by exact inn_lt h x.2
def cnts (l : List D) : Nat := (l.map cnt).sum
def dpts (l : List D) : Nat := (l.map dpt).foldr max 0
def popss (l : List D) : Nat := (l.map pops).sum
theorem cnt_none {d : D} (h : innD d = none) : cnt d = 0 := by
  rw [cnt]; split
  · rfl
  · rename_i l e; rw [h] at e; cases e
theorem cnt_some {d : D} {l : List D} (h : innD d = some l) : cnt d = 1 + cnts l := by
  rw [cnt]; split
  · rename_i e; rw [h] at e; cases e
  · rename_i l' e
    rw [h] at e; cases e
    unfold cnts
    rw [List.attach_map_val (f := cnt)]
theorem dpt_none {d : D} (h : innD d = none) : dpt d = 0 := by
  rw [dpt]; split
  · rfl
  · rename_i l e; rw [h] at e; cases e
theorem dpt_some {d : D} {l : List D} (h : innD d = some l) : dpt d = 1 + dpts l := by
  rw [dpt]; split
  · rename_i e; rw [h] at e; cases e
  · rename_i l' e
    rw [h] at e; cases e
    unfold dpts
    rw [List.attach_map_val (f := dpt)]
theorem pops_none {d : D} (h : innD d = none) : pops d = 1 := by
  rw [pops]; split
  · rfl
  · rename_i l e; rw [h] at e; cases e
theorem pops_some {d : D} {l : List D} (h : innD d = some l) : pops d = 1 + popss l := by
  rw [pops]; split
  · rename_i e; rw [h] at e; cases e
  · rename_i l' e
    rw [h] at e; cases e
    unfold popss
    rw [List.attach_map_val (f := pops)]
theorem cnts_nil : cnts [] = 0 := rfl
theorem cnts_cons (d : D) (r : List D) : cnts (d :: r) = cnt d + cnts r := rfl
theorem dpts_nil : dpts [] = 0 := rfl
theorem dpts_cons (d : D) (r : List D) : dpts (d :: r) = max (dpt d) (dpts r) := rfl
theorem popss_nil : popss [] = 0 := rfl
theorem popss_cons (d : D) (r : List D) : popss (d :: r) = pops d + popss r := rfl
theorem dpt_pos {d : D} (h : dpt d = 0) : innD d = none := by
  cases e : innD d with
  | none => rfl
  | some l => rw [dpt_some e] at h; omega
theorem pops_pos (d : D) : 1 ≤ pops d := by
  cases e : innD d with
  | none => rw [pops_none e]; omega
  | some l => rw [pops_some e]; omega
/-- a good thing's parts are good -/
theorem inn_gd {d : D} {l : List D} (h : innD d = some l) (hg : gd d = true) : gds l = true := by
  have all : ∀ l : List D, (∀ x ∈ l, gd x = true) → gds l = true := fun l => by
    induction l with
    | nil => intro _; rfl
    | cons x r ih => intro q; rw [gds, q x List.mem_cons_self, ih fun y hy => q y (List.mem_cons_of_mem _ hy)]; rfl
  unfold innD at h
  split at h
  · rename_i s r
    have hr : ∀ x ∈ r, gd x = true := fun x hx => gds_mem (gd_tup hg) (List.mem_cons_of_mem _ hx)
    split at h
    · cases h
    · rename_i sg es
      split at h
      · split at h
        · split at h
          · rename_i ys e2
            cases h
            have h2 := hr _ (List.mem_of_getElem? e2)
            rwa [gd] at h2
          · cases h
        · cases h
          exact all _ fun x hx => hr x (gsel_mem hx)
      · cases h
  · cases h
theorem inn_len {d : D} {l : List D} (h : innD d = some l) : l.length ≤ popss l := by
  unfold popss
  clear h
  induction l with
  | nil => simp
  | cons x r ih => have := pops_pos x; rw [List.map_cons, List.sum_cons, List.length_cons]; omega
/-! the stack: things with the depth at which they stand -/
def itm (p : D × Nat) : D := .tup [p.1, .int (p.2 : Int)]
def sC2 (st : List (D × Nat)) : Nat := (st.map fun p => cnt p.1).sum
def sP2 (st : List (D × Nat)) : Nat := (st.map fun p => pops p.1).sum
def rch (p : D × Nat) : Nat := if dpt p.1 = 0 then 0 else p.2 + dpt p.1 - 1
def sR2 (st : List (D × Nat)) : Nat := (st.map rch).foldr max 0
theorem sC2_app (a b : List (D × Nat)) : sC2 (a ++ b) = sC2 a + sC2 b := by unfold sC2; rw [List.map_append, List.sum_append]
theorem sP2_app (a b : List (D × Nat)) : sP2 (a ++ b) = sP2 a + sP2 b := by unfold sP2; rw [List.map_append, List.sum_append]
theorem foldr_max (a b : List Nat) : (a ++ b).foldr max 0 = max (a.foldr max 0) (b.foldr max 0) := by
  induction a with
  | nil => simp
  | cons x r ih => rw [List.cons_append, List.foldr_cons, List.foldr_cons, ih]; omega
theorem sR2_app (a b : List (D × Nat)) : sR2 (a ++ b) = max (sR2 a) (sR2 b) := by unfold sR2; rw [List.map_append, foldr_max]
theorem sC2_kids (l : List D) (k : Nat) : sC2 (l.map fun d => (d, k)) = cnts l := by
  unfold sC2 cnts; rw [List.map_map]; rfl
theorem sP2_kids (l : List D) (k : Nat) : sP2 (l.map fun d => (d, k)) = popss l := by
  unfold sP2 popss; rw [List.map_map]; rfl
theorem sR2_kids (k : Nat) : ∀ l : List D, max (sR2 (l.map fun d => (d, k + 1))) k = k + dpts l
  | [] => by simp [sR2, dpts]
  | d :: r => by
    have ih := sR2_kids k r
    rw [List.map_cons, dpts_cons]
    show max (max (rch (d, k + 1)) (sR2 (r.map fun d => (d, k + 1)))) k = _
    unfold rch
    simp only
    split <;> omega
end L
set_option pp.maxSteps 400
set_option pp.deepTerms false
namespace L
open PySem L2 G
local macro_rules | `(tactic| walk_at "ey") => `(tactic| try simp only [sSpot, eSpot, sSeq, sSet, sExpr, sRet, sIf, sAsg, una, escf, escS, opd, eVar, eC, eBin, eUn, eFn, eCall, eTup, eLst, aCons, aNil, fin, rd, rds, R.toS, dsOf, Rs.bind_ok, Rs.bind_bad, Rs.bind_ex, Rs.opt_some, Option.bind_some, Option.map_some, ownAt, eExt, eApp, ePop, List.getElem?_cons_zero, List.getElem?_cons_succ, List.set_cons_zero, List.set_cons_succ, okArg, List.all_cons, List.all_nil, Bool.and_self, if_true, kName, kTup, ksCons, ksNil, fMax, tOf, List.length_cons, List.length_nil, Bool.not_false, Bool.not_true, if_false, Bool.false_eq_true, lm0, lm1, lm2, lm3, lm4, lm5, lm6, lm7, lm8, lm9, lm10, lm11, lm12, fnM, List.map_cons, List.map_nil, List.replicate, List.cons_append, List.nil_append, Nat.reduceAdd, Nat.reduceSub, sNil, tAndM, tOrM, tNotM, tTru, dTru, eIf, dSub_i, dAdd_i, dLt_i, dLe_i, dGt_i, dGe_i, dEq_i, decide_true, decide_false, eChain, eAndM, eSl, oInt, dNeg, fInt, aDef, fTuple])

/-! many_in -/
theorem mv1 (s0 s1 s2 s4 s5 s6 s7 : Option S) (L : List D) (d k : D) (m : List MO) :
    (sAsg (ePop 3) (kTup 2 (ksCons (kName 4) (ksCons (kName 5) ksNil))) : Sm MX Out) ⟨[s0, s1, s2, some (.l (L ++ [.tup [d, k]])), s4, s5, s6, s7], m⟩ = .ok .nx ⟨[s0, s1, s2, some (.l L), some (.d d), some (.d k), s6, s7], m⟩ := by
  have e : (ePop 3 : Sm MX S) ⟨[s0, s1, s2, some (.l (L ++ [.tup [d, k]])), s4, s5, s6, s7], m⟩ = .ok (.d (.tup [d, k])) ⟨[s0, s1, s2, some (.l L), s4, s5, s6, s7], m⟩ := by
    simp only [ePop, ownAt, List.getElem?_cons_succ, List.getElem?_cons_zero, List.length_append, List.length_singleton, Nat.add_sub_cancel, List.dropLast_concat, List.getElem?_concat_length, List.set_cons_succ, List.set_cons_zero]
  simp only [sAsg, escf, e, Rs.bind_ok, escS]
  rfl
theorem mv2 {call : Fn → List S → List MO → Rs S (List MO)} {s0 s1 s2 s3 s5 s6 s7 : Option S} {d : D} {m : List MO} (hc : call .inner [.d d] m = .ok (innS d) m) :
    (sSet 6 (eCall (call .inner) (aCons (escf (eVar 4)) aNil)) : Sm MX Out) ⟨[s0, s1, s2, s3, some (.d d), s5, s6, s7], m⟩ = .ok .nx ⟨[s0, s1, s2, s3, some (.d d), s5, some (innS d), s7], m⟩ := by
  walk_at "ey"
  rw [hc]
  unfold innS
  cases innD d <;> walk_at "ey"
theorem mv3n (X : Sm MX Out) (s0 s1 s2 s3 s4 s5 s7 : Option S) (m : List MO) : (sIf (tOf (eBin dIsNot (eVar 6) (eC .non))) X sNil : Sm MX Out) ⟨[s0, s1, s2, s3, s4, s5, some (.d .non), s7], m⟩ = .ok .nx ⟨[s0, s1, s2, s3, s4, s5, some (.d .non), s7], m⟩ := by
  walk_at "ey"
  simp only [dIsNot]
  walk_at "ey"
def MK : Sm MX Out := (sSeq (sAugI 1 (fun a b => a + b) (eC (.int 1)))
    (sSeq (sSet 2 (eFn fMax (aCons (opd (eVar 2)) (aCons (opd (eVar 5)) aNil))))
    (sExpr (eExt 3 (eLc (iAnyM (eVar 6)) (kName 7) (fun z => .ok true z) (eTup (aCons (escf (eVar 7)) (aCons (escf (eBin dAdd (eVar 5) (eC (.int 1)))) aNil))) [7])))))
theorem mv3y {l : List D} {s0 s1 s2 s3 s4 s5 s7 : Option S} {m : List MO} : (sIf (tOf (eBin dIsNot (eVar 6) (eC .non))) MK sNil : Sm MX Out) ⟨[s0, s1, s2, s3, s4, s5, some (.l l), s7], m⟩ = MK ⟨[s0, s1, s2, s3, s4, s5, some (.l l), s7], m⟩ := by
  walk_at "ey"
  simp only [dIsNot]
  walk_at "ey"
theorem mk_lc {l L : List D} {a b : Int} {k : Nat} {s0 s4 : Option S} {m : List MO} (hl : l.length ≤ lim) :
    (eLc (iAnyM (eVar 6)) (kName 7) (fun z => .ok true z) (eTup (aCons (escf (eVar 7)) (aCons (escf (eBin dAdd (eVar 5) (eC (.int 1)))) aNil))) [7] : Sm MX S) ⟨[s0, some (.d (.int a)), some (.d (.int b)), some (.l L), s4, some (.d (.int (k : Int))), some (.l l), none], m⟩ = .ok (.l (l.map fun d => itm (d, k + 1))) ⟨[s0, some (.d (.int a)), some (.d (.int b)), some (.l L), s4, some (.d (.int (k : Int))), some (.d (.lst l)), none], m⟩ := by
  refine elc_map (en := fun d : D => d) ?_ rfl hl (fun d hd => ?_)
  · simp only [iAnyM]
    walk_at "ey"
    simp only [itemsD, List.map_id']
    walk_at "ey"
  · walk_at "ey"
    rfl
theorem mk_ok {l L : List D} {a b : Int} {k : Nat} {s0 s4 : Option S} {m : List MO} (hl : L.length + l.length ≤ lim) :
    MK ⟨[s0, some (.d (.int a)), some (.d (.int b)), some (.l L), s4, some (.d (.int (k : Int))), some (.l l), none], m⟩ = .ok .nx ⟨[s0, some (.d (.int (a + 1))), some (.d (.int (if (k : Int) > b then (k : Int) else b))), some (.l (L ++ l.map fun d => itm (d, k + 1))), s4, some (.d (.int (k : Int))), some (.d (.lst l)), none], m⟩ := by
  unfold MK
  have a1 : (sAugI 1 (fun a b => a + b) (eC (.int 1)) : Sm MX Out) ⟨[s0, some (.d (.int a)), some (.d (.int b)), some (.l L), s4, some (.d (.int (k : Int))), some (.l l), none], m⟩ = .ok .nx ⟨[s0, some (.d (.int (a + 1))), some (.d (.int b)), some (.l L), s4, some (.d (.int (k : Int))), some (.l l), none], m⟩ := by
    simp only [sAugI]
    walk_at "ey"
  rw [seq_nx a1]
  have a2 : (sSet 2 (eFn fMax (aCons (opd (eVar 2)) (aCons (opd (eVar 5)) aNil))) : Sm MX Out) ⟨[s0, some (.d (.int (a + 1))), some (.d (.int b)), some (.l L), s4, some (.d (.int (k : Int))), some (.l l), none], m⟩ = .ok .nx ⟨[s0, some (.d (.int (a + 1))), some (.d (.int (if (k : Int) > b then (k : Int) else b))), some (.l L), s4, some (.d (.int (k : Int))), some (.l l), none], m⟩ := by
    walk_at "ey"
  rw [seq_nx a2]
  have e := mk_lc (a := a + 1) (b := if (k : Int) > b then (k : Int) else b) (k := k) (L := L) (s0 := s0) (s4 := s4) (m := m) (l := l) (by omega)
  simp only [sExpr, eExt, opd, ownAt, List.getElem?_cons_succ, List.getElem?_cons_zero]
  rw [e]
  simp only [Rs.bind_ok, rd, ownAt, List.getElem?_cons_succ, List.getElem?_cons_zero, List.length_map]
  rw [if_pos hl]
  rfl
def MT2 : Sm MX Out := sIf (tOrM (tOf (eBin dGt (eVar 1) (eC c_MOST_GROUNDS))) (tOf (eBin dGt (eVar 2) (eC c_MOST_DEEP)))) (sRet (eTup (aCons (escf (eBin dAdd (eC c_MOST_GROUNDS) (eC (.int 1)))) (aCons (escf (eBin dAdd (eC c_MOST_DEEP) (eC (.int 1)))) aNil)))) sNil
theorem mt_ok {a b : Int} {s0 : Option S} {r : List (Option S)} {m : List MO} : MT2 ⟨s0 :: some (.d (.int a)) :: some (.d (.int b)) :: r, m⟩ = if 4000 < a ∨ 150 < b then .ok (.rt (.d (.tup [.int 4001, .int 151]))) ⟨s0 :: some (.d (.int a)) :: some (.d (.int b)) :: r, m⟩ else .ok .nx ⟨s0 :: some (.d (.int a)) :: some (.d (.int b)) :: r, m⟩ := by
  unfold MT2 c_MOST_GROUNDS c_MOST_DEEP
  walk_at "ey"
  by_cases c1 : 4000 < a
  · simp only [c1, true_or, if_true]
    walk_at "ey"
    rfl
  · simp only [c1, false_or]
    walk_at "ey"
    by_cases c2 : 150 < b
    · simp only [c2, if_true]
      walk_at "ey"
      rfl
    · simp only [c2, if_false]
      walk_at "ey"
def MB (call : Fn → List S → List MO → Rs S (List MO)) : Sm MX Out := (sSeq (sAsg (ePop 3) (kTup 2 (ksCons (kName 4) (ksCons (kName 5) ksNil))))
    (sSeq (sSet 6 (eCall (call .inner) (aCons (escf (eVar 4)) aNil)))
    (sSeq (sIf (tOf (eBin dIsNot (eVar 6) (eC .non))) MK sNil) MT2)))
theorem mb_none {call : Fn → List S → List MO → Rs S (List MO)} {s0 s4 s5 s6 : Option S} {L : List D} {d : D} {k : Nat} {a b : Int} {m : List MO} (hc : call .inner [.d d] m = .ok (innS d) m) (h : innD d = none) (h1 : a ≤ 4000) (h2 : b ≤ 150) :
    MB call ⟨[s0, some (.d (.int a)), some (.d (.int b)), some (.l (L ++ [itm (d, k)])), s4, s5, s6, none], m⟩ = .ok .nx ⟨[s0, some (.d (.int a)), some (.d (.int b)), some (.l L), some (.d d), some (.d (.int (k : Int))), some (.d .non), none], m⟩ := by
  unfold MB
  have e : innS d = .d .non := by unfold innS; rw [h]
  have v2 := mv2 (s0 := s0) (s1 := some (.d (.int a))) (s2 := some (.d (.int b))) (s3 := some (.l L)) (s5 := some (.d (.int (k : Int)))) (s6 := s6) (s7 := none) hc
  rw [e] at v2
  have v1 : (sAsg (ePop 3) (kTup 2 (ksCons (kName 4) (ksCons (kName 5) ksNil))) : Sm MX Out) ⟨[s0, some (.d (.int a)), some (.d (.int b)), some (.l (L ++ [itm (d, k)])), s4, s5, s6, none], m⟩ = .ok .nx ⟨[s0, some (.d (.int a)), some (.d (.int b)), some (.l L), some (.d d), some (.d (.int (k : Int))), s6, none], m⟩ := mv1 _ _ _ _ _ _ _ L d (.int (k : Int)) m
  rw [seq_nx v1, seq_nx v2, seq_nx (mv3n MK _ _ _ _ _ _ _ m), mt_ok, if_neg (by omega)]
theorem mb_some {call : Fn → List S → List MO → Rs S (List MO)} {s0 s4 s5 s6 : Option S} {L l : List D} {d : D} {k : Nat} {a b : Int} {m : List MO} (hc : call .inner [.d d] m = .ok (innS d) m) (h : innD d = some l) (hl : L.length + l.length ≤ lim) :
    MB call ⟨[s0, some (.d (.int a)), some (.d (.int b)), some (.l (L ++ [itm (d, k)])), s4, s5, s6, none], m⟩ = (if 4000 < a + 1 ∨ 150 < (if (k : Int) > b then (k : Int) else b) then .ok (.rt (.d (.tup [.int 4001, .int 151]))) ⟨[s0, some (.d (.int (a + 1))), some (.d (.int (if (k : Int) > b then (k : Int) else b))), some (.l (L ++ l.map fun d => itm (d, k + 1))), some (.d d), some (.d (.int (k : Int))), some (.d (.lst l)), none], m⟩
      else .ok .nx ⟨[s0, some (.d (.int (a + 1))), some (.d (.int (if (k : Int) > b then (k : Int) else b))), some (.l (L ++ l.map fun d => itm (d, k + 1))), some (.d d), some (.d (.int (k : Int))), some (.d (.lst l)), none], m⟩) := by
  unfold MB
  have e : innS d = .l l := by unfold innS; rw [h]
  have v2 := mv2 (s0 := s0) (s1 := some (.d (.int a))) (s2 := some (.d (.int b))) (s3 := some (.l L)) (s5 := some (.d (.int (k : Int)))) (s6 := s6) (s7 := none) hc
  rw [e] at v2
  have v1 : (sAsg (ePop 3) (kTup 2 (ksCons (kName 4) (ksCons (kName 5) ksNil))) : Sm MX Out) ⟨[s0, some (.d (.int a)), some (.d (.int b)), some (.l (L ++ [itm (d, k)])), s4, s5, s6, none], m⟩ = .ok .nx ⟨[s0, some (.d (.int a)), some (.d (.int b)), some (.l L), some (.d d), some (.d (.int (k : Int))), s6, none], m⟩ := mv1 _ _ _ _ _ _ _ L d (.int (k : Int)) m
  rw [seq_nx v1, seq_nx v2, seq_nx (mv3y.trans (mk_ok hl)), mt_ok]
/-- what comes of a stack -/
def both (c r : Nat) : Prop := c ≤ 4000 ∧ r ≤ 150
def manyC : Sm MX Bool := tOf (eBin (dEq0 true) (eVar 3) (eLst aNil))
theorem mc_ok {L : List D} {s0 s1 s2 s4 s5 s6 s7 : Option S} {m : List MO} : manyC ⟨[s0, s1, s2, some (.l L), s4, s5, s6, s7], m⟩ = .ok (!L.isEmpty) ⟨[s0, s1, s2, some (.l L), s4, s5, s6, s7], m⟩ := by
  unfold manyC
  walk_at "ey"
  simp only [dEq0]
  walk_at "ey"
  cases L <;> rfl
theorem many_loop {call : Fn → List S → List MO → Rs S (List MO)} {m : List MO} (hc : ∀ d, gd d = true → call .inner [.d d] m = .ok (innS d) m) (s0 : Option S) : ∀ (n : Nat) (st : List (D × Nat)) (a b : Nat) (t4 t5 t6 : Option S), sP2 st ≤ n → sP2 st ≤ lim → (∀ p ∈ st, gd p.1 = true) → a ≤ 4000 → b ≤ 150 →
    ∀ f, n < f → (∃ s4 s5 s6, sWhile manyC (MB call) f ⟨[s0, some (.d (.int (a : Int))), some (.d (.int (b : Int))), some (.l (st.map itm)), t4, t5, t6, none], m⟩ = .ok .nx ⟨[s0, some (.d (.int ((a + sC2 st : Nat) : Int))), some (.d (.int ((max b (sR2 st) : Nat) : Int))), some (.l []), s4, s5, s6, none], m⟩ ∧ a + sC2 st ≤ 4000 ∧ max b (sR2 st) ≤ 150) ∨
      ∃ z, sWhile manyC (MB call) f ⟨[s0, some (.d (.int (a : Int))), some (.d (.int (b : Int))), some (.l (st.map itm)), t4, t5, t6, none], m⟩ = .ok (.rt (.d (.tup [.int 4001, .int 151]))) z ∧ z.m = m ∧ (4000 < a + sC2 st ∨ 150 < max b (sR2 st)) := by
  intro n
  induction n with
  | zero =>
    intro st a b t4 t5 t6 h0 hl hg ha hb f hf
    obtain ⟨f, rfl⟩ : ∃ q, f = q + 1 := ⟨f - 1, by omega⟩
    cases st with
    | nil =>
      refine .inl ⟨t4, t5, t6, ?_, by simpa [sC2] using ha, by simpa [sR2] using hb⟩
      rw [sWhile, List.map_nil, mc_ok, Rs.bind_ok]
      simp [sC2, sR2]
    | cons p r => have := pops_pos p.1; simp [sP2] at h0; omega
  | succ n ih =>
    intro st a b t4 t5 t6 h0 hl hg ha hb f hf
    obtain ⟨f, rfl⟩ : ∃ q, f = q + 1 := ⟨f - 1, by omega⟩
    rcases List.eq_nil_or_concat st with rfl | ⟨st', p, rfl⟩
    · refine .inl ⟨t4, t5, t6, ?_, by simpa [sC2] using ha, by simpa [sR2] using hb⟩
      rw [sWhile, List.map_nil, mc_ok, Rs.bind_ok]
      simp [sC2, sR2]
    · obtain ⟨d, k⟩ := p
      have hgd : gd d = true := hg (d, k) (by simp)
      have hgs : ∀ p ∈ st', gd p.1 = true := fun p hp => hg p (by simp [hp])
      rw [List.concat_eq_append] at h0 hl ⊢
      rw [sP2_app] at h0 hl
      have eP : sP2 [(d, k)] = pops d := by simp [sP2]
      have eC : sC2 [(d, k)] = cnt d := by simp [sC2]
      have eR : sR2 [(d, k)] = rch (d, k) := by simp [sR2]
      rw [eP] at h0 hl
      rw [sWhile, List.map_append, List.map_cons, List.map_nil, mc_ok, Rs.bind_ok, show (!(st'.map itm ++ [itm (d, k)]).isEmpty) = true from by cases st'.map itm <;> rfl, if_pos rfl]
      rw [sC2_app, sR2_app, eC, eR]
      cases e : innD d with
      | none =>
        have q1 := pops_none e
        rw [mb_none (hc d hgd) e (by omega) (by omega), Rs.bind_ok]
        have r0 : rch (d, k) = 0 := by unfold rch; rw [if_pos (dpt_none e)]
        rw [cnt_none e, r0, Nat.add_zero, Nat.max_zero]
        exact ih st' a b _ _ _ (by omega) (by omega) hgs ha hb f (by omega)
      | some l =>
        have q1 := pops_some e
        have q2 := inn_len e
        have q3 : st'.length ≤ sP2 st' := by
          unfold sP2
          clear ih h0 hl hg hgs
          induction st' with
          | nil => simp
          | cons x r ih => have := pops_pos x.1; rw [List.map_cons, List.sum_cons, List.length_cons]; omega
        rw [mb_some (hc d hgd) e (by rw [List.length_map]; omega)]
        have eb : (if (k : Int) > (b : Int) then (k : Int) else (b : Int)) = ((max b k : Nat) : Int) := by
          split <;> omega
        have ea : (a : Int) + 1 = ((a + 1 : Nat) : Int) := by omega
        rw [eb, ea]
        have rr : rch (d, k) = k + dpts l := by
          unfold rch
          simp only
          rw [dpt_some e, if_neg (by omega)]
          omega
        have el : (st'.map itm ++ l.map fun d => itm (d, k + 1)) = (st' ++ l.map fun d => (d, k + 1)).map itm := by
          rw [List.map_append, List.map_map]; rfl
        rw [cnt_some e, rr, el]
        by_cases c : 4000 < ((a + 1 : Nat) : Int) ∨ 150 < ((max b k : Nat) : Int)
        · rw [if_pos c, Rs.bind_ok]
          exact .inr ⟨_, rfl, rfl, by omega⟩
        · rw [if_neg c, Rs.bind_ok]
          have i := ih (st' ++ l.map fun d => (d, k + 1)) (a + 1) (max b k) (some (.d d)) (some (.d (.int (k : Int)))) (some (.d (.lst l))) (by rw [sP2_app, sP2_kids]; omega) (by rw [sP2_app, sP2_kids]; omega) (fun p hp => by
            rcases List.mem_append.mp hp with hp | hp
            · exact hgs p hp
            · obtain ⟨x, hx, rfl⟩ := List.mem_map.mp hp
              exact gds_mem (inn_gd e hgd) hx) (by omega) (by omega) f (by omega)
          rw [sC2_app, sC2_kids, sR2_app] at i
          have kd := sR2_kids k l
          rw [show a + 1 + (sC2 st' + cnts l) = a + (sC2 st' + (1 + cnts l)) from by omega, show max (max b k) (max (sR2 st') (sR2 (l.map fun d => (d, k + 1)))) = max b (max (sR2 st') (k + dpts l)) from by omega] at i
          exact i
end L
set_option pp.maxSteps 400
set_option pp.deepTerms false
namespace L
open PySem L2 G
local macro_rules | `(tactic| walk_at "ey") => `(tactic| try simp only [sSpot, eSpot, sSeq, sSet, sExpr, sRet, sIf, sAsg, una, escf, escS, opd, eVar, eC, eBin, eUn, eFn, eCall, eTup, eLst, aCons, aNil, fin, rd, rds, R.toS, dsOf, Rs.bind_ok, Rs.bind_bad, Rs.bind_ex, Rs.opt_some, Option.bind_some, Option.map_some, ownAt, eExt, eApp, ePop, List.getElem?_cons_zero, List.getElem?_cons_succ, List.set_cons_zero, List.set_cons_succ, okArg, List.all_cons, List.all_nil, Bool.and_self, if_true, kName, kTup, ksCons, ksNil, fMax, tOf, List.length_cons, List.length_nil, Bool.not_false, Bool.not_true, if_false, Bool.false_eq_true, lm0, lm1, lm2, lm3, lm4, lm5, lm6, lm7, lm8, lm9, lm10, lm11, lm12, fnM, List.map_cons, List.map_nil, List.replicate, List.cons_append, List.nil_append, Nat.reduceAdd, Nat.reduceSub, sNil, tAndM, tOrM, tNotM, tTru, dTru, eIf, dSub_i, dAdd_i, dLt_i, dLe_i, dGt_i, dGe_i, dEq_i, decide_true, decide_false, eChain, eAndM, eSl, oInt, dNeg, fInt, aDef, fTuple])

/-! many_in whole; the law's own count -/
def manyD (t : D) : D := if cnt t ≤ 4000 ∧ dpt t ≤ 150 then .tup [.int ((cnt t : Nat) : Int), .int ((dpt t : Nat) : Int)] else .tup [.int 4001, .int 151]
theorem many_gen {W : Sm MX Out} {t : D} {m : List MO} (hW : (∃ s4 s5 s6, W ⟨[some (.d t), some (.d (.int 0)), some (.d (.int 0)), some (.l [itm (t, 1)]), none, none, none, none], m⟩ = .ok .nx ⟨[some (.d t), some (.d (.int ((cnt t : Nat) : Int))), some (.d (.int ((dpt t : Nat) : Int))), some (.l []), s4, s5, s6, none], m⟩ ∧ cnt t ≤ 4000 ∧ dpt t ≤ 150) ∨ ∃ z, W ⟨[some (.d t), some (.d (.int 0)), some (.d (.int 0)), some (.l [itm (t, 1)]), none, none, none, none], m⟩ = .ok (.rt (.d (.tup [.int 4001, .int 151]))) z ∧ z.m = m ∧ (4000 < cnt t ∨ 150 < dpt t)) :
    fnM 8 (sSeq (sSet 1 (eC (.int 0)))
    (sSeq (sSet 2 (eC (.int 0)))
    (sSeq (sSet 3 (eLst (aCons (escf (eTup (aCons (escf (eVar 0)) (aCons (escf (eC (.int 1))) aNil)))) aNil)))
    (sSeq W
    (sRet (eTup (aCons (escf (eVar 1)) (aCons (escf (eVar 2)) aNil)))))))) [.d t] m = .ok (.d (manyD t)) m := by
  walk_at "ey"
  rcases hW with ⟨s4, s5, s6, e, h1, h2⟩ | ⟨z, e, e2, h⟩
  · unfold itm at e
    simp only at e
    rw [show (((1 : Nat) : Int)) = 1 from rfl] at e
    rw [e]
    walk_at "ey"
    unfold manyD
    rw [if_pos ⟨h1, h2⟩]
  · unfold itm at e
    simp only at e
    rw [show (((1 : Nat) : Int)) = 1 from rfl] at e
    rw [e]
    walk_at "ey"
    unfold manyD
    rw [if_neg (by omega), e2]
theorem many_ok (n : Nat) {t : D} (hg : gd t = true) (hp : pops t ≤ lim) (m : List MO) : mir (n + 2) .many_in [.d t] m = .ok (.d (manyD t)) m := by
  have h := many_loop (call := mir (n + 1)) (m := m) (fun d hd => inner_ok n hd m) (some (.d t)) (pops t) [(t, 1)] 0 0 none none none (by simp [sP2]) (by simpa [sP2] using hp) (fun p hp => by rcases List.mem_singleton.mp hp with rfl; exact hg) (by omega) (by omega) whileN (by
    have : lim = 1000000 := rfl
    show pops t < 1000000000
    omega)
  have e1 : sC2 [(t, 1)] = cnt t := by simp [sC2]
  have e2 : sR2 [(t, 1)] = dpt t := by
    show max (rch (t, 1)) 0 = _
    unfold rch
    simp only
    split <;> omega
  rw [e1, e2, Nat.zero_add, Nat.zero_max] at h
  exact many_gen h
theorem lc_cnt {i : Nat} {e : Sm MX S} {f : D → D} {rho : List (Option S)} {m : Int} (hi : rho.set i none = rho) : ∀ (ds acc : List D) (g : List MO), acc.length + ds.length ≤ lim →
    (∀ d ∈ ds, ∀ g, ∃ j, escf e ⟨rho.set i (some (.d d)), sp m g⟩ = .ok (.d (f d)) ⟨rho.set i (some (.d d)), sp m (g ++ j)⟩) → ∃ j, lcL (M := MX) (kName i) (fun z => .ok true z) e [i] ds acc ⟨rho, sp m g⟩ = .ok (acc ++ ds.map f) ⟨rho, sp m (g ++ j)⟩
  | [], acc, g, _, _ => ⟨[], by simp [lcL]⟩
  | d :: r, acc, g, hl, h => by
    rw [List.length_cons] at hl
    obtain ⟨j1, e1⟩ := h d List.mem_cons_self g
    obtain ⟨j2, e2⟩ := lc_cnt hi r (acc ++ [f d]) (g ++ j1) (by rw [List.length_append, List.length_singleton]; omega) (fun d hd => h d (List.mem_cons_of_mem _ hd))
    refine ⟨j1 ++ j2, ?_⟩
    unfold lcL
    simp only [kName, nox, Rs.bind_ok, if_true, e1]
    rw [if_pos (by omega)]
    have hw : wipeZ (M := MX) ⟨rho.set i (some (.d d)), sp m (g ++ j1)⟩ [i] = ⟨rho, sp m (g ++ j1)⟩ := by unfold wipeZ wipeR wipeR; simp only [List.set_set, hi]
    rw [hw, e2]
    simp
theorem elc_cnt {i : Nat} {its : Sm MX (List D)} {e : Sm MX S} {f : D → D} {rho : List (Option S)} {m : Int} {g : List MO} {z0 : Z (List MO)} {ds : List D} (h0 : its z0 = .ok ds ⟨rho, sp m g⟩) (hi : rho.set i none = rho) (hl : ds.length ≤ lim)
    (h : ∀ d ∈ ds, ∀ g, ∃ j, escf e ⟨rho.set i (some (.d d)), sp m g⟩ = .ok (.d (f d)) ⟨rho.set i (some (.d d)), sp m (g ++ j)⟩) : ∃ j, eLc its (kName i) (fun z => .ok true z) e [i] z0 = .ok (.l (ds.map f)) ⟨rho, sp m (g ++ j)⟩ := by
  obtain ⟨j, e1⟩ := lc_cnt (m := m) hi ds [] g (by rw [List.length_nil]; omega) h
  refine ⟨j, ?_⟩
  have hw : wipeZ (M := MX) ⟨rho, sp m g⟩ [i] = ⟨rho, sp m g⟩ := by unfold wipeZ wipeR wipeR; simp only [hi]
  unfold eLc
  rw [h0, Rs.bind_ok, if_pos (noOwn_one hi), hw, e1, Rs.bind_ok]
  simp only [rest_one hi]
  rfl
def cd (d : D) : D := .tup [.int ((cnt d : Nat) : Int), .int ((dpt d : Nat) : Int)]
theorem sum_cnt : ∀ l : List D, (l.map fun d => ((cnt d : Nat) : Int)).sum = ((cnts l : Nat) : Int)
  | [] => rfl
  | d :: r => by rw [List.map_cons, List.sum_cons, sum_cnt r, cnts_cons]; omega
theorem fold_dpt : ∀ (l : List D) (k : Nat), (l.map fun d => ((dpt d : Nat) : Int)).foldl max (k : Int) = ((max k (dpts l) : Nat) : Int)
  | [], k => by simp [dpts]
  | d :: r, k => by
    rw [List.map_cons, List.foldl_cons, show max (k : Int) ((dpt d : Nat) : Int) = ((max k (dpt d) : Nat) : Int) from by omega, fold_dpt r, dpts_cons]
    omega
theorem maxK_dpt (l : List D) : maxK 0 (l.map fun d => ((dpt d : Nat) : Int)) = ((dpts l : Nat) : Int) := by
  cases l with
  | nil => rfl
  | cons d r =>
    show ((r.map fun d => ((dpt d : Nat) : Int)).foldl max ((dpt d : Nat) : Int)) = _
    rw [fold_dpt, dpts_cons]
def CE1 : Sm MX S := eLc (iAnyM (eVar 2)) (kTup 2 (ksCons (kName 4) (ksCons (kName 5) ksNil))) (fun z => .ok true z) (eVar 4) [4, 5]
def CE2 : Sm MX S := eLc (iAnyM (eVar 2)) (kTup 2 (ksCons (kName 4) (ksCons (kName 5) ksNil))) (fun z => .ok true z) (eVar 5) [4, 5]
theorem ce1_ok {l : List D} {s0 s1 s2 : Option S} {m : List MO} (h2 : s2 = some (.l (l.map cd)) ∨ s2 = some (.d (.lst (l.map cd)))) (hl : l.length ≤ lim) : CE1 ⟨[s0, s1, s2, none, none, none], m⟩ = .ok (.l (l.map fun d => .int ((cnt d : Nat) : Int))) ⟨[s0, s1, some (.d (.lst (l.map cd))), none, none, none], m⟩ := by
  refine elc_mapK (en := cd) ?_ rfl rfl rfl hl (fun d hd => ⟨⟨[s0, s1, some (.d (.lst (l.map cd))), none, some (.d (.int ((cnt d : Nat) : Int))), some (.d (.int ((dpt d : Nat) : Int)))], m⟩, _, rfl, by walk_at "ey"; rfl, rfl⟩)
  rcases h2 with rfl | rfl <;> (simp only [iAnyM]; walk_at "ey"; rfl)
theorem ce2_ok {l : List D} {s0 s1 s2 : Option S} {m : List MO} (h2 : s2 = some (.l (l.map cd)) ∨ s2 = some (.d (.lst (l.map cd)))) (hl : l.length ≤ lim) : CE2 ⟨[s0, s1, s2, none, none, none], m⟩ = .ok (.l (l.map fun d => .int ((dpt d : Nat) : Int))) ⟨[s0, s1, some (.d (.lst (l.map cd))), none, none, none], m⟩ := by
  refine elc_mapK (en := cd) ?_ rfl rfl rfl hl (fun d hd => ⟨⟨[s0, s1, some (.d (.lst (l.map cd))), none, some (.d (.int ((cnt d : Nat) : Int))), some (.d (.int ((dpt d : Nat) : Int)))], m⟩, _, rfl, by walk_at "ey"; rfl, rfl⟩)
  rcases h2 with rfl | rfl <;> (simp only [iAnyM]; walk_at "ey"; rfl)
def CRet : Sm MX Out := sRet (eTup (aCons (escf (eBin dAdd (eC (.int 1)) (eFn fSum (aCons (opd CE1) aNil)))) (aCons (escf (eBin dAdd (eC (.int 1)) (eFn (fMaxK 0) (aCons (opd CE2) aNil)))) aNil)))
theorem cret_ok {l : List D} {s0 s1 : Option S} {m : List MO} (hl : l.length ≤ lim) : CRet ⟨[s0, s1, some (.l (l.map cd)), none, none, none], m⟩ = .ok (.rt (.d (.tup [.int (((1 + cnts l : Nat)) : Int), .int (((1 + dpts l : Nat)) : Int)]))) ⟨[s0, s1, some (.d (.lst (l.map cd))), none, none, none], m⟩ := by
  unfold CRet
  walk_at "ey"
  rw [ce1_ok (.inl rfl) hl]
  walk_at "ey"
  simp only [fSum, intsOf_map, Option.map_some, sum_cnt]
  walk_at "ey"
  rw [ce2_ok (.inr rfl) hl]
  walk_at "ey"
  simp only [fMaxK, intsOf_map, Option.map_some, maxK_dpt]
  walk_at "ey"
  rw [show (1 : Int) + ((cnts l : Nat) : Int) = ((1 + cnts l : Nat) : Int) from by omega, show (1 : Int) + ((dpts l : Nat) : Int) = ((1 + dpts l : Nat) : Int) from by omega]
theorem dpts_mem : ∀ {l : List D} {d : D}, d ∈ l → dpt d ≤ dpts l
  | x :: r, d, h => by
    rw [dpts_cons]
    rcases List.mem_cons.mp h with rfl | h
    · omega
    · have := dpts_mem h; omega
theorem popss_mem : ∀ {l : List D} {d : D}, d ∈ l → pops d ≤ popss l
  | x :: r, d, h => by
    rw [popss_cons]
    rcases List.mem_cons.mp h with rfl | h
    · omega
    · have := popss_mem h; omega
theorem counted_ok : ∀ (N : Nat) {t : D}, dpt t + 3 ≤ N → gd t = true → pops t ≤ lim → ∀ (m : Int) (g : List MO), ∃ j, mir N ._law_counted [.d t] (sp m g) = .ok (.d (cd t)) (sp m (g ++ j)) := by
  intro N
  induction N with
  | zero => intro t h; omega
  | succ N ih =>
    intro t hN hg hp m g
    obtain ⟨q, rfl⟩ : ∃ q, N = q + 2 := ⟨N - 2, by omega⟩
    obtain ⟨j1, e1⟩ := within_ok q hg m g
    show ∃ j, fnM 6 (m__law_counted (mir (q + 2))) [.d t] (sp m g) = _
    cases e : innD t with
    | none =>
      refine ⟨j1, ?_⟩
      unfold m__law_counted
      walk_at "ey"
      rw [e1]
      have e2 : innS t = .d .non := by unfold innS; rw [e]
      rw [e2]
      walk_at "ey"
      simp only [dIs]
      walk_at "ey"
      unfold cd
      rw [cnt_none e, dpt_none e]
      rfl
    | some l =>
      have e2 : innS t = .l l := by unfold innS; rw [e]
      have d1 := dpt_some e
      have p1 := pops_some e
      have ln := inn_len e
      obtain ⟨j2, el⟩ := elc_cnt (i := 3) (its := iAnyM (eVar 1)) (e := eCall (mir (q + 2) ._law_counted) (aCons (escf (eVar 3)) aNil)) (f := cd) (rho := [some (.d t), some (.d (.lst l)), none, none, none, none]) (m := m) (g := g ++ j1) (z0 := ⟨[some (.d t), some (.l l), none, none, none, none], sp m (g ++ j1)⟩) (ds := l) (by simp only [iAnyM]; walk_at "ey"; rfl) rfl (by omega) (fun d hd g => by
        obtain ⟨j, ej⟩ := ih (t := d) (by have := dpts_mem hd; omega) (gds_mem (inn_gd e hg) hd) (by have := popss_mem hd; omega) m g
        refine ⟨j, ?_⟩
        walk_at "ey"
        rw [ej]
        walk_at "ey")
      refine ⟨j1 ++ j2, ?_⟩
      have cr := cret_ok (l := l) (s0 := some (.d t)) (s1 := some (.d (.lst l))) (m := sp m (g ++ j1 ++ j2)) (by omega)
      rw [e2] at e1
      have a1 : (sSet 1 (eCall (mir (q + 2) ._law_within) (aCons (escf (eVar 0)) aNil)) : Sm MX Out) ⟨[some (.d t), none, none, none, none, none], sp m g⟩ = .ok .nx ⟨[some (.d t), some (.l l), none, none, none, none], sp m (g ++ j1)⟩ := by
        walk_at "ey"
        rw [e1]
        walk_at "ey"
      have b1 : (sIf (tOf (eBin dIs (eVar 1) (eC .non))) (sRet (eTup (aCons (escf (eC (.int 0))) (aCons (escf (eC (.int 0))) aNil)))) sNil : Sm MX Out) ⟨[some (.d t), some (.l l), none, none, none, none], sp m (g ++ j1)⟩ = .ok .nx ⟨[some (.d t), some (.l l), none, none, none, none], sp m (g ++ j1)⟩ := by
        walk_at "ey"
        simp only [dIs]
        walk_at "ey"
      have c1 : (sSet 2 (eLc (iAnyM (eVar 1)) (kName 3) (fun z => .ok true z) (eCall (mir (q + 2) ._law_counted) (aCons (escf (eVar 3)) aNil)) [3]) : Sm MX Out) ⟨[some (.d t), some (.l l), none, none, none, none], sp m (g ++ j1)⟩ = .ok .nx ⟨[some (.d t), some (.d (.lst l)), some (.l (l.map cd)), none, none, none], sp m (g ++ j1 ++ j2)⟩ := by
        walk_at "ey"
        rw [el]
        walk_at "ey"
      have all := (seq_nx (g := sSeq _ (sSeq _ CRet)) a1).trans ((seq_nx (g := sSeq _ CRet) b1).trans ((seq_nx (g := CRet) c1).trans cr))
      rw [← d1, ← show cnt t = 1 + cnts l from cnt_some e, List.append_assoc] at all
      exact fnM_d all
end L
set_option pp.maxSteps 400
set_option pp.deepTerms false
namespace L
open PySem L2 G
local macro_rules | `(tactic| walk_at "ey") => `(tactic| try simp only [sSpot, eSpot, sSeq, sSet, sExpr, sRet, sIf, sAsg, una, escf, escS, opd, eVar, eC, eBin, eUn, eFn, eCall, eTup, eLst, aCons, aNil, fin, rd, rds, R.toS, dsOf, Rs.bind_ok, Rs.bind_bad, Rs.bind_ex, Rs.opt_some, Option.bind_some, Option.map_some, ownAt, eExt, eApp, ePop, List.getElem?_cons_zero, List.getElem?_cons_succ, List.set_cons_zero, List.set_cons_succ, okArg, List.all_cons, List.all_nil, Bool.and_self, if_true, kName, kTup, ksCons, ksNil, fMax, tOf, List.length_cons, List.length_nil, Bool.not_false, Bool.not_true, if_false, Bool.false_eq_true, lm0, lm1, lm2, lm3, lm4, lm5, lm6, lm7, lm8, lm9, lm10, lm11, lm12, fnM, List.map_cons, List.map_nil, List.replicate, List.cons_append, List.nil_append, Nat.reduceAdd, Nat.reduceSub, sNil, tAndM, tOrM, tNotM, tTru, dTru, eIf, dSub_i, dAdd_i, dLt_i, dLe_i, dGt_i, dGe_i, dEq_i, decide_true, decide_false, eChain, eAndM, eSl, oInt, dNeg, fInt, aDef, fTuple])

/-! texts of things, with empty dicts -/
mutual
def sE : D → Nat
  | .int _ => 41
  | .str x => x.cps.size
  | .tup xs => sEs xs
  | .lst xs => sEs xs
  | _ => 0
def sEs : List D → Nat
  | [] => 0
  | x :: r => sE x + 1 + sEs r
end
mutual
def dE : D → Nat
  | .tup xs => dEs xs + 1
  | .lst xs => dEs xs + 1
  | .emp => 1
  | _ => 0
def dEs : List D → Nat
  | [] => 0
  | x :: r => max (dE x) (dEs r)
end
mutual
theorem depE : ∀ d : D, gd d = true → (toPyE d).depth ≤ dE d
  | .non, _ => by simp [toPyE, PyData.depth]
  | .bl _, _ => by simp [toPyE, PyData.depth]
  | .int _, _ => by simp [toPyE, PyData.depth]
  | .str _, _ => by simp [toPyE, PyData.depth]
  | .tup xs, h => by have := depEs xs (gd_tup h); rw [toPyE, PyData.depth, dE]; omega
  | .lst xs, h => by have := depEs xs (by rwa [gd] at h); rw [toPyE, PyData.depth, dE]; omega
  | .emp, _ => by rw [toPyE, PyData.depth, PyData.depthKv, dE]; omega
  | .scr _, h => by rw [gd] at h; cases h
  | .exc _ _, h => by rw [gd] at h; cases h
  | .o _, h => by rw [gd] at h; cases h
theorem depEs : ∀ ds : List D, gds ds = true → PyData.depthAll (toPyEs ds) ≤ dEs ds
  | [], _ => by rw [toPyEs, PyData.depthAll]; exact Nat.zero_le _
  | d :: r, h => by
    rw [gds, Bool.and_eq_true] at h
    have a := depE d h.1
    have b := depEs r h.2
    rw [toPyEs, PyData.depthAll, dEs]
    omega
end
mutual
theorem wtE : ∀ d : D, gd d = true → ib d = true → (toPyE d).weight ≤ sE d
  | .non, _, _ => by simp [toPyE, PyData.weight]
  | .bl _, _, _ => by simp [toPyE, PyData.weight]
  | .int i, _, h => by
    rw [ib] at h
    have h := of_decide_eq_true h
    rw [toPyE, PyData.weight, sE]
    split
    · omega
    · rename_i e
      have e0 : i.natAbs ≠ 0 := fun q => e (by have : i = 0 := by omega
                                               subst this; rfl)
      have : i.natAbs.log2 < 40 := (Nat.log2_lt e0).mpr (by show i.natAbs < 1099511627776; omega)
      omega
  | .str x, _, _ => by rw [toPyE, PyData.weight, sE]; exact Nat.le_refl _
  | .tup xs, h, q => by rw [toPyE, PyData.weight, sE]; exact wtEs xs (gd_tup h) (by rwa [ib] at q)
  | .lst xs, h, q => by rw [toPyE, PyData.weight, sE]; exact wtEs xs (by rwa [gd] at h) (by rwa [ib] at q)
  | .emp, _, _ => by rw [toPyE, PyData.weight, PyData.weightKv]; exact Nat.zero_le _
  | .scr _, h, _ => by rw [gd] at h; cases h
  | .exc _ _, h, _ => by rw [gd] at h; cases h
  | .o _, h, _ => by rw [gd] at h; cases h
theorem wtEs : ∀ ds : List D, gds ds = true → ibs ds = true → PyData.weightAll (toPyEs ds) ≤ sEs ds
  | [], _, _ => by rw [toPyEs, PyData.weightAll]; exact Nat.zero_le _
  | d :: r, h, q => by
    rw [gds, Bool.and_eq_true] at h
    rw [ibs, Bool.and_eq_true] at q
    have a := wtE d h.1 q.1
    have b := wtEs r h.2 q.2
    rw [toPyEs, PyData.weightAll, sEs]
    omega
end
theorem layE_int (i : Int) : layE (.int i) = true := by simp [layE]
theorem layE_str (x : Str) : layE (.str x) = true := by simp [layE]
theorem layE_emp : layE .emp = true := by simp [layE]
mutual
theorem lsE : ∀ d : D, gd d = true → ib d = true → (toPyE d).leavesShort 13 = true ∧ (toPyE d).showable = true ∧ layE d = true
  | .non, _, _ => by simp [toPyE, PyData.leavesShort, PyData.showable, layE]
  | .bl _, _, _ => by simp [toPyE, PyData.leavesShort, PyData.showable, layE]
  | .int i, _, h => by
    rw [ib] at h
    obtain ⟨a, b⟩ := int_ib (of_decide_eq_true h)
    rw [toPyE, PyData.leavesShort, PyData.showable, layE_int]
    exact ⟨decide_eq_true b, decide_eq_true a, rfl⟩
  | .str x, h, _ => by
    rw [gd] at h
    refine ⟨?_, by rw [toPyE, PyData.showable], layE_str x⟩
    rw [toPyE, PyData.leavesShort, List.all_eq_true]
    intro c hc
    have := okS_of h c hc
    exact decide_eq_true (by show c < 4294967296; omega)
  | .tup xs, h, q => by rw [toPyE, PyData.leavesShort, PyData.showable, layE]; exact lsEs xs (gd_tup h) (by rwa [ib] at q)
  | .lst xs, h, q => by rw [toPyE, PyData.leavesShort, PyData.showable, layE]; exact lsEs xs (by rwa [gd] at h) (by rwa [ib] at q)
  | .emp, _, _ => by rw [toPyE, PyData.leavesShort, PyData.leavesShortKv, PyData.showable, PyData.showableKv, layE_emp]; exact ⟨rfl, rfl, rfl⟩
  | .scr _, h, _ => by rw [gd] at h; cases h
  | .exc _ _, h, _ => by rw [gd] at h; cases h
  | .o _, h, _ => by rw [gd] at h; cases h
theorem lsEs : ∀ ds : List D, gds ds = true → ibs ds = true → PyData.leavesShortAll 13 (toPyEs ds) = true ∧ PyData.showableAll (toPyEs ds) = true ∧ layEs ds = true
  | [], _, _ => by rw [toPyEs, PyData.leavesShortAll, PyData.showableAll, layEs]; exact ⟨rfl, rfl, rfl⟩
  | d :: r, h, q => by
    rw [gds, Bool.and_eq_true] at h
    rw [ibs, Bool.and_eq_true] at q
    obtain ⟨a1, a2, a3⟩ := lsE d h.1 q.1
    obtain ⟨b1, b2, b3⟩ := lsEs r h.2 q.2
    rw [toPyEs, PyData.leavesShortAll, PyData.showableAll, layEs, a1, a2, a3, b1, b2, b3]
    exact ⟨rfl, rfl, rfl⟩
end
mutual
theorem okE : ∀ d : D, gd d = true → okS (shwE d)
  | .non, _ => by show okS (toPyE .non).shown; rw [toPyE, PyData.shown]; exact okS_litN _
  | .bl b, _ => by show okS (toPyE (.bl b)).shown; rw [toPyE, PyData.shown]; cases b <;> exact okS_litN _
  | .int i, _ => by show okS (toPyE (.int i)).shown; rw [toPyE, PyData.shown]; exact okS_litN _
  | .str x, h => by show okS (toPyE (.str x)).shown; rw [toPyE, PyData.shown]; exact reprText_ok (okS_of (by rwa [gd] at h))
  | .tup xs, h => by show okS (toPyE (.tup xs)).shown; rw [toPyE, PyData.shown]; exact okS_tupN _ (okEs xs (gd_tup h))
  | .lst xs, h => by show okS (toPyE (.lst xs)).shown; rw [toPyE, PyData.shown]; exact okS_lstN _ (okEs xs (by rwa [gd] at h))
  | .emp, _ => by
    show okS (toPyE .emp).shown
    rw [toPyE, PyData.shown, PyData.shownKv]
    exact okS_of (by decide +kernel)
  | .scr _, h => by rw [gd] at h; cases h
  | .exc _ _, h => by rw [gd] at h; cases h
  | .o _, h => by rw [gd] at h; cases h
theorem okEs : ∀ ds : List D, gds ds = true → ∀ t ∈ PyData.shownAll (toPyEs ds), okS t
  | [], _ => by rw [toPyEs, PyData.shownAll]; intro t ht; cases ht
  | d :: r, h => by
    rw [gds, Bool.and_eq_true] at h
    rw [toPyEs, PyData.shownAll]
    intro t ht
    rcases List.mem_cons.mp ht with rfl | ht
    · exact okE d h.1
    · exact okEs r h.2 t ht
end
theorem okE_t {d : D} (h : gd d = true) : PyData.strOk (shwE d) = true := okS_toN (okE d h)
theorem showOkE_of {d : D} (h1 : gd d = true) (h2 : ib d = true) (h3 : dE d ≤ 290) (h4 : sE d ≤ 900000) : showOkE d = true := by
  obtain ⟨a, b, c⟩ := lsE d h1 h2
  have ln := PyData.shown_le 13 (by decide) (toPyE d) a
  have w := wtE d h1 h2
  have dd := depE d h1
  have hl : (shwE d).length ≤ 15000000 := by
    show (toPyE d).shown.length ≤ 15000000
    omega
  unfold showOkE
  rw [c, b, decide_eq_true (show (toPyE d).depth ≤ 290 by omega), decide_eq_true hl]
  rfl
end L
set_option pp.maxSteps 400
set_option pp.deepTerms false
namespace L
open PySem L2 G
local macro_rules | `(tactic| walk_at "ey") => `(tactic| try simp only [sSpot, eSpot, sSeq, sSet, sExpr, sRet, sIf, sAsg, una, escf, escS, opd, eVar, eC, eBin, eUn, eFn, eCall, eTup, eLst, aCons, aNil, fin, rd, rds, R.toS, dsOf, Rs.bind_ok, Rs.bind_bad, Rs.bind_ex, Rs.opt_some, Option.bind_some, Option.map_some, ownAt, eExt, eApp, ePop, List.getElem?_cons_zero, List.getElem?_cons_succ, List.set_cons_zero, List.set_cons_succ, okArg, List.all_cons, List.all_nil, Bool.and_self, if_true, kName, kTup, ksCons, ksNil, fMax, tOf, List.length_cons, List.length_nil, Bool.not_false, Bool.not_true, if_false, Bool.false_eq_true, lm0, lm1, lm2, lm3, lm4, lm5, lm6, lm7, lm8, lm9, lm10, lm11, lm12, fnM, List.map_cons, List.map_nil, List.replicate, List.cons_append, List.nil_append, Nat.reduceAdd, Nat.reduceSub, sNil, tAndM, tOrM, tNotM, tTru, dTru, eIf, dSub_i, dAdd_i, dLt_i, dLe_i, dGt_i, dGe_i, dEq_i, decide_true, decide_false, eChain, eAndM, eSl, oInt, dNeg, fInt, aDef, fTuple])

/-! told right -/
theorem gsel_sE : ∀ (cs : List Nat) (ds : List D), sEs (gsel cs ds) ≤ sEs ds ∧ dEs (gsel cs ds) ≤ dEs ds ∧ (ibs ds = true → ibs (gsel cs ds) = true)
  | [], ds => by rw [show gsel [] ds = [] from by simp [gsel]]; exact ⟨by rw [sEs]; omega, by rw [dEs]; omega, fun _ => by rw [ibs]⟩
  | c :: cs, [] => by rw [show gsel (c :: cs) [] = [] from by simp [gsel]]; exact ⟨by rw [sEs]; omega, by rw [dEs]; omega, fun _ => by rw [ibs]⟩
  | c :: cs, d :: ds => by
    obtain ⟨a, b, e⟩ := gsel_sE cs ds
    rw [gsel]
    split
    · rw [sEs, sEs, dEs, dEs]
      refine ⟨by omega, by omega, fun h => ?_⟩
      rw [ibs, Bool.and_eq_true] at h
      rw [ibs, h.1, e h.2]
      rfl
    · rw [sEs, dEs]
      refine ⟨by omega, by omega, fun h => ?_⟩
      rw [ibs, Bool.and_eq_true] at h
      exact e h.2
theorem mem_sE : ∀ {ds : List D} {x : D}, x ∈ ds → sE x ≤ sEs ds ∧ dE x ≤ dEs ds ∧ (ibs ds = true → ib x = true)
  | d :: r, x, h => by
    rcases List.mem_cons.mp h with rfl | h
    · rw [sEs, dEs]
      refine ⟨by omega, by omega, fun h => ?_⟩
      rw [ibs, Bool.and_eq_true] at h
      exact h.1
    · obtain ⟨a, b, e⟩ := mem_sE h
      rw [sEs, dEs]
      refine ⟨by omega, by omega, fun h => ?_⟩
      rw [ibs, Bool.and_eq_true] at h
      exact e h.2
theorem inn_meas {d : D} {l : List D} (h : innD d = some l) : sEs l ≤ sE d ∧ dEs l ≤ dE d ∧ (ib d = true → ibs l = true) := by
  unfold innD at h
  split at h
  · rename_i s r
    split at h
    · cases h
    · rename_i sg es
      split at h
      · split at h
        · split at h
          · rename_i ys e2
            cases h
            obtain ⟨a, b, e⟩ := mem_sE (List.mem_of_getElem? e2)
            rw [sE] at a
            rw [dE] at b
            rw [sE, sEs, dE, dEs]
            refine ⟨by omega, by omega, fun q => ?_⟩
            rw [ib, ibs, Bool.and_eq_true] at q
            have := e q.2
            rwa [ib] at this
          · cases h
        · cases h
          obtain ⟨a, b, e⟩ := gsel_sE sg.cps.toList r
          rw [sE, sEs, dE, dEs]
          refine ⟨by omega, by omega, fun q => ?_⟩
          rw [ib, ibs, Bool.and_eq_true] at q
          exact e q.2
      · cases h
  · cases h
theorem reprE_l {l : List D} (h1 : gds l = true) (h2 : ibs l = true) (h3 : dEs l ≤ 289) (h4 : sEs l ≤ 900000) : fReprE [.lst l] = some (.d (.str (shwE (.lst l)))) ∧ PyData.strOk (shwE (.lst l)) = true := by
  have g : gd (.lst l) = true := by rw [gd]; exact h1
  refine ⟨?_, okE_t g⟩
  unfold fReprE
  exact if_pos (showOkE_of g (by rw [ib]; exact h2) (by rw [dE]; omega) (by rw [sE]; exact h4))
theorem reprE_t {l : List D} (h1 : gds l = true) (h2 : ibs l = true) (h3 : dEs l ≤ 289) (h4 : sEs l ≤ 900000) : fReprE [.tup l] = some (.d (.str (shwE (.tup l)))) ∧ PyData.strOk (shwE (.tup l)) = true := by
  have g : gd (.tup l) = true := by rw [gd]; exact h1
  refine ⟨?_, okE_t g⟩
  unfold fReprE
  exact if_pos (showOkE_of g (by rw [ib]; exact h2) (by rw [dE]; omega) (by rw [sE]; exact h4))
def TB (call : Fn → List S → List MO → Rs S (List MO)) : Sm MX Out := (sSeq (sSet 3 (eCall (call .inner) (aCons (escf (eVar 0)) aNil)))
    (sSeq (sIf (tOf (eBin dNe (eFn fReprE (aCons (opd (eVar 3)) aNil)) (eFn fReprE (aCons (opd (eVar 1)) aNil)))) (sRet (eC (.bl false))) sNil)
    (sIf (tOf (eBin dIsNot (eVar 3) (eC .non))) (sExpr (eApp 3 (eC .non))) sNil)))
theorem tb_some {call : Fn → List S → List MO → Rs S (List MO)} {t : D} {l : List D} {w : Str} {m : List MO} {s2 s3 : Option S} (hc : call .inner [.d t] m = .ok (.l l) m) (hr : fReprE [.lst l] = some (.d (.str w))) (hw : PyData.strOk w = true) (hl : l.length < lim) :
    TB call ⟨[some (.d t), some (.l l), s2, s3], m⟩ = .ok .nx ⟨[some (.d t), some (.l l), s2, some (.l (l ++ [.non]))], m⟩ := by
  unfold TB
  walk_at "ey"
  rw [hc]
  walk_at "ey"
  rw [hr]
  walk_at "ey"
  rw [hr]
  walk_at "ey"
  rw [dNe_t hw hw, decide_eq_true rfl]
  walk_at "ey"
  simp only [dIsNot]
  walk_at "ey"
  rw [if_pos hl]
  rfl
theorem tb_none {call : Fn → List S → List MO → Rs S (List MO)} {t : D} {m : List MO} {s2 s3 : Option S} (hc : call .inner [.d t] m = .ok (.d .non) m) :
    TB call ⟨[some (.d t), some (.d .non), s2, s3], m⟩ = .ok .nx ⟨[some (.d t), some (.d .non), s2, some (.d .non)], m⟩ := by
  have hr : fReprE [.non] = some (.d (.str "None")) := rfl
  unfold TB
  walk_at "ey"
  rw [hc]
  walk_at "ey"
  rw [hr]
  walk_at "ey"
  rw [hr]
  walk_at "ey"
  rw [dNe_t (by decide +kernel) (by decide +kernel), decide_eq_true rfl]
  walk_at "ey"
  simp only [dIsNot]
  walk_at "ey"
theorem two_it {z : Z (List MO)} : (iRg1M (aCons (opd (eC (.int 2))) aNil) : Sm MX (List D)) z = .ok [.int 0, .int 1] z := by
  simp only [iRg1M]
  walk_at "ey"
  rw [if_pos (rg_lim (by omega) (by omega))]
  rfl
theorem tf_ok {call : Fn → List S → List MO → Rs S (List MO)} {t : D} {s1 : S} {m : List MO} (hB : ∀ s2 s3, ∃ s3', TB call ⟨[some (.d t), some s1, s2, s3], m⟩ = .ok .nx ⟨[some (.d t), some s1, s2, s3'], m⟩) :
    ∃ s2 s3, (sFor (iRg1M (aCons (opd (eC (.int 2))) aNil)) (kName 2) (TB call) : Sm MX Out) ⟨[some (.d t), some s1, none, none], m⟩ = .ok .nx ⟨[some (.d t), some s1, s2, s3], m⟩ := by
  obtain ⟨x, e1⟩ := hB (some (.d (.int 0))) none
  obtain ⟨y, e2⟩ := hB (some (.d (.int 1))) x
  refine ⟨some (.d (.int 1)), y, ci_for two_it ?_⟩
  unfold forL
  simp only [kName, List.set_cons_succ, List.set_cons_zero]
  rw [e1]
  simp only [Rs.bind_ok]
  unfold forL
  simp only [kName, List.set_cons_succ, List.set_cons_zero]
  rw [e2]
  rfl
set_option maxHeartbeats 400000 in
theorem told_ok (N : Nat) {t : D} (hg : gd t = true) (hi : ib t = true) (hd : dE t ≤ 280) (hw : sE t ≤ 800000) (hp : pops t ≤ lim) (hc : cnt t ≤ 4000) (h1 : dpt t ≤ 150) (h2 : dpt t + 3 ≤ N) (m : Int) (g : List MO) : ∃ j, mir (N + 1) ._law_told_right [.d t] (sp m g) = .ok (.d (.bl true)) (sp m (g ++ j)) := by
  obtain ⟨q, rfl⟩ : ∃ q, N = q + 3 := ⟨N - 3, by omega⟩
  obtain ⟨j1, e1⟩ := within_ok (q + 1) hg m g
  have ei := fun mm => inner_ok (q + 2) hg mm
  have em := many_ok (q + 1) hg hp (sp m (g ++ j1))
  obtain ⟨j2, ec⟩ := counted_ok (q + 3) h2 hg hp m (g ++ j1)
  have emd : manyD t = cd t := by unfold manyD cd; rw [if_pos ⟨hc, h1⟩]
  rw [emd] at em
  obtain ⟨r1, r2⟩ := reprE_t (l := [.int ((cnt t : Nat) : Int), .int ((dpt t : Nat) : Int)]) (by simp [gds, gd]) (by simp [ibs, ib]; omega) (by simp [dEs, dE]) (by simp [sEs, sE])
  have fin : ∀ s1 s2 s3, (sRet (eBin dEq (eFn fReprE (aCons (opd (eCall (mir (q + 3) .many_in) (aCons (escf (eVar 0)) aNil))) aNil)) (eFn fReprE (aCons (opd (eCall (mir (q + 3) ._law_counted) (aCons (escf (eVar 0)) aNil))) aNil))) : Sm MX Out) ⟨[some (.d t), s1, s2, s3], sp m (g ++ j1)⟩ = .ok (.rt (.d (.bl true))) ⟨[some (.d t), s1, s2, s3], sp m (g ++ j1 ++ j2)⟩ := fun s1 s2 s3 => by
    walk_at "ey"
    rw [em]
    unfold cd
    walk_at "ey"
    rw [r1]
    walk_at "ey"
    rw [ec]
    unfold cd
    walk_at "ey"
    rw [r1]
    walk_at "ey"
    rw [dEq_t r2 r2, decide_eq_true rfl]
    walk_at "ey"
  refine ⟨j1 ++ j2, ?_⟩
  have a1 : (sSet 1 (eCall (mir (q + 3) ._law_within) (aCons (escf (eVar 0)) aNil)) : Sm MX Out) ⟨[some (.d t), none, none, none], sp m g⟩ = .ok .nx ⟨[some (.d t), some (innS t), none, none], sp m (g ++ j1)⟩ := by
    walk_at "ey"
    rw [e1]
    unfold innS
    cases innD t <;> walk_at "ey"
  have hB : ∀ s2 s3, ∃ s3', TB (mir (q + 3)) ⟨[some (.d t), some (innS t), s2, s3], sp m (g ++ j1)⟩ = .ok .nx ⟨[some (.d t), some (innS t), s2, s3'], sp m (g ++ j1)⟩ := fun s2 s3 => by
    have e := ei (sp m (g ++ j1))
    cases en : innD t with
    | none =>
      have es : innS t = .d .non := by unfold innS; rw [en]
      rw [es] at e ⊢
      exact ⟨_, tb_none e⟩
    | some l =>
      have es : innS t = .l l := by unfold innS; rw [en]
      rw [es] at e ⊢
      obtain ⟨i1, i2, i3⟩ := inn_meas en
      obtain ⟨k1, k2⟩ := reprE_l (inn_gd en hg) (i3 hi) (by omega) (by omega)
      have p1 := pops_some en
      have ln := inn_len en
      exact ⟨_, tb_some e k1 k2 (by omega)⟩
  obtain ⟨s2, s3, ef⟩ := tf_ok hB
  show fnM 4 (m__law_told_right (mir (q + 3))) [.d t] (sp m g) = _
  unfold TB at ef
  unfold m__law_told_right
  simp only [fnM, List.map_cons, List.map_nil, List.length_cons, List.length_nil, Nat.zero_add, Nat.reduceSub, List.replicate, List.cons_append, List.nil_append]
  rw [seq_nx a1, seq_nx ef, fin, List.append_assoc]
end L
set_option pp.maxSteps 400
set_option pp.deepTerms false
namespace L
open PySem L2 G
local macro_rules | `(tactic| walk_at "ey") => `(tactic| try simp only [sSpot, eSpot, sSeq, sSet, sExpr, sRet, sIf, sAsg, una, escf, escS, opd, eVar, eC, eBin, eUn, eFn, eCall, eTup, eLst, aCons, aNil, fin, rd, rds, R.toS, dsOf, Rs.bind_ok, Rs.bind_bad, Rs.bind_ex, Rs.opt_some, Option.bind_some, Option.map_some, ownAt, eExt, eApp, ePop, List.getElem?_cons_zero, List.getElem?_cons_succ, List.set_cons_zero, List.set_cons_succ, okArg, List.all_cons, List.all_nil, Bool.and_self, if_true, kName, kTup, ksCons, ksNil, fMax, tOf, List.length_cons, List.length_nil, Bool.not_false, Bool.not_true, if_false, Bool.false_eq_true, lm0, lm1, lm2, lm3, lm4, lm5, lm6, lm7, lm8, lm9, lm10, lm11, lm12, fnM, List.map_cons, List.map_nil, List.replicate, List.cons_append, List.nil_append, Nat.reduceAdd, Nat.reduceSub, sNil, tAndM, tOrM, tNotM, tTru, dTru, eIf, dSub_i, dAdd_i, dLt_i, dLe_i, dGt_i, dGe_i, dEq_i, decide_true, decide_false, eChain, eAndM, eSl, oInt, dNeg, fInt, aDef, fTuple])

/-! odd things; what is true of a form -/
def held0 : D := .tup [.str "held", .int 0]
def oddL : List D := [.non, .int 5, .bl true, .str "held", .lst [held0], .emp, .tup [], .tup [.str "held"], .tup [.str "held", .int 0, .int 1], .tup [.str "Held", .int 0], .tup [.int 5, .int 0], .str "pair",
  .tup [.str "members", .str "s", .tup [.str "no"], .lst [held0]], .tup [.str "members", .str "s", .tup [.str "no"]], .tup [.tup [held0], .int 1], .tup [.str "no"]]
theorem odd_all : ∀ t ∈ oddL, gd t = true ∧ ib t = true ∧ dE t ≤ 3 ∧ sE t ≤ 120 ∧ (innD t).isNone = true := by decide +kernel
theorem dAdd_l {xs ys : List D} (h : xs.length + ys.length ≤ lim) : dAdd (.lst xs) (.lst ys) = some (.l (xs ++ ys)) := by
  unfold dAdd
  exact if_pos h
theorem dIx_l {xs : List D} {i : Nat} (h : i < xs.length) : dIx (.lst xs) (.int (i : Int)) = some (.d (xs.getD i .non)) := by
  show (atI xs (i : Int)).map R.d = _
  rw [atI_nat (List.getElem?_eq_getElem h)]
  simp [h]
theorem odd_ok (N : Nat) (k : Int) (m : List MO) : ∃ t ∈ oddL, mir (N + 1) ._law_odd [.d (.int k)] m = .ok (.d t) m := by
  have h0 : 0 ≤ k % 16 := Int.emod_nonneg _ (by omega)
  have h1 : k % 16 < 16 := Int.emod_lt_of_pos _ (by omega)
  have hj : (k % 16).toNat < oddL.length := by show _ < 16; omega
  refine ⟨oddL.getD (k % 16).toNat .non, ?_, ?_⟩
  · rw [show oddL.getD (k % 16).toNat .non = oddL[(k % 16).toNat] from by simp [hj]]
    exact List.getElem_mem hj
  · show fnM 2 (m__law_odd (mir N)) [.d (.int k)] m = _
    unfold m__law_odd
    walk_at "ey"
    rw [dAdd_l (by show 12 + 4 ≤ 1000000; omega)]
    walk_at "ey"
    rw [modA _ _ (by omega)]
    walk_at "ey"
    have e := dIx_l hj
    rw [show (((k % 16).toNat : Nat) : Int) = k % 16 from by omega] at e
    unfold oddL held0 at e ⊢
    first | (rw [e]; rfl) | (erw [e]; rfl) | (simp only [List.cons_append, List.nil_append]; rw [e]; rfl)
def Wf : Nat → Nat
  | 0 => 510
  | d + 1 => 4 * Wf d + 510
def Cf : Nat → Nat
  | 0 => 1
  | d + 1 => 4 * Cf d + 1
def Dr : Nat → Nat
  | 0 => 1
  | d + 1 => 4 * Dr d + 1
theorem wf_pos : ∀ d, 510 ≤ Wf d
  | 0 => Nat.le_refl _
  | d + 1 => by have := wf_pos d; rw [Wf]; omega
structure Fm (d : Nat) (t : D) : Prop where
  g : gd t = true
  i : ib t = true
  de : dE t ≤ 2 * d + 6
  s : sE t ≤ Wf d
  p : pops t ≤ Wf d
  c : cnt t ≤ Cf d
  dp : dpt t ≤ d + 1
theorem fm_odd (d : Nat) {t : D} (h : t ∈ oddL) : Fm d t := by
  obtain ⟨a, b, c, e, f⟩ := odd_all t h
  have n : innD t = none := Option.isNone_iff_eq_none.mp f
  have w := wf_pos d
  refine ⟨a, b, by omega, by omega, ?_, ?_, ?_⟩
  · rw [pops_none n]; omega
  · rw [cnt_none n]; omega
  · rw [dpt_none n]; omega
/-- the plain parts -/
def plainL : List D := [.int 0, .str "s", .tup [.str "no"], .tup [.str "pair", held0, .tup [.str "held", .int 1]], .non]
theorem plain_all : ∀ t ∈ plainL, gd t = true ∧ ib t = true ∧ dE t ≤ 2 ∧ sE t ≤ 110 := by decide +kernel
/-- parts by their signs -/
inductive Pt (F : D → Prop) : List Nat → List D → Prop
  | nil : Pt F [] []
  | g {cs : List Nat} {r : List D} {x : D} : F x → Pt F cs r → Pt F (103 :: cs) (x :: r)
  | m {cs : List Nat} {r ys : List D} : (∀ y ∈ ys, F y) → ys.length ≤ 4 → Pt F cs r → Pt F (109 :: cs) (.tup ys :: r)
  | n {c : Nat} {cs : List Nat} {r : List D} {x : D} : x ∈ plainL → c ≠ 103 → c ≠ 109 → Pt F cs r → Pt F (c :: cs) (x :: r)
def nf : List Nat → Nat
  | [] => 0
  | c :: cs => (if c = 103 then 1 else if c = 109 then 4 else 0) + nf cs
theorem sg_nf : ∀ p ∈ sgT, nf p.2.cps.toList ≤ 4 ∧ p.2.cps.toList.length ≤ 4 ∧ (hasM p.2 = true → p.2.cps.toList = [110, 110, 109]) ∧ PyData.strOk p.1 = true ∧ p.1.cps.size ≤ 7 := by decide +kernel
theorem Pt.len {F : D → Prop} : ∀ {cs : List Nat} {r : List D}, Pt F cs r → cs.length = r.length
  | _, _, .nil => rfl
  | _, _, .g _ q => congrArg (· + 1) q.len
  | _, _, .m _ _ q => congrArg (· + 1) q.len
  | _, _, .n _ _ _ q => congrArg (· + 1) q.len
theorem Pt.sel {F : D → Prop} : ∀ {cs : List Nat} {r : List D}, Pt F cs r → (∀ x ∈ gsel cs r, F x) ∧ (gsel cs r).length ≤ nf cs
  | _, _, .nil => by rw [show gsel [] [] = [] from by simp [gsel]]; exact ⟨fun x hx => (by cases hx), Nat.zero_le _⟩
  | _, _, .g h q => by
    obtain ⟨a, b⟩ := q.sel
    rw [gsel, if_pos rfl, nf, if_pos rfl]
    refine ⟨fun x hx => ?_, by rw [List.length_cons]; omega⟩
    rcases List.mem_cons.mp hx with rfl | hx
    · exact h
    · exact a x hx
  | _, _, .m _ _ q => by
    obtain ⟨a, b⟩ := q.sel
    rw [gsel, if_neg (by decide), nf, if_neg (by decide), if_pos rfl]
    exact ⟨a, by omega⟩
  | _, _, .n _ h1 h2 q => by
    obtain ⟨a, b⟩ := q.sel
    rw [gsel, if_neg h1, nf, if_neg h1, if_neg h2]
    exact ⟨a, by omega⟩
theorem Pt.third {F : D → Prop} {r : List D} (h : Pt F [110, 110, 109] r) : ∃ a b ys, r = [a, b, .tup ys] ∧ (∀ y ∈ ys, F y) ∧ ys.length ≤ 4 := by
  cases h with
  | n _ _ _ q =>
    cases q with
    | n _ _ _ q =>
      cases q with
      | m h1 h2 q => cases q; exact ⟨_, _, _, rfl, h1, h2⟩
      | n _ _ h2 _ => exact (h2 rfl).elim
theorem gds_all : ∀ {l : List D}, (∀ x ∈ l, gd x = true) → gds l = true
  | [], _ => rfl
  | x :: r, h => by rw [gds, h x List.mem_cons_self, gds_all fun y hy => h y (List.mem_cons_of_mem _ hy)]; rfl
theorem ibs_all : ∀ {l : List D}, (∀ x ∈ l, ib x = true) → ibs l = true
  | [], _ => rfl
  | x :: r, h => by rw [ibs, h x List.mem_cons_self, ibs_all fun y hy => h y (List.mem_cons_of_mem _ hy)]; rfl
theorem dEs_all {k : Nat} : ∀ {l : List D}, (∀ x ∈ l, dE x ≤ k) → dEs l ≤ k
  | [], _ => Nat.zero_le _
  | x :: r, h => by have a := h x List.mem_cons_self; have b := dEs_all (l := r) fun y hy => h y (List.mem_cons_of_mem _ hy); rw [dEs]; omega
theorem sEs_all {k : Nat} : ∀ {l : List D}, (∀ x ∈ l, sE x ≤ k) → sEs l ≤ l.length * (k + 1)
  | [], _ => by rw [sEs]; omega
  | x :: r, h => by
    have a := h x List.mem_cons_self
    have b := sEs_all (l := r) fun y hy => h y (List.mem_cons_of_mem _ hy)
    rw [sEs, List.length_cons, Nat.add_mul]
    omega
theorem Pt.meas {d : Nat} : ∀ {cs : List Nat} {r : List D}, Pt (Fm d) cs r → gds r = true ∧ ibs r = true ∧ dEs r ≤ 2 * d + 7 ∧ sEs r ≤ nf cs * (Wf d + 1) + 111 * cs.length
  | _, _, .nil => ⟨rfl, rfl, Nat.zero_le _, by rw [sEs]; omega⟩
  | _, _, .g (cs := cs) h q => by
    obtain ⟨a, b, c, e⟩ := q.meas
    have := h.de
    have := h.s
    rw [gds, ibs, h.g, h.i, a, b, dEs, sEs, nf, if_pos rfl, List.length_cons, Nat.add_mul]
    exact ⟨rfl, rfl, by omega, by omega⟩
  | _, _, .m (cs := cs) (ys := ys) h h4 q => by
    obtain ⟨a, b, c, e⟩ := q.meas
    have x1 := gds_all fun y hy => (h y hy).g
    have x2 := ibs_all fun y hy => (h y hy).i
    have x3 := dEs_all fun y hy => (h y hy).de
    have x4 := sEs_all fun y hy => (h y hy).s
    have x5 : ys.length * (Wf d + 1) ≤ 4 * (Wf d + 1) := Nat.mul_le_mul_right _ h4
    rw [gds, ibs, gd, ib, x1, x2, a, b, dEs, dE, sEs, sE, nf, if_neg (by decide), if_pos rfl, List.length_cons, Nat.add_mul]
    exact ⟨rfl, rfl, by omega, by omega⟩
  | _, _, .n (cs := cs) h h1 h2 q => by
    obtain ⟨a, b, c, e⟩ := q.meas
    obtain ⟨x1, x2, x3, x4⟩ := plain_all _ h
    rw [gds, ibs, x1, x2, a, b, dEs, sEs, nf, if_neg h1, if_neg h2, List.length_cons, Nat.zero_add]
    exact ⟨rfl, rfl, by omega, by omega⟩
end L
set_option pp.maxSteps 400
set_option pp.deepTerms false
namespace L
open PySem L2 G
local macro_rules | `(tactic| walk_at "ey") => `(tactic| try simp only [sSpot, eSpot, sSeq, sSet, sExpr, sRet, sIf, sAsg, una, escf, escS, opd, eVar, eC, eBin, eUn, eFn, eCall, eTup, eLst, aCons, aNil, fin, rd, rds, R.toS, dsOf, Rs.bind_ok, Rs.bind_bad, Rs.bind_ex, Rs.opt_some, Option.bind_some, Option.map_some, ownAt, eExt, eApp, ePop, List.getElem?_cons_zero, List.getElem?_cons_succ, List.set_cons_zero, List.set_cons_succ, okArg, List.all_cons, List.all_nil, Bool.and_self, if_true, kName, kTup, ksCons, ksNil, fMax, tOf, List.length_cons, List.length_nil, Bool.not_false, Bool.not_true, if_false, Bool.false_eq_true, lm0, lm1, lm2, lm3, lm4, lm5, lm6, lm7, lm8, lm9, lm10, lm11, lm12, fnM, List.map_cons, List.map_nil, List.replicate, List.cons_append, List.nil_append, Nat.reduceAdd, Nat.reduceSub, sNil, tAndM, tOrM, tNotM, tTru, dTru, eIf, dSub_i, dAdd_i, dLt_i, dLe_i, dGt_i, dGe_i, dEq_i, decide_true, decide_false, eChain, eAndM, eSl, oInt, dNeg, fInt, aDef, fTuple])

/-! a form out of its parts -/
theorem inn_form {F : D → Prop} {w s : Str} {r r' l : List D} (es : sgT.lookup w = some s) (h : Pt F s.cps.toList r) (hr : r' = r ∨ r' = r ++ [held0]) (hl : innD (.tup (.str w :: r')) = some l) : (∀ x ∈ l, F x) ∧ l.length ≤ nf s.cps.toList := by
  obtain ⟨_, _, n3, _, _⟩ := sg_nf _ (look_mem es)
  simp only at n3
  have hlen := h.len
  rw [Array.length_toList] at hlen
  unfold innD at hl
  simp only [es] at hl
  split at hl
  · rename_i e
    have er : r' = r := by
      rcases hr with q | q
      · exact q
      · rw [q, List.length_append, List.length_singleton] at e; omega
    subst er
    split at hl
    · rename_i hm
      have e3 := n3 hm
      rw [e3] at h ⊢
      obtain ⟨a, b, ys, rfl, h1, h2⟩ := h.third
      simp only [List.getElem?_cons_succ, List.getElem?_cons_zero] at hl
      cases hl
      exact ⟨h1, h2⟩
    · cases hl
      exact h.sel
  · cases hl
theorem cnts_le {k : Nat} : ∀ {l : List D}, (∀ x ∈ l, cnt x ≤ k) → cnts l ≤ l.length * k
  | [], _ => by rw [cnts_nil]; omega
  | x :: r, h => by
    have a := h x List.mem_cons_self
    have b := cnts_le (l := r) fun y hy => h y (List.mem_cons_of_mem _ hy)
    rw [cnts_cons, List.length_cons, Nat.add_mul]; omega
theorem popss_le {k : Nat} : ∀ {l : List D}, (∀ x ∈ l, pops x ≤ k) → popss l ≤ l.length * k
  | [], _ => by rw [popss_nil]; omega
  | x :: r, h => by
    have a := h x List.mem_cons_self
    have b := popss_le (l := r) fun y hy => h y (List.mem_cons_of_mem _ hy)
    rw [popss_cons, List.length_cons, Nat.add_mul]; omega
theorem dpts_le {k : Nat} : ∀ {l : List D}, (∀ x ∈ l, dpt x ≤ k) → dpts l ≤ k
  | [], _ => Nat.zero_le _
  | x :: r, h => by
    have a := h x List.mem_cons_self
    have b := dpts_le (l := r) fun y hy => h y (List.mem_cons_of_mem _ hy)
    rw [dpts_cons]; omega
theorem extra {r r' : List D} (hr : r' = r ∨ r' = r ++ [held0]) (h1 : gds r = true) (h2 : ibs r = true) : gds r' = true ∧ ibs r' = true ∧ dEs r' ≤ max (dEs r) 1 ∧ sEs r' ≤ sEs r + 48 := by
  have g0 : gd held0 = true := by decide +kernel
  have i0 : ib held0 = true := by decide +kernel
  have d0 : dE held0 = 1 := by decide +kernel
  have s0 : sE held0 + 1 ≤ 48 := by decide +kernel
  have app : ∀ r : List D, gds r = true → ibs r = true → gds (r ++ [held0]) = true ∧ ibs (r ++ [held0]) = true ∧ dEs (r ++ [held0]) ≤ max (dEs r) 1 ∧ sEs (r ++ [held0]) ≤ sEs r + 48 := fun r => by
    induction r with
    | nil =>
      intro _ _
      have e1 : dEs [held0] = max (dE held0) 0 := by rw [dEs, dEs]
      have e2 : sEs [held0] = sE held0 + 1 + 0 := by rw [sEs, sEs]
      have e3 : sEs [] = 0 := by rw [sEs]
      rw [List.nil_append, gds, ibs, g0, i0, e1, e2, e3, d0]
      exact ⟨rfl, rfl, by omega, by omega⟩
    | cons x r ih =>
      intro a b
      rw [gds, Bool.and_eq_true] at a
      rw [ibs, Bool.and_eq_true] at b
      obtain ⟨k1, k2, k3, k4⟩ := ih a.2 b.2
      rw [List.cons_append, gds, ibs, a.1, b.1, k1, k2, dEs, dEs, sEs, sEs]
      exact ⟨rfl, rfl, by omega, by omega⟩
  rcases hr with rfl | rfl
  · exact ⟨h1, h2, by omega, by omega⟩
  · exact app r h1 h2
theorem fm_form {d : Nat} {w s : Str} {r r' : List D} (es : sgT.lookup w = some s) (h : Pt (Fm d) s.cps.toList r) (hr : r' = r ∨ r' = r ++ [held0]) : Fm (d + 1) (.tup (.str w :: r')) := by
  obtain ⟨n1, n2, _, n4, n5⟩ := sg_nf _ (look_mem es)
  simp only at n1 n2 n4 n5
  obtain ⟨a, b, c, e⟩ := h.meas
  obtain ⟨a', b', c', e'⟩ := extra hr a b
  have w0 := wf_pos d
  have n6 : nf s.cps.toList * (Wf d + 1) ≤ 4 * (Wf d + 1) := Nat.mul_le_mul_right _ n1
  have hc : cnt (.tup (.str w :: r')) ≤ Cf (d + 1) ∧ dpt (.tup (.str w :: r')) ≤ d + 2 ∧ pops (.tup (.str w :: r')) ≤ Wf (d + 1) := by
    cases ei : innD (.tup (.str w :: r')) with
    | none => rw [cnt_none ei, dpt_none ei, pops_none ei, Wf]; exact ⟨by omega, by omega, by omega⟩
    | some l =>
      obtain ⟨f1, f2⟩ := inn_form es h hr ei
      have c1 := cnts_le fun x hx => (f1 x hx).c
      have c2 := dpts_le fun x hx => (f1 x hx).dp
      have c3 := popss_le fun x hx => (f1 x hx).p
      have m1 : l.length * Cf d ≤ 4 * Cf d := Nat.mul_le_mul_right _ (by omega)
      have m2 : l.length * Wf d ≤ 4 * Wf d := Nat.mul_le_mul_right _ (by omega)
      rw [cnt_some ei, dpt_some ei, pops_some ei, Wf, Cf]
      exact ⟨by omega, by omega, by omega⟩
  refine ⟨?_, ?_, ?_, ?_, hc.2.2, hc.1, hc.2.1⟩
  · rw [gd, gds, gd, n4, a']; rfl
  · rw [ib, ibs, b', show ib (.str w) = true from by simp [ib]]; rfl
  · rw [dE, dEs, show dE (.str w) = 0 from by simp [dE]]; omega
  · rw [sE, sEs, sE, Wf]; omega
/-- forms of no grounds within -/
theorem Pt.meas0 : ∀ {cs : List Nat} {r : List D}, Pt (fun _ => False) cs r → (∀ c ∈ cs, c ≠ 103 ∧ c ≠ 109) → gds r = true ∧ ibs r = true ∧ dEs r ≤ 2 ∧ sEs r ≤ 111 * cs.length ∧ nf cs = 0
  | _, _, .nil, _ => ⟨rfl, rfl, Nat.zero_le _, by rw [sEs]; omega, rfl⟩
  | _, _, .g h _, _ => h.elim
  | _, _, .m _ _ _, h => ((h _ List.mem_cons_self).2 rfl).elim
  | _, _, .n (cs := cs) h h1 h2 q, hc => by
    obtain ⟨a, b, c, e, f⟩ := q.meas0 fun c hx => hc c (List.mem_cons_of_mem _ hx)
    obtain ⟨x1, x2, x3, x4⟩ := plain_all _ h
    rw [gds, ibs, x1, x2, a, b, dEs, sEs, nf, if_neg h1, if_neg h2, List.length_cons, f]
    exact ⟨rfl, rfl, by omega, by omega, rfl⟩
theorem fm_form0 {w s : Str} {r r' : List D} (es : sgT.lookup w = some s) (h : Pt (fun _ => False) s.cps.toList r) (hn : ∀ c ∈ s.cps.toList, c ≠ 103 ∧ c ≠ 109) (hr : r' = r ∨ r' = r ++ [held0]) : Fm 0 (.tup (.str w :: r')) := by
  obtain ⟨n1, n2, _, n4, n5⟩ := sg_nf _ (look_mem es)
  simp only at n1 n2 n4 n5
  obtain ⟨a, b, c, e, f⟩ := h.meas0 hn
  obtain ⟨a', b', c', e'⟩ := extra hr a b
  have hc : cnt (.tup (.str w :: r')) ≤ 1 ∧ dpt (.tup (.str w :: r')) ≤ 1 ∧ pops (.tup (.str w :: r')) ≤ 1 := by
    cases ei : innD (.tup (.str w :: r')) with
    | none => rw [cnt_none ei, dpt_none ei, pops_none ei]; exact ⟨by omega, by omega, by omega⟩
    | some l =>
      obtain ⟨f1, f2⟩ := inn_form es h hr ei
      have e0 : l = [] := List.eq_nil_of_length_eq_zero (by omega)
      subst e0
      rw [cnt_some ei, dpt_some ei, pops_some ei, cnts_nil, dpts_nil, popss_nil]
      exact ⟨by omega, by omega, by omega⟩
  refine ⟨?_, ?_, ?_, ?_, by rw [Wf]; omega, hc.1, hc.2.1⟩
  · rw [gd, gds, gd, n4, a']; rfl
  · rw [ib, ibs, b', show ib (.str w) = true from by simp [ib]]; rfl
  · rw [dE, dEs, show dE (.str w) = 0 from by simp [dE]]; omega
  · rw [sE, sEs, sE, Wf]; omega
end L
set_option pp.maxSteps 400
set_option pp.deepTerms false
namespace L
open PySem L2 G
local macro_rules | `(tactic| walk_at "ey") => `(tactic| try simp only [sSpot, eSpot, sSeq, sSet, sExpr, sRet, sIf, sAsg, una, escf, escS, opd, eVar, eC, eBin, eUn, eFn, eCall, eTup, eLst, aCons, aNil, fin, rd, rds, R.toS, dsOf, Rs.bind_ok, Rs.bind_bad, Rs.bind_ex, Rs.opt_some, Option.bind_some, Option.map_some, ownAt, eExt, eApp, ePop, List.getElem?_cons_zero, List.getElem?_cons_succ, List.set_cons_zero, List.set_cons_succ, okArg, List.all_cons, List.all_nil, Bool.and_self, if_true, kName, kTup, ksCons, ksNil, fMax, tOf, List.length_cons, List.length_nil, Bool.not_false, Bool.not_true, if_false, Bool.false_eq_true, lm0, lm1, lm2, lm3, lm4, lm5, lm6, lm7, lm8, lm9, lm10, lm11, lm12, fnM, List.map_cons, List.map_nil, List.replicate, List.cons_append, List.nil_append, Nat.reduceAdd, Nat.reduceSub, sNil, tAndM, tOrM, tNotM, tTru, dTru, eIf, dSub_i, dAdd_i, dLt_i, dLe_i, dGt_i, dGe_i, dEq_i, decide_true, decide_false, eChain, eAndM, eSl, oInt, dNeg, fInt, aDef, fTuple])

/-! the loop over a word's signs -/
def TOP : Int := 10000000000000
def HF (call : Fn → List S → List MO → Rs S (List MO)) (ns : List Int) (d : Int) (F : D → Prop) (B : Nat) : Prop :=
  ∀ (m : Int) (g : List MO), 0 ≤ m → m + B ≤ TOP → ∃ (t : D) (m' : Int) (g' : List MO), call ._law_form [.d (.scr ns), .d (.o 0), .d (.int (d - 1))] (sp m g) = .ok (.d t) (sp m' g') ∧ F t ∧ m ≤ m' ∧ m' ≤ m + B
def FG (call : Fn → List S → List MO → Rs S (List MO)) : Sm MX S := eCall (call ._law_form) (aCons (escf (eVar 0)) (aCons (escf (eVar 1)) (aCons (escf (eBin dSub (eVar 2) (eC (.int 1)))) aNil)))
def FL (call : Fn → List S → List MO → Rs S (List MO)) : Sm MX S := eLc (iRg1M (aCons (opd (eBin dMod (eBin dFdiv (eVar 3) (eC (.int 300))) (eC (.int 5)))) aNil)) (kName 8) (fun z => .ok true z) (FG call) [8]
def FN : Sm MX S := eBin dIx (eLst (aCons (escf (eC (.int 0))) (aCons (escf (eC (.str "s"))) (aCons (escf (eTup (aCons (escf (eC (.str "no"))) aNil))) (aCons (escf (eTup (aCons (escf (eC (.str "pair"))) (aCons (escf (eTup (aCons (escf (eC (.str "held"))) (aCons (escf (eC (.int 0))) aNil)))) (aCons (escf (eTup (aCons (escf (eC (.str "held"))) (aCons (escf (eC (.int 1))) aNil)))) aNil))))) (aCons (escf (eC .non)) aNil)))))) (eBin dMod (eBin dFdiv (eVar 3) (eC (.int 300))) (eC (.int 5)))
def FB (call : Fn → List S → List MO → Rs S (List MO)) : Sm MX Out := sIf (tOf (eBin dEq (eVar 7) (eC (.str "g")))) (sExpr (eApp 6 (FG call))) (sIf (tOf (eBin dEq (eVar 7) (eC (.str "m")))) (sExpr (eApp 6 (eFn fTuple (aCons (opd (FL call)) aNil)))) (sExpr (eApp 6 FN)))
theorem one_m (c : Nat) : decide ((⟨#[c]⟩ : Str) = ("m" : Str)) = decide (c = 109) := by
  rw [show ("m" : Str) = ⟨#[109]⟩ from by decide +kernel, decide_eq_decide]
  constructor
  · intro h
    have := congrArg (fun s : Str => s.cps[0]?) h
    simpa using this
  · intro h; rw [h]
theorem app_ok {E : Sm MX S} {s0 s1 s2 s3 s4 s5 s7 s8 s8' : Option S} {L : List D} {y : D} {m m' : List MO} (h : E ⟨[s0, s1, s2, s3, s4, s5, some (.l L), s7, s8], m⟩ = .ok (.d y) ⟨[s0, s1, s2, s3, s4, s5, some (.l L), s7, s8'], m'⟩) (hl : L.length < lim) :
    (sExpr (eApp 6 E) : Sm MX Out) ⟨[s0, s1, s2, s3, s4, s5, some (.l L), s7, s8], m⟩ = .ok .nx ⟨[s0, s1, s2, s3, s4, s5, some (.l (L ++ [y])), s7, s8'], m'⟩ := by
  simp only [sExpr, eApp, ownAt, List.getElem?_cons_succ, List.getElem?_cons_zero, escf, h, Rs.bind_ok, escS]
  rw [if_pos hl]
  rfl
theorem fg_ok {call : Fn → List S → List MO → Rs S (List MO)} {ns : List Int} {d : Int} {t : D} {s3 s4 s5 s6 s7 s8 : Option S} {m m' : List MO} (h : call ._law_form [.d (.scr ns), .d (.o 0), .d (.int (d - 1))] m = .ok (.d t) m') :
    FG call ⟨[some (.d (.scr ns)), some (.d (.o 0)), some (.d (.int d)), s3, s4, s5, s6, s7, s8], m⟩ = .ok (.d t) ⟨[some (.d (.scr ns)), some (.d (.o 0)), some (.d (.int d)), s3, s4, s5, s6, s7, s8], m'⟩ := by
  unfold FG
  walk_at "ey"
  rw [h]
  walk_at "ey"
theorem fn_ok {s0 s1 s2 s4 s5 s7 s8 : Option S} {n : Int} {L : List D} {m : List MO} : ∃ x ∈ plainL, FN ⟨[s0, s1, s2, some (.d (.int n)), s4, s5, some (.l L), s7, s8], m⟩ = .ok (.d x) ⟨[s0, s1, s2, some (.d (.int n)), s4, s5, some (.l L), s7, s8], m⟩ := by
  have h0 : 0 ≤ n / 300 % 5 := Int.emod_nonneg _ (by omega)
  have h1 : n / 300 % 5 < 5 := Int.emod_lt_of_pos _ (by omega)
  have hj : (n / 300 % 5).toNat < plainL.length := by show _ < 5; omega
  refine ⟨plainL.getD (n / 300 % 5).toNat .non, ?_, ?_⟩
  · rw [show plainL.getD (n / 300 % 5).toNat .non = plainL[(n / 300 % 5).toNat] from by simp [hj]]
    exact List.getElem_mem hj
  · unfold FN
    walk_at "ey"
    rw [divA _ _ (by omega)]
    walk_at "ey"
    rw [modA _ _ (by omega)]
    walk_at "ey"
    have e := dIx_l hj
    rw [show (((n / 300 % 5).toNat : Nat) : Int) = n / 300 % 5 from by omega] at e
    unfold plainL held0 at e ⊢
    first | (rw [e]; done) | (rw [e]; rfl) | (erw [e]; rfl) | (erw [e]; done)
theorem fl_it {s0 s1 s2 s4 s5 s6 s7 : Option S} {n : Int} {m : List MO} : (iRg1M (aCons (opd (eBin dMod (eBin dFdiv (eVar 3) (eC (.int 300))) (eC (.int 5)))) aNil) : Sm MX (List D)) ⟨[s0, s1, s2, some (.d (.int n)), s4, s5, s6, s7, none], m⟩ = .ok (rangeD 0 (n / 300 % 5).toNat) ⟨[s0, s1, s2, some (.d (.int n)), s4, s5, s6, s7, none], m⟩ := by
  have h0 : 0 ≤ n / 300 % 5 := Int.emod_nonneg _ (by omega)
  have h1 : n / 300 % 5 < 5 := Int.emod_lt_of_pos _ (by omega)
  simp only [iRg1M]
  walk_at "ey"
  rw [divA _ _ (by omega)]
  walk_at "ey"
  rw [modA _ _ (by omega)]
  walk_at "ey"
  rw [if_pos (rg_lim h0 (by omega))]
theorem fl_ok {call : Fn → List S → List MO → Rs S (List MO)} {ns : List Int} {d n : Int} {F : D → Prop} {B : Nat} (hf : HF call ns d F B) {s4 s5 s6 s7 : Option S} {m : Int} {g : List MO} (h0 : 0 ≤ m) (h1 : m + 4 * B ≤ TOP) :
    ∃ (ts : List D) (m' : Int) (g' : List MO), FL call ⟨[some (.d (.scr ns)), some (.d (.o 0)), some (.d (.int d)), some (.d (.int n)), s4, s5, s6, s7, none], sp m g⟩ = .ok (.l ts) ⟨[some (.d (.scr ns)), some (.d (.o 0)), some (.d (.int d)), some (.d (.int n)), s4, s5, s6, s7, none], sp m' g'⟩ ∧ (∀ y ∈ ts, F y) ∧ ts.length ≤ 4 ∧ m ≤ m' ∧ m' ≤ m + 4 * B := by
  have k0 : 0 ≤ n / 300 % 5 := Int.emod_nonneg _ (by omega)
  have k1 : n / 300 % 5 < 5 := Int.emod_lt_of_pos _ (by omega)
  have kl : (rangeD 0 (n / 300 % 5).toNat).length ≤ 4 := by rw [range_len]; omega
  obtain ⟨ts, mm, e, e2, e3, m', g', rfl, q1, q2⟩ := elc_run (M := MX) (i := 8) (en := fun x : D => x) (P := F) (Q := fun k mm => ∃ m' g', mm = sp m' g' ∧ m ≤ m' ∧ m' + (k : Int) * B ≤ m + 4 * B) (rho := [some (.d (.scr ns)), some (.d (.o 0)), some (.d (.int d)), some (.d (.int n)), s4, s5, s6, s7, none]) (e := FG call) fl_it rfl (by show _ ≤ 1000000; omega) ⟨m, g, rfl, Int.le_refl _, by
      have : ((rangeD 0 (n / 300 % 5).toNat).length : Int) * B ≤ 4 * B := Int.mul_le_mul_of_nonneg_right (by omega) (by omega)
      omega⟩ (fun k x mm ⟨m1, g1, em, q1, q2⟩ => by
      subst em
      have e5 : ((k + 1 : Nat) : Int) * (B : Int) = (k : Int) * B + B := by rw [Int.natCast_add, Int.add_mul]; simp
      have e6 : 0 ≤ (k : Int) * (B : Int) := Int.mul_nonneg (by omega) (by omega)
      rw [e5] at q2
      obtain ⟨t, m2, g2, c1, c2, c3, c4⟩ := hf m1 g1 (by omega) (by omega)
      refine ⟨t, sp m2 g2, ?_, c2, m2, g2, rfl, by omega, by omega⟩
      have := fg_ok (s3 := some (.d (.int n))) (s4 := s4) (s5 := s5) (s6 := s6) (s7 := s7) (s8 := some (.d x)) c1
      simp only [escf, List.set_cons_succ, List.set_cons_zero, this, Rs.bind_ok, escS])
  refine ⟨ts, m', g', ?_, e3, by omega, q1, by simpa using q2⟩
  rw [List.map_id'] at e
  exact e
theorem for_signs {call : Fn → List S → List MO → Rs S (List MO)} {ns : List Int} {d n : Int} {F : D → Prop} {B : Nat} {s4 s5 : Option S} : ∀ (cs : List Nat) (L : List D) (m : Int) (g : List MO) (s7 : Option S), (∀ c ∈ cs, c < 128) → (∀ c ∈ cs, c = 103 ∨ c = 109 → HF call ns d F B) → L.length + cs.length ≤ lim → 0 ≤ m → m + (nf cs : Int) * B ≤ TOP →
    ∃ (r : List D) (m' : Int) (g' : List MO) (s7' : Option S), forL (M := MX) (kName 7) (FB call) (cs.map fun c => .str ⟨#[c]⟩) ⟨[some (.d (.scr ns)), some (.d (.o 0)), some (.d (.int d)), some (.d (.int n)), s4, s5, some (.l L), s7, none], sp m g⟩ = .ok .nx ⟨[some (.d (.scr ns)), some (.d (.o 0)), some (.d (.int d)), some (.d (.int n)), s4, s5, some (.l (L ++ r)), s7', none], sp m' g'⟩ ∧ Pt F cs r ∧ m ≤ m' ∧ m' ≤ m + (nf cs : Int) * B
  | [], L, m, g, s7, _, _, _, _, _ => ⟨[], m, g, s7, by simp [forL], .nil, Int.le_refl _, by simp [nf]⟩
  | c :: cs, L, m, g, s7, h1, h2, hl, h0, ht => by
    rw [List.length_cons] at hl
    have hc := h1 c List.mem_cons_self
    have next : ∀ (y : D) (m1 : Int) (g1 : List MO), FB call ⟨[some (.d (.scr ns)), some (.d (.o 0)), some (.d (.int d)), some (.d (.int n)), s4, s5, some (.l L), some (.d (.str ⟨#[c]⟩)), none], sp m g⟩ = .ok .nx ⟨[some (.d (.scr ns)), some (.d (.o 0)), some (.d (.int d)), some (.d (.int n)), s4, s5, some (.l (L ++ [y])), some (.d (.str ⟨#[c]⟩)), none], sp m1 g1⟩ → (∀ r, Pt F cs r → Pt F (c :: cs) (y :: r)) → m ≤ m1 → m1 + (nf cs : Int) * B ≤ m + (nf (c :: cs) : Int) * B →
        ∃ (r : List D) (m' : Int) (g' : List MO) (s7' : Option S), forL (M := MX) (kName 7) (FB call) ((c :: cs).map fun c => .str ⟨#[c]⟩) ⟨[some (.d (.scr ns)), some (.d (.o 0)), some (.d (.int d)), some (.d (.int n)), s4, s5, some (.l L), s7, none], sp m g⟩ = .ok .nx ⟨[some (.d (.scr ns)), some (.d (.o 0)), some (.d (.int d)), some (.d (.int n)), s4, s5, some (.l (L ++ r)), s7', none], sp m' g'⟩ ∧ Pt F (c :: cs) r ∧ m ≤ m' ∧ m' ≤ m + (nf (c :: cs) : Int) * B := fun y m1 g1 e1 hp a1 a2 => by
      obtain ⟨r, m', g', s7', e, q1, q2, q3⟩ := for_signs (s4 := s4) (s5 := s5) (n := n) cs (L ++ [y]) m1 g1 (some (.d (.str ⟨#[c]⟩))) (fun c hx => h1 c (List.mem_cons_of_mem _ hx)) (fun c hx => h2 c (List.mem_cons_of_mem _ hx)) (by rw [List.length_append, List.length_singleton]; omega) (by omega) (by omega)
      refine ⟨y :: r, m', g', s7', ?_, hp r q1, by omega, by omega⟩
      rw [List.map_cons]
      unfold forL
      simp only [kName, List.set_cons_succ, List.set_cons_zero]
      rw [e1]
      simp only [Rs.bind_ok]
      rw [e]
      simp
    have eg : (tOf (eBin dEq (eVar 7) (eC (.str "g"))) : Sm MX Bool) ⟨[some (.d (.scr ns)), some (.d (.o 0)), some (.d (.int d)), some (.d (.int n)), s4, s5, some (.l L), some (.d (.str ⟨#[c]⟩)), none], sp m g⟩ = .ok (decide (c = 103)) ⟨[some (.d (.scr ns)), some (.d (.o 0)), some (.d (.int d)), some (.d (.int n)), s4, s5, some (.l L), some (.d (.str ⟨#[c]⟩)), none], sp m g⟩ := by
      walk_at "ey"
      rw [dEq_t (one_ok hc) (by decide +kernel), one_g]
      walk_at "ey"
    have em : (tOf (eBin dEq (eVar 7) (eC (.str "m"))) : Sm MX Bool) ⟨[some (.d (.scr ns)), some (.d (.o 0)), some (.d (.int d)), some (.d (.int n)), s4, s5, some (.l L), some (.d (.str ⟨#[c]⟩)), none], sp m g⟩ = .ok (decide (c = 109)) ⟨[some (.d (.scr ns)), some (.d (.o 0)), some (.d (.int d)), some (.d (.int n)), s4, s5, some (.l L), some (.d (.str ⟨#[c]⟩)), none], sp m g⟩ := by
      walk_at "ey"
      rw [dEq_t (one_ok hc) (by decide +kernel), one_m]
      walk_at "ey"
    have e0 : 0 ≤ (nf cs : Int) * (B : Int) := Int.mul_nonneg (by omega) (by omega)
    have fb : FB call ⟨[some (.d (.scr ns)), some (.d (.o 0)), some (.d (.int d)), some (.d (.int n)), s4, s5, some (.l L), some (.d (.str ⟨#[c]⟩)), none], sp m g⟩ = (if c = 103 then sExpr (eApp 6 (FG call)) else if c = 109 then sExpr (eApp 6 (eFn fTuple (aCons (opd (FL call)) aNil))) else sExpr (eApp 6 FN)) ⟨[some (.d (.scr ns)), some (.d (.o 0)), some (.d (.int d)), some (.d (.int n)), s4, s5, some (.l L), some (.d (.str ⟨#[c]⟩)), none], sp m g⟩ := by
      unfold FB
      simp only [sIf]
      rw [eg, Rs.bind_ok]
      by_cases c1 : c = 103
      · simp only [c1, decide_true, if_true]
      · simp only [c1, decide_false, Bool.false_eq_true, if_false, em, Rs.bind_ok]
        by_cases c2 : c = 109
        · simp only [c2, decide_true, if_true]
        · simp only [c2, decide_false, Bool.false_eq_true, if_false]
    by_cases c1 : c = 103
    · subst c1
      have en : (nf (103 :: cs) : Int) * (B : Int) = (nf cs : Int) * B + B := by rw [nf, if_pos rfl, Int.natCast_add, Int.add_mul]; omega
      obtain ⟨t, m1, g1, k1, k2, k3, k4⟩ := h2 103 List.mem_cons_self (.inl rfl) m g h0 (by omega)
      refine next t m1 g1 ?_ (fun r hr => .g k2 hr) k3 (by omega)
      rw [fb, if_pos rfl]
      exact app_ok (fg_ok k1) (by omega)
    · by_cases c2 : c = 109
      · subst c2
        have en : (nf (109 :: cs) : Int) * (B : Int) = (nf cs : Int) * B + 4 * B := by rw [nf, if_neg (by decide), if_pos rfl, Int.natCast_add, Int.add_mul]; omega
        obtain ⟨ts, m1, g1, k1, k2, k3, k4, k5⟩ := fl_ok (n := n) (s4 := s4) (s5 := s5) (s6 := some (.l L)) (s7 := some (.d (.str ⟨#[109]⟩))) (h2 109 List.mem_cons_self (.inr rfl)) (m := m) (g := g) h0 (by omega)
        refine next (.tup ts) m1 g1 ?_ (fun r hr => .m k2 k3 hr) k4 (by omega)
        rw [fb, if_neg (by decide), if_pos rfl]
        refine app_ok ?_ (by omega)
        walk_at "ey"
        rw [k1]
        walk_at "ey"
      · have en : nf (c :: cs) = nf cs := by rw [nf, if_neg c1, if_neg c2, Nat.zero_add]
        obtain ⟨x, hx, ex⟩ := fn_ok (s0 := some (.d (.scr ns))) (s1 := some (.d (.o 0))) (s2 := some (.d (.int d))) (n := n) (s4 := s4) (s5 := s5) (L := L) (s7 := some (.d (.str ⟨#[c]⟩))) (s8 := none) (m := sp m g)
        refine next x m g ?_ (fun r hr => .n hx c1 c2 hr) (Int.le_refl _) (by rw [en]; exact Int.le_refl _)
        rw [fb, if_neg c1, if_neg c2]
        exact app_ok ex (by omega)
end L
set_option pp.maxSteps 400
set_option pp.deepTerms false
namespace L
open PySem L2 G
local macro_rules | `(tactic| walk_at "ey") => `(tactic| try simp only [sSpot, eSpot, sSeq, sSet, sExpr, sRet, sIf, sAsg, una, escf, escS, opd, eVar, eC, eBin, eUn, eFn, eCall, eTup, eLst, aCons, aNil, fin, rd, rds, R.toS, dsOf, Rs.bind_ok, Rs.bind_bad, Rs.bind_ex, Rs.opt_some, Option.bind_some, Option.map_some, ownAt, eExt, eApp, ePop, List.getElem?_cons_zero, List.getElem?_cons_succ, List.set_cons_zero, List.set_cons_succ, okArg, List.all_cons, List.all_nil, Bool.and_self, if_true, kName, kTup, ksCons, ksNil, fMax, tOf, List.length_cons, List.length_nil, Bool.not_false, Bool.not_true, if_false, Bool.false_eq_true, lm0, lm1, lm2, lm3, lm4, lm5, lm6, lm7, lm8, lm9, lm10, lm11, lm12, fnM, List.map_cons, List.map_nil, List.replicate, List.cons_append, List.nil_append, Nat.reduceAdd, Nat.reduceSub, sNil, tAndM, tOrM, tNotM, tTru, dTru, eIf, dSub_i, dAdd_i, dLt_i, dLe_i, dGt_i, dGe_i, dEq_i, decide_true, decide_false, eChain, eAndM, eSl, oInt, dNeg, fInt, aDef, fTuple])

/-! a form is drawn -/
def words0 : List Str := ["held", "use", "alike", "unlike"]
def wordsA : List Str := ["pair", "first", "second", "either", "other", "cases", "take", "give", "void", "twice", "each", "at"]
def wordsB : List Str := ["some", "open", "swap", "fold", "unfold", "members", "members", "held"]
def wordsP : List Str := wordsA ++ wordsB
def Ws (d : Int) : List Str := if 0 < d then wordsP else words0
def F1 (call : Fn → List S → List MO → Rs S (List MO)) : Sm MX Out := sSet 3 (eCall (call ._law_cell) (aCons (escf (eVar 0)) (aCons (escf (eVar 1)) aNil)))
def F2 (call : Fn → List S → List MO → Rs S (List MO)) : Sm MX Out := sIf (tOf (eBin dEq (eBin dMod (eVar 3) (eC (.int 11))) (eC (.int 0)))) (sRet (eCall (call ._law_odd) (aCons (escf (eBin dFdiv (eVar 3) (eC (.int 11)))) aNil))) sNil
def F3 : Sm MX Out := sSet 4 (eLst (aCons (escf (eC (.str "held"))) (aCons (escf (eC (.str "use"))) (aCons (escf (eC (.str "alike"))) (aCons (escf (eC (.str "unlike"))) aNil)))))
def F4 : Sm MX Out := sIf (tOf (eBin dGt (eVar 2) (eC (.int 0)))) (sSeq (sSet 4 (eLst (aCons (escf (eC (.str "pair"))) (aCons (escf (eC (.str "first"))) (aCons (escf (eC (.str "second"))) (aCons (escf (eC (.str "either"))) (aCons (escf (eC (.str "other"))) (aCons (escf (eC (.str "cases"))) (aCons (escf (eC (.str "take"))) (aCons (escf (eC (.str "give"))) (aCons (escf (eC (.str "void"))) (aCons (escf (eC (.str "twice"))) (aCons (escf (eC (.str "each"))) (aCons (escf (eC (.str "at"))) aNil))))))))))))))
    (sSet 4 (eBin dAdd (eVar 4) (eLst (aCons (escf (eC (.str "some"))) (aCons (escf (eC (.str "open"))) (aCons (escf (eC (.str "swap"))) (aCons (escf (eC (.str "fold"))) (aCons (escf (eC (.str "unfold"))) (aCons (escf (eC (.str "members"))) (aCons (escf (eC (.str "members"))) (aCons (escf (eC (.str "held"))) aNil)))))))))))) sNil
def F5 : Sm MX Out := sSet 5 (eBin dIx (eVar 4) (eBin dMod (eBin dFdiv (eVar 3) (eC (.int 11))) (eFn fLen (aCons (opd (eVar 4)) aNil))))
def F6 : Sm MX Out := sSet 6 (eLst (aCons (escf (eVar 5)) aNil))
def F7i (call : Fn → List S → List MO → Rs S (List MO)) : Sm MX (List D) := iAnyM (eCall (call ._law_signs) (aCons (escf (eVar 5)) aNil))
def F8 : Sm MX Out := sIf (tOf (eBin dEq (eBin dMod (eBin dFdiv (eVar 3) (eC (.int 1500))) (eC (.int 12))) (eC (.int 1)))) (sSet 6 (eBin dAdd (eVar 6) (eLst (aCons (escf (eTup (aCons (escf (eC (.str "held"))) (aCons (escf (eC (.int 0))) aNil)))) aNil)))) sNil
def F9 : Sm MX Out := sRet (eFn fTuple (aCons (opd (eVar 6)) aNil))
theorem f2_yes {call : Fn → List S → List MO → Rs S (List MO)} {s0 s1 s2 : Option S} {n : Int} {m : List MO} {t : D} (h : n % 11 = 0) (hc : call ._law_odd [.d (.int (n / 11))] m = .ok (.d t) m) : F2 call ⟨[s0, s1, s2, some (.d (.int n)), none, none, none, none, none], m⟩ = .ok (.rt (.d t)) ⟨[s0, s1, s2, some (.d (.int n)), none, none, none, none, none], m⟩ := by
  unfold F2
  walk_at "ey"
  rw [modA _ _ (by omega)]
  walk_at "ey"
  simp only [h]
  walk_at "ey"
  rw [divA _ _ (by omega)]
  walk_at "ey"
  rw [hc]
  walk_at "ey"
theorem f2_no {call : Fn → List S → List MO → Rs S (List MO)} {s0 s1 s2 : Option S} {n : Int} {m : List MO} (h : ¬ n % 11 = 0) : F2 call ⟨[s0, s1, s2, some (.d (.int n)), none, none, none, none, none], m⟩ = .ok .nx ⟨[s0, s1, s2, some (.d (.int n)), none, none, none, none, none], m⟩ := by
  unfold F2
  walk_at "ey"
  rw [modA _ _ (by omega)]
  walk_at "ey"
  simp only [h]
  walk_at "ey"
theorem f34 {s0 s1 s3 : Option S} {d : Int} {m : List MO} : sSeq F3 F4 ⟨[s0, s1, some (.d (.int d)), s3, none, none, none, none, none], m⟩ = .ok .nx ⟨[s0, s1, some (.d (.int d)), s3, some (.l ((Ws d).map D.str)), none, none, none, none], m⟩ := by
  unfold F3 F4 Ws
  walk_at "ey"
  by_cases c : 0 < d
  · simp only [c, if_true]
    walk_at "ey"
    rw [dAdd_l (by show 12 + 8 ≤ 1000000; omega)]
    walk_at "ey"
    rfl
  · simp only [c, if_false]
    walk_at "ey"
    rfl
theorem ws_len (d : Int) : 0 < (Ws d).length ∧ (Ws d).length ≤ 20 := by
  unfold Ws
  split
  · decide
  · decide
theorem f5_ok {s0 s1 s2 : Option S} {n d : Int} {m : List MO} : ∃ w ∈ Ws d, F5 ⟨[s0, s1, s2, some (.d (.int n)), some (.l ((Ws d).map D.str)), none, none, none, none], m⟩ = .ok .nx ⟨[s0, s1, s2, some (.d (.int n)), some (.l ((Ws d).map D.str)), some (.d (.str w)), none, none, none], m⟩ := by
  obtain ⟨l1, l2⟩ := ws_len d
  have h0 : 0 ≤ n / 11 % ((Ws d).length : Nat) := Int.emod_nonneg _ (by omega)
  have h1 : n / 11 % ((Ws d).length : Nat) < (Ws d).length := Int.emod_lt_of_pos _ (by omega)
  have hj : (n / 11 % ((Ws d).length : Nat)).toNat < (Ws d).length := by omega
  refine ⟨(Ws d)[(n / 11 % ((Ws d).length : Nat)).toNat], List.getElem_mem hj, ?_⟩
  have e := dIx_l (xs := (Ws d).map D.str) (i := (n / 11 % ((Ws d).length : Nat)).toNat) (by rw [List.length_map]; exact hj)
  rw [show (((n / 11 % ((Ws d).length : Nat)).toNat : Nat) : Int) = n / 11 % ((Ws d).length : Nat) from by omega] at e
  unfold F5
  walk_at "ey"
  rw [divA _ _ (by omega)]
  walk_at "ey"
  rw [show fLen [D.lst ((Ws d).map D.str)] = some (.d (.int (((Ws d).length : Nat) : Int))) from by show some (R.d (.int ((((Ws d).map D.str).length : Nat) : Int))) = _; rw [List.length_map]]
  walk_at "ey"
  rw [modA _ _ (by omega)]
  walk_at "ey"
  rw [e]
  walk_at "ey"
  simp [hj]
theorem f7_it {call : Fn → List S → List MO → Rs S (List MO)} {s0 s1 s2 s3 s4 s6 : Option S} {w s : Str} {m m' : List MO} (h : call ._law_signs [.d (.str w)] m = .ok (.d (.str s)) m') : F7i call ⟨[s0, s1, s2, s3, s4, some (.d (.str w)), s6, none, none], m⟩ = .ok (s.cps.toList.map fun c => .str ⟨#[c]⟩) ⟨[s0, s1, s2, s3, s4, some (.d (.str w)), s6, none, none], m'⟩ := by
  unfold F7i
  simp only [iAnyM]
  walk_at "ey"
  rw [h]
  walk_at "ey"
  rfl
theorem f8_ok {s0 s1 s2 s4 s5 s7 : Option S} {n : Int} {L : List D} {m : List MO} (hl : L.length ≤ 100) : ∃ L', (L' = L ∨ L' = L ++ [held0]) ∧ F8 ⟨[s0, s1, s2, some (.d (.int n)), s4, s5, some (.l L), s7, none], m⟩ = .ok .nx ⟨[s0, s1, s2, some (.d (.int n)), s4, s5, some (.l L'), s7, none], m⟩ := by
  by_cases c : n / 1500 % 12 = 1
  · refine ⟨_, .inr rfl, ?_⟩
    unfold F8
    walk_at "ey"
    rw [divA _ _ (by omega)]
    walk_at "ey"
    rw [modA _ _ (by omega)]
    walk_at "ey"
    simp only [c]
    walk_at "ey"
    rw [dAdd_l (by show L.length + 1 ≤ 1000000; omega)]
    walk_at "ey"
    rfl
  · refine ⟨_, .inl rfl, ?_⟩
    unfold F8
    walk_at "ey"
    rw [divA _ _ (by omega)]
    walk_at "ey"
    rw [modA _ _ (by omega)]
    walk_at "ey"
    simp only [c]
    walk_at "ey"
theorem form_step {q : Nat} {ns : List Int} {d : Int} {F : D → Prop} {B : Nat} (hns : ns.length ≤ 1000) (hs : ∀ w ∈ Ws d, ∃ s, sgT.lookup w = some s ∧ ∀ c ∈ s.cps.toList, c = 103 ∨ c = 109 → HF (mir (q + 1)) ns d F B) (m : Int) (g : List MO) (h0 : 0 ≤ m) (h1 : m + 1 + 4 * B ≤ TOP) :
    ∃ (t : D) (m' : Int) (g' : List MO), mir (q + 2) ._law_form [.d (.scr ns), .d (.o 0), .d (.int d)] (sp m g) = .ok (.d t) (sp m' g') ∧ (t ∈ oddL ∨ ∃ w s r r', w ∈ Ws d ∧ sgT.lookup w = some s ∧ Pt F s.cps.toList r ∧ (r' = r ∨ r' = r ++ [held0]) ∧ t = .tup (.str w :: r')) ∧ m ≤ m' ∧ m' ≤ m + 1 + 4 * B := by
  have ht : TOP = 10000000000000 := rfl
  obtain ⟨n, c1, n0⟩ := cell_ok q ns m g hns h0 (by omega)
  have a1 : F1 (mir (q + 1)) ⟨[some (.d (.scr ns)), some (.d (.o 0)), some (.d (.int d)), none, none, none, none, none, none], sp m g⟩ = .ok .nx ⟨[some (.d (.scr ns)), some (.d (.o 0)), some (.d (.int d)), some (.d (.int n)), none, none, none, none, none], sp (m + 1) g⟩ := by
    unfold F1
    walk_at "ey"
    rw [c1]
    walk_at "ey"
  have body : ∀ {s : S} {z : Z (List MO)}, sSeq (F1 (mir (q + 1))) (sSeq (F2 (mir (q + 1))) (sSeq F3 (sSeq F4 (sSeq F5 (sSeq F6 (sSeq (sFor (F7i (mir (q + 1))) (kName 7) (FB (mir (q + 1)))) (sSeq F8 F9))))))) ⟨[some (.d (.scr ns)), some (.d (.o 0)), some (.d (.int d)), none, none, none, none, none, none], sp m g⟩ = .ok (.rt s) z → mir (q + 2) ._law_form [.d (.scr ns), .d (.o 0), .d (.int d)] (sp m g) = .ok s z.m := fun {s z} h => by
    show fnM 9 (m__law_form (mir (q + 1))) [.d (.scr ns), .d (.o 0), .d (.int d)] (sp m g) = _
    unfold F1 F2 F3 F4 F5 F6 F7i FB FG FL FN F8 F9 at h
    unfold m__law_form
    simp only [fnM, List.map_cons, List.map_nil, List.length_cons, List.length_nil, Nat.zero_add, Nat.reduceAdd, Nat.reduceSub, List.replicate, List.cons_append, List.nil_append]
    unfold FG at h
    rw [h]
  by_cases hn : n % 11 = 0
  · obtain ⟨t, ht2, et⟩ := odd_ok q (n / 11) (sp (m + 1) g)
    refine ⟨t, m + 1, g, ?_, .inl ht2, by omega, by omega⟩
    exact body ((seq_nx a1).trans (seq_rt (f2_yes hn et)))
  · obtain ⟨w, hw, a5⟩ := f5_ok (s0 := some (.d (.scr ns))) (s1 := some (.d (.o 0))) (s2 := some (.d (.int d))) (n := n) (d := d) (m := sp (m + 1) g)
    obtain ⟨s, es, hfs⟩ := hs w hw
    obtain ⟨j, ej⟩ := signs_ok q w (m + 1) g
    rw [show sgS w = s from by unfold sgS; rw [es]; rfl] at ej
    obtain ⟨n1, n2, n3, n4, n5⟩ := sg_nf _ (look_mem es)
    obtain ⟨o1, o2, o3⟩ := sg_ok _ (look_mem es)
    simp only at n1 n2 n3 n4 n5 o1 o2 o3
    have nb : (nf s.cps.toList : Int) * (B : Int) ≤ 4 * B := Int.mul_le_mul_of_nonneg_right (by omega) (by omega)
    obtain ⟨r, m', g', s7, ef, pt, q1, q2⟩ := for_signs (call := mir (q + 1)) (ns := ns) (d := d) (n := n) (F := F) (B := B) (s4 := some (.l ((Ws d).map D.str))) (s5 := some (.d (.str w))) s.cps.toList [.str w] (m + 1) (g ++ j) none (fun c hc => of_decide_eq_true (List.all_eq_true.mp o3 c hc)) hfs (by rw [List.length_singleton]; show 1 + _ ≤ 1000000; omega) (by omega) (by omega)
    have pl := pt.len
    obtain ⟨L', hL, a8⟩ := f8_ok (s0 := some (.d (.scr ns))) (s1 := some (.d (.o 0))) (s2 := some (.d (.int d))) (n := n) (s4 := some (.l ((Ws d).map D.str))) (s5 := some (.d (.str w))) (s7 := s7) (L := [.str w] ++ r) (m := sp m' g') (by rw [List.length_append, List.length_singleton]; omega)
    have a6 : F6 ⟨[some (.d (.scr ns)), some (.d (.o 0)), some (.d (.int d)), some (.d (.int n)), some (.l ((Ws d).map D.str)), some (.d (.str w)), none, none, none], sp (m + 1) g⟩ = .ok .nx ⟨[some (.d (.scr ns)), some (.d (.o 0)), some (.d (.int d)), some (.d (.int n)), some (.l ((Ws d).map D.str)), some (.d (.str w)), some (.l [.str w]), none, none], sp (m + 1) g⟩ := by
      unfold F6
      walk_at "ey"
    have a7 : (sFor (F7i (mir (q + 1))) (kName 7) (FB (mir (q + 1))) : Sm MX Out) ⟨[some (.d (.scr ns)), some (.d (.o 0)), some (.d (.int d)), some (.d (.int n)), some (.l ((Ws d).map D.str)), some (.d (.str w)), some (.l [.str w]), none, none], sp (m + 1) g⟩ = .ok .nx ⟨[some (.d (.scr ns)), some (.d (.o 0)), some (.d (.int d)), some (.d (.int n)), some (.l ((Ws d).map D.str)), some (.d (.str w)), some (.l ([.str w] ++ r)), s7, none], sp m' g'⟩ := ci_for (f7_it ej) ef
    have a9 : ∀ X : List D, F9 ⟨[some (.d (.scr ns)), some (.d (.o 0)), some (.d (.int d)), some (.d (.int n)), some (.l ((Ws d).map D.str)), some (.d (.str w)), some (.l X), s7, none], sp m' g'⟩ = .ok (.rt (.d (.tup X))) ⟨[some (.d (.scr ns)), some (.d (.o 0)), some (.d (.int d)), some (.d (.int n)), some (.l ((Ws d).map D.str)), some (.d (.str w)), some (.l X), s7, none], sp m' g'⟩ := fun X => by
      unfold F9
      walk_at "ey"
    have a34 := f34 (s0 := some (.d (.scr ns))) (s1 := some (.d (.o 0))) (s3 := some (.d (.int n))) (d := d) (m := sp (m + 1) g)
    have a3 : ∀ G : Sm MX Out, sSeq F3 (sSeq F4 G) ⟨[some (.d (.scr ns)), some (.d (.o 0)), some (.d (.int d)), some (.d (.int n)), none, none, none, none, none], sp (m + 1) g⟩ = G ⟨[some (.d (.scr ns)), some (.d (.o 0)), some (.d (.int d)), some (.d (.int n)), some (.l ((Ws d).map D.str)), none, none, none, none], sp (m + 1) g⟩ := fun G => by
      have assoc : ∀ (A B G : Sm MX Out) (z : Z (List MO)), sSeq A (sSeq B G) z = sSeq (sSeq A B) G z := fun A B G z => by
        unfold sSeq
        cases A z with
        | ok o z1 => cases o <;> simp only [Rs.bind_ok]
        | ex x z1 => rfl
        | bad => rfl
      rw [assoc, seq_nx a34]
    obtain ⟨r', hr', eL⟩ : ∃ r', (r' = r ∨ r' = r ++ [held0]) ∧ L' = .str w :: r' := by
      rcases hL with rfl | rfl
      · exact ⟨r, .inl rfl, rfl⟩
      · exact ⟨r ++ [held0], .inr rfl, rfl⟩
    refine ⟨.tup L', m', g', ?_, .inr ⟨w, s, r, r', hw, es, pt, hr', by rw [eL]⟩, by omega, by omega⟩
    exact body (by rw [seq_nx a1, seq_nx (f2_no hn), a3, seq_nx a5, seq_nx a6, seq_nx a7, seq_nx a8]; exact a9 L')
theorem ws_P : ∀ w ∈ wordsP, (sgT.lookup w).isSome = true := by decide +kernel
theorem ws_0 : ∀ w ∈ words0, sgT.lookup w = some "n" ∨ sgT.lookup w = some "nn" := by decide +kernel
theorem n_no : ∀ c ∈ ("n" : Str).cps.toList, c ≠ 103 ∧ c ≠ 109 := by decide +kernel
theorem nn_no : ∀ c ∈ ("nn" : Str).cps.toList, c ≠ 103 ∧ c ≠ 109 := by decide +kernel
theorem form_ok (ns : List Int) (hns : ns.length ≤ 1000) : ∀ (d N : Nat) (m : Int) (g : List MO), d + 2 ≤ N → 0 ≤ m → m + Dr d ≤ TOP → ∃ (t : D) (m' : Int) (g' : List MO), mir N ._law_form [.d (.scr ns), .d (.o 0), .d (.int (d : Int))] (sp m g) = .ok (.d t) (sp m' g') ∧ Fm d t ∧ m ≤ m' ∧ m' ≤ m + Dr d
  | 0, N, m, g, hN, h0, h1 => by
    obtain ⟨q, rfl⟩ : ∃ q, N = q + 2 := ⟨N - 2, by omega⟩
    have w0 : Ws ((0 : Nat) : Int) = words0 := rfl
    rw [Dr] at h1 ⊢
    obtain ⟨t, m', g', e, ht, q1, q2⟩ := form_step (q := q) (d := ((0 : Nat) : Int)) (F := fun _ => False) (B := 0) hns (fun w hw => by
      rw [w0] at hw
      rcases ws_0 w hw with e | e
      · exact ⟨_, e, fun c hc h => absurd h (by have := n_no c hc; omega)⟩
      · exact ⟨_, e, fun c hc h => absurd h (by have := nn_no c hc; omega)⟩) m g h0 (by omega)
    refine ⟨t, m', g', e, ?_, q1, by omega⟩
    rcases ht with ht | ⟨w, s, r, r', hw, es, pt, hr, rfl⟩
    · exact fm_odd 0 ht
    · refine fm_form0 es pt ?_ hr
      rw [w0] at hw
      rcases ws_0 w hw with e | e
      · rw [e] at es; cases es; exact n_no
      · rw [e] at es; cases es; exact nn_no
  | d + 1, N, m, g, hN, h0, h1 => by
    obtain ⟨q, rfl⟩ : ∃ q, N = q + 2 := ⟨N - 2, by omega⟩
    rw [Dr] at h1 ⊢
    have hf : HF (mir (q + 1)) ns ((d + 1 : Nat) : Int) (Fm d) (Dr d) := fun m g h0 h1 => by
      obtain ⟨t, m', g', e, f, q1, q2⟩ := form_ok ns hns d (q + 1) m g (by omega) h0 h1
      exact ⟨t, m', g', by rw [show ((d + 1 : Nat) : Int) - 1 = (d : Int) from by omega]; exact e, f, q1, q2⟩
    have w0 : Ws ((d + 1 : Nat) : Int) = wordsP := if_pos (by omega)
    obtain ⟨t, m', g', e, ht, q1, q2⟩ := form_step (q := q) (d := ((d + 1 : Nat) : Int)) (F := Fm d) (B := Dr d) hns (fun w hw => by
      rw [w0] at hw
      obtain ⟨s, es⟩ := Option.isSome_iff_exists.mp (ws_P w hw)
      exact ⟨s, es, fun _ _ _ => hf⟩) m g h0 (by omega)
    refine ⟨t, m', g', e, ?_, q1, by omega⟩
    rcases ht with ht | ⟨w, s, r, r', hw, es, pt, hr, rfl⟩
    · exact fm_odd (d + 1) ht
    · exact fm_form es pt hr
end L
set_option pp.maxSteps 400
set_option pp.deepTerms false
namespace L
open PySem L2 G
local macro_rules | `(tactic| walk_at "ey") => `(tactic| try simp only [sSpot, eSpot, sSeq, sSet, sExpr, sRet, sIf, sAsg, una, escf, escS, opd, eVar, eC, eBin, eUn, eFn, eCall, eTup, eLst, aCons, aNil, fin, rd, rds, R.toS, dsOf, Rs.bind_ok, Rs.bind_bad, Rs.bind_ex, Rs.opt_some, Option.bind_some, Option.map_some, ownAt, eExt, eApp, ePop, List.getElem?_cons_zero, List.getElem?_cons_succ, List.set_cons_zero, List.set_cons_succ, okArg, List.all_cons, List.all_nil, Bool.and_self, if_true, kName, kTup, ksCons, ksNil, fMax, tOf, List.length_cons, List.length_nil, Bool.not_false, Bool.not_true, if_false, Bool.false_eq_true, lm0, lm1, lm2, lm3, lm4, lm5, lm6, lm7, lm8, lm9, lm10, lm11, lm12, fnM, List.map_cons, List.map_nil, List.replicate, List.cons_append, List.nil_append, Nat.reduceAdd, Nat.reduceSub, sNil, tAndM, tOrM, tNotM, tTru, dTru, eIf, dSub_i, dAdd_i, dLt_i, dLe_i, dGt_i, dGe_i, dEq_i, decide_true, decide_false, eChain, eAndM, eSl, oInt, dNeg, fInt, aDef, fTuple])

/-! single grounds, chains of them -/
theorem inn_by {w s : Str} {cs : List Nat} {r : List D} (es : sgT.lookup w = some s) (ec : s.cps.toList = cs) (el : s.cps.size = r.length) (hm : hasM s = false) : innD (.tup (.str w :: r)) = some (gsel cs r) := by
  unfold innD
  simp only [es]
  rw [if_pos el.symm, if_neg (by rw [hm]; exact Bool.false_ne_true), ec]
theorem inn_held (x : D) : innD (.tup [.str "held", x]) = some [] := inn_by (s := "n") (cs := [110]) (by decide +kernel) (by decide +kernel) (by show _ = 1; decide +kernel) (by decide +kernel)
theorem inn_use (x : D) : innD (.tup [.str "use", x]) = some [] := inn_by (s := "n") (cs := [110]) (by decide +kernel) (by decide +kernel) (by show _ = 1; decide +kernel) (by decide +kernel)
theorem inn_twice (x : D) : innD (.tup [.str "twice", x]) = some [x] := inn_by (s := "g") (cs := [103]) (by decide +kernel) (by decide +kernel) (by show _ = 1; decide +kernel) (by decide +kernel)
theorem inn_void (x y : D) : innD (.tup [.str "void", x, y]) = some [x] := inn_by (s := "gn") (cs := [103, 110]) (by decide +kernel) (by decide +kernel) (by show _ = 2; decide +kernel) (by decide +kernel)
theorem inn_take (x y : D) : innD (.tup [.str "take", x, y]) = some [y] := inn_by (s := "ng") (cs := [110, 103]) (by decide +kernel) (by decide +kernel) (by show _ = 2; decide +kernel) (by decide +kernel)
theorem inn_pair (x y : D) : innD (.tup [.str "pair", x, y]) = some [x, y] := inn_by (s := "gg") (cs := [103, 103]) (by decide +kernel) (by decide +kernel) (by show _ = 2; decide +kernel) (by decide +kernel)
theorem inn_cases (x y w : D) : innD (.tup [.str "cases", x, y, w]) = some [x, y, w] := inn_by (s := "ggg") (cs := [103, 103, 103]) (by decide +kernel) (by decide +kernel) (by show _ = 3; decide +kernel) (by decide +kernel)
theorem inn_mem (a b : D) (ys : List D) : innD (.tup [.str "members", a, b, .tup ys]) = some ys := by
  have es : sgT.lookup ("members" : Str) = some ("nnm" : Str) := by decide +kernel
  unfold innD
  simp only [es]
  rw [if_pos (show ([a, b, D.tup ys] : List D).length = ("nnm" : Str).cps.size from by show 3 = _; decide +kernel), if_pos (show hasM "nnm" = true from by decide +kernel)]
  rfl
/-- a tuple whose first thing is no text, or no word, or of another length, is no ground -/
theorem inn_one (x : D) (h : isS x = false) (r : List D) : innD (.tup (x :: r)) = none := by
  cases x <;> first | rfl | (simp [isS] at h)
theorem inn_no (x : D) : innD (.tup [.str "no", x]) = none := by
  have es : sgT.lookup ("no" : Str) = none := by decide +kernel
  unfold innD
  simp only [es]
theorem inn_pair1 (x : D) : innD (.tup [.str "pair", x]) = none := by
  have es : sgT.lookup ("pair" : Str) = some ("gg" : Str) := by decide +kernel
  unfold innD
  simp only [es]
  rw [if_neg (show ¬ ([x] : List D).length = ("gg" : Str).cps.size from by show ¬ 1 = _; decide +kernel)]
theorem cp1 {t x : D} (h : innD t = some [x]) : cnt t = 1 + cnt x ∧ dpt t = 1 + dpt x ∧ pops t = 1 + pops x := by
  rw [cnt_some h, dpt_some h, pops_some h, cnts_cons, cnts_nil, dpts_cons, dpts_nil, popss_cons, popss_nil]
  exact ⟨by omega, by omega, by omega⟩
theorem cp2 {t x y : D} (h : innD t = some [x, y]) : cnt t = 1 + (cnt x + cnt y) ∧ dpt t = 1 + max (dpt x) (dpt y) ∧ pops t = 1 + (pops x + pops y) := by
  rw [cnt_some h, dpt_some h, pops_some h, cnts_cons, cnts_cons, cnts_nil, dpts_cons, dpts_cons, dpts_nil, popss_cons, popss_cons, popss_nil]
  exact ⟨by omega, by omega, by omega⟩
theorem cp3 {t x y w : D} (h : innD t = some [x, y, w]) : cnt t = 1 + (cnt x + cnt y + cnt w) ∧ dpt t = 1 + max (dpt x) (max (dpt y) (dpt w)) ∧ pops t = 1 + (pops x + pops y + pops w) := by
  rw [cnt_some h, dpt_some h, pops_some h, cnts_cons, cnts_cons, cnts_cons, cnts_nil, dpts_cons, dpts_cons, dpts_cons, dpts_nil, popss_cons, popss_cons, popss_cons, popss_nil]
  exact ⟨by omega, by omega, by omega⟩
theorem cp0 {t : D} (h : innD t = some []) : cnt t = 1 ∧ dpt t = 1 ∧ pops t = 1 := by
  rw [cnt_some h, dpt_some h, pops_some h]
  exact ⟨rfl, rfl, rfl⟩
/-- twice, again and again -/
def chT : Nat → D
  | 0 => held0
  | n + 1 => .tup [.str "twice", chT n]
theorem chT_c : ∀ n, cnt (chT n) = n + 1 ∧ dpt (chT n) = n + 1 ∧ pops (chT n) = n + 1
  | 0 => cp0 (inn_held _)
  | n + 1 => by
    obtain ⟨a, b, c⟩ := chT_c n
    obtain ⟨a', b', c'⟩ := cp1 (inn_twice (chT n))
    rw [chT, a', b', c', a, b, c]
    exact ⟨by omega, by omega, by omega⟩
theorem sk_w : PyData.strOk "twice" = true ∧ PyData.strOk "pair" = true ∧ PyData.strOk "held" = true ∧ PyData.strOk "void" = true ∧ PyData.strOk "members" = true ∧ PyData.strOk "s" = true ∧ PyData.strOk "no" = true ∧ PyData.strOk "cases" = true ∧ PyData.strOk "use" = true ∧ PyData.strOk "take" = true := by decide +kernel
theorem held0_gd : gd held0 = true := by decide +kernel
theorem chT_gd : ∀ n, gd (chT n) = true
  | 0 => held0_gd
  | n + 1 => by rw [chT]; simp [gd, gds, chT_gd n, sk_w.1]
/-- pairs of one and the same thing, again and again -/
def chP : Nat → D
  | 0 => held0
  | n + 1 => .tup [.str "pair", chP n, chP n]
theorem chP_c : ∀ n, cnt (chP n) + 1 = 2 ^ (n + 1) ∧ dpt (chP n) = n + 1 ∧ pops (chP n) = cnt (chP n)
  | 0 => by obtain ⟨a, b, c⟩ := cp0 (inn_held (.int 0)); rw [chP]; unfold held0; rw [a, b, c]; exact ⟨rfl, rfl, rfl⟩
  | n + 1 => by
    obtain ⟨a, b, c⟩ := chP_c n
    obtain ⟨a', b', c'⟩ := cp2 (inn_pair (chP n) (chP n))
    rw [chP, a', b', c', b, c, Nat.pow_succ]
    exact ⟨by omega, by omega, by omega⟩
theorem chP_gd : ∀ n, gd (chP n) = true
  | 0 => held0_gd
  | n + 1 => by rw [chP]; simp [gd, gds, chP_gd n, sk_w.2.1]
end L
set_option pp.maxSteps 400
set_option pp.deepTerms false
namespace L
open PySem L2 G
local macro_rules | `(tactic| walk_at "ey") => `(tactic| try simp only [sSpot, eSpot, sSeq, sSet, sExpr, sRet, sIf, sAsg, una, escf, escS, opd, eVar, eC, eBin, eUn, eFn, eCall, eTup, eLst, aCons, aNil, fin, rd, rds, R.toS, dsOf, Rs.bind_ok, Rs.bind_bad, Rs.bind_ex, Rs.opt_some, Option.bind_some, Option.map_some, ownAt, eExt, eApp, ePop, List.getElem?_cons_zero, List.getElem?_cons_succ, List.set_cons_zero, List.set_cons_succ, okArg, List.all_cons, List.all_nil, Bool.and_self, if_true, kName, kTup, ksCons, ksNil, tOf, List.length_cons, List.length_nil, Bool.not_false, Bool.not_true, if_false, Bool.false_eq_true, lm0, lm1, lm2, lm3, lm4, lm5, lm6, lm7, lm8, lm9, lm10, lm11, lm12, fnM, List.map_cons, List.map_nil, List.replicate, List.cons_append, List.nil_append, Nat.reduceAdd, Nat.reduceSub, sNil, tAndM, tOrM, tNotM, tTru, dTru, eIf, dSub_i, dAdd_i, dLt_i, dLe_i, dGt_i, dGe_i, dEq_i, decide_true, decide_false, eChain, eAndM, eSl, oInt, dNeg, fInt, aDef, fTuple])

/-! grounds of a told count -/
def SL (call : Fn → List S → List MO → Rs S (List MO)) (K : Int) : Sm MX S := eLc (iRg1M (aCons (opd (eC (.int K))) aNil)) (kName 5) (fun z => .ok true z) (eCall (call ._law_sized) (aCons (escf (eBin dFdiv (eBin dAdd (eBin dSub (eVar 0) (eC (.int 1))) (eVar 5)) (eC (.int K)))) (aCons (escf (eBin dAdd (eBin dFdiv (eVar 1) (eC (.int 3))) (eVar 5))) aNil))) [5]
def S1e : Sm MX S := eLc (iAnyM (eVar 3)) (kTup 2 (ksCons (kName 6) (ksCons (kName 7) ksNil))) (fun z => .ok true z) (eVar 6) [6, 7]
def S2e : Sm MX S := eLc (iAnyM (eVar 3)) (kTup 2 (ksCons (kName 6) (ksCons (kName 7) ksNil))) (fun z => .ok true z) (eVar 7) [6, 7]
def pe (p : D × Nat) : D := .tup [p.1, .int (p.2 : Int)]
theorem sl_it {j : Int} (h0 : 0 ≤ j) (h1 : j ≤ 1000000) {z : Z (List MO)} : (iRg1M (aCons (opd (eC (.int j))) aNil) : Sm MX (List D)) z = .ok (rangeD 0 j.toNat) z := by
  simp only [iRg1M]
  walk_at "ey"
  rw [if_pos (rg_lim h0 h1)]
theorem sl_ok {call : Fn → List S → List MO → Rs S (List MO)} {c n : Int} {K : Nat} {s2 s3 s4 : Option S} {m : List MO} (g : Nat → D) (hk : 0 < K) (hK : K ≤ 1000) (h : ∀ i < K, call ._law_sized [.d (.int ((c - 1 + (i : Int)) / (K : Int))), .d (.int (n / 3 + (i : Int)))] m = .ok (.d (g i)) m) :
    SL call K ⟨[some (.d (.int c)), some (.d (.int n)), s2, s3, s4, none, none, none], m⟩ = .ok (.l ((List.range K).map g)) ⟨[some (.d (.int c)), some (.d (.int n)), s2, s3, s4, none, none, none], m⟩ := by
  have it : (iRg1M (aCons (opd (eC (.int K))) aNil) : Sm MX (List D)) ⟨[some (.d (.int c)), some (.d (.int n)), s2, s3, s4, none, none, none], m⟩ = .ok ((List.range K).map fun i : Nat => D.int (0 + (i : Int))) ⟨[some (.d (.int c)), some (.d (.int n)), s2, s3, s4, none, none, none], m⟩ := by
    rw [sl_it (by omega) (by omega), Int.toNat_natCast]
    rfl
  refine elc_map (en := fun i : Nat => D.int (0 + (i : Int))) it rfl (by rw [List.length_range]; show K ≤ 1000000; omega) (fun i hi => ?_)
  · have hi := List.mem_range.mp hi
    walk_at "ey"
    rw [divA _ _ (by omega)]
    walk_at "ey"
    rw [divA _ _ (by omega)]
    walk_at "ey"
    rw [show (0 : Int) + (i : Int) = (i : Int) from by omega, h i hi]
    walk_at "ey"
theorem s1_ok {ps : List (D × Nat)} {s0 s1 s2 s3 s4 s5 : Option S} {m : List MO} (h3 : s3 = some (.l (ps.map pe)) ∨ s3 = some (.d (.lst (ps.map pe)))) (hl : ps.length ≤ lim) : S1e ⟨[s0, s1, s2, s3, s4, s5, none, none], m⟩ = .ok (.l (ps.map fun p => p.1)) ⟨[s0, s1, s2, some (.d (.lst (ps.map pe))), s4, s5, none, none], m⟩ := by
  refine elc_mapK (en := pe) ?_ rfl rfl rfl hl (fun p hp => ⟨⟨[s0, s1, s2, some (.d (.lst (ps.map pe))), s4, s5, some (.d p.1), some (.d (.int (p.2 : Int)))], m⟩, _, rfl, by walk_at "ey"; rfl, rfl⟩)
  rcases h3 with rfl | rfl <;> (simp only [iAnyM]; walk_at "ey"; rfl)
theorem s2_ok {ps : List (D × Nat)} {s0 s1 s2 s3 s4 s5 : Option S} {m : List MO} (h3 : s3 = some (.l (ps.map pe)) ∨ s3 = some (.d (.lst (ps.map pe)))) (hl : ps.length ≤ lim) : S2e ⟨[s0, s1, s2, s3, s4, s5, none, none], m⟩ = .ok (.l (ps.map fun p => .int (p.2 : Int))) ⟨[s0, s1, s2, some (.d (.lst (ps.map pe))), s4, s5, none, none], m⟩ := by
  refine elc_mapK (en := pe) ?_ rfl rfl rfl hl (fun p hp => ⟨⟨[s0, s1, s2, some (.d (.lst (ps.map pe))), s4, s5, some (.d p.1), some (.d (.int (p.2 : Int)))], m⟩, _, rfl, by walk_at "ey"; rfl, rfl⟩)
  rcases h3 with rfl | rfl <;> (simp only [iAnyM]; walk_at "ey"; rfl)
def Z1 : Sm MX Out := sIf (tOf (eBin dLt (eVar 0) (eC (.int 3)))) (sRet (eBin dIx (eLst (aCons (escf (eTup (aCons (escf (eTup (aCons (escf (eC (.str "held"))) (aCons (escf (eBin dMod (eVar 1) (eC (.int 9)))) aNil)))) (aCons (escf (eC (.int 1))) aNil)))) (aCons (escf (eTup (aCons (escf (eTup (aCons (escf (eC (.str "twice"))) (aCons (escf (eTup (aCons (escf (eC (.str "held"))) (aCons (escf (eC (.int 0))) aNil)))) aNil)))) (aCons (escf (eC (.int 2))) aNil)))) aNil))) (eBin dSub (eVar 0) (eC (.int 1))))) sNil
def ZR3 : Sm MX Out := sRet (eTup (aCons (escf (eBin dAdd (eTup (aCons (escf (eC (.str "cases"))) aNil)) (eFn fTuple (aCons (opd S1e) aNil)))) (aCons (escf (eBin dAdd (eC (.int 1)) (eFn fMax (aCons (opd S2e) aNil)))) aNil)))
def ZR2 : Sm MX Out := sRet (eTup (aCons (escf (eIf (tOf (eBin dLt (eVar 2) (eC (.int 2)))) (eBin dAdd (eTup (aCons (escf (eC (.str "pair"))) aNil)) (eVar 4)) (eTup (aCons (escf (eC (.str "members"))) (aCons (escf (eC (.str "s"))) (aCons (escf (eTup (aCons (escf (eC (.str "no"))) aNil))) (aCons (escf (eVar 4)) aNil))))))) (aCons (escf (eBin dAdd (eC (.int 1)) (eFn fMax (aCons (opd S2e) aNil)))) aNil)))
theorem dAdd_t {xs ys : List D} (h : xs.length + ys.length ≤ lim) : dAdd (.tup xs) (.tup ys) = some (.t (xs ++ ys)) := by
  unfold dAdd
  exact if_pos h
theorem max3 (a b c : Nat) : fMax [.lst [.int (a : Int), .int (b : Int), .int (c : Int)]] = some (.d (.int ((max a (max b c) : Nat) : Int))) := by
  show some (R.d (.int (maxL [(a : Int), (b : Int), (c : Int)]))) = _
  unfold maxL
  unfold maxL
  unfold maxL
  congr 3
  split <;> split <;> omega
theorem max2 (a b : Nat) : fMax [.lst [.int (a : Int), .int (b : Int)]] = some (.d (.int ((max a b : Nat) : Int))) := by
  show some (R.d (.int (maxL [(a : Int), (b : Int)]))) = _
  unfold maxL
  unfold maxL
  congr 3
  split <;> omega
theorem zr3_ok {x y w : D} {a b c : Nat} {s0 s1 s2 : Option S} {m : List MO} : ∃ z, ZR3 ⟨[s0, s1, s2, some (.l ([(x, a), (y, b), (w, c)].map pe)), none, none, none, none], m⟩ = .ok (.rt (.d (.tup [.tup [.str "cases", x, y, w], .int (((1 + max a (max b c) : Nat)) : Int)]))) z ∧ z.m = m := by
  refine ⟨⟨[s0, s1, s2, some (.d (.lst ([(x, a), (y, b), (w, c)].map pe))), none, none, none, none], m⟩, ?_, rfl⟩
  unfold ZR3
  walk_at "ey"
  rw [show some (S.l [pe (x, a), pe (y, b), pe (w, c)]) = some (S.l ([(x, a), (y, b), (w, c)].map pe)) from rfl, s1_ok (.inl rfl) (by show 3 ≤ 1000000; omega)]
  walk_at "ey"
  rw [dAdd_t (by show 1 + 3 ≤ 1000000; omega)]
  walk_at "ey"
  rw [show some (S.d (.lst [pe (x, a), pe (y, b), pe (w, c)])) = some (S.d (.lst ([(x, a), (y, b), (w, c)].map pe))) from rfl, s2_ok (.inr rfl) (by show 3 ≤ 1000000; omega)]
  walk_at "ey"
  rw [max3]
  walk_at "ey"
  rw [show (1 : Int) + ((max a (max b c) : Nat) : Int) = ((1 + max a (max b c) : Nat) : Int) from by omega]
end L
set_option pp.maxSteps 400
set_option pp.deepTerms false
namespace L
open PySem L2 G
local macro_rules | `(tactic| walk_at "ey") => `(tactic| try simp only [sSpot, eSpot, sSeq, sSet, sExpr, sRet, sIf, sAsg, una, escf, escS, opd, eVar, eC, eBin, eUn, eFn, eCall, eTup, eLst, aCons, aNil, fin, rd, rds, R.toS, dsOf, Rs.bind_ok, Rs.bind_bad, Rs.bind_ex, Rs.opt_some, Option.bind_some, Option.map_some, ownAt, eExt, eApp, ePop, List.getElem?_cons_zero, List.getElem?_cons_succ, List.set_cons_zero, List.set_cons_succ, okArg, List.all_cons, List.all_nil, Bool.and_self, if_true, kName, kTup, ksCons, ksNil, tOf, List.length_cons, List.length_nil, Bool.not_false, Bool.not_true, if_false, Bool.false_eq_true, lm0, lm1, lm2, lm3, lm4, lm5, lm6, lm7, lm8, lm9, lm10, lm11, lm12, fnM, List.map_cons, List.map_nil, List.replicate, List.cons_append, List.nil_append, Nat.reduceAdd, Nat.reduceSub, sNil, tAndM, tOrM, tNotM, tTru, dTru, eIf, dSub_i, dAdd_i, dLt_i, dLe_i, dGt_i, dGe_i, dEq_i, decide_true, decide_false, eChain, eAndM, eSl, oInt, dNeg, fInt, aDef, fTuple])

/-! _law_sized whole -/
theorem zr2_ok {x y : D} {a b : Nat} {v : Int} {s0 s1 : Option S} {m : List MO} : ∃ z, ZR2 ⟨[s0, s1, some (.d (.int v)), some (.d (.lst ([(x, a), (y, b)].map pe))), some (.d (.tup [x, y])), none, none, none], m⟩ = .ok (.rt (.d (.tup [if v < 2 then .tup [.str "pair", x, y] else .tup [.str "members", .str "s", .tup [.str "no"], .tup [x, y]], .int (((1 + max a b : Nat)) : Int)]))) z ∧ z.m = m := by
  refine ⟨⟨[s0, s1, some (.d (.int v)), some (.d (.lst ([(x, a), (y, b)].map pe))), some (.d (.tup [x, y])), none, none, none], m⟩, ?_, rfl⟩
  have e2 := s2_ok (ps := [(x, a), (y, b)]) (s0 := s0) (s1 := s1) (s2 := some (.d (.int v))) (s4 := some (.d (.tup [x, y]))) (s5 := none) (m := m) (.inr rfl) (by show 2 ≤ 1000000; omega)
  simp only [List.map_cons, List.map_nil] at e2 ⊢
  unfold ZR2
  by_cases c : v < 2
  · walk_at "ey"
    simp only [c, if_true]
    walk_at "ey"
    rw [dAdd_t (by show 1 + 2 ≤ 1000000; omega)]
    walk_at "ey"
    rw [e2]
    walk_at "ey"
    rw [max2]
    walk_at "ey"
    rw [show (1 : Int) + ((max a b : Nat) : Int) = ((1 + max a b : Nat) : Int) from by omega]
  · walk_at "ey"
    simp only [c, if_false]
    walk_at "ey"
    rw [e2]
    walk_at "ey"
    rw [max2]
    walk_at "ey"
    rw [show (1 : Int) + ((max a b : Nat) : Int) = ((1 + max a b : Nat) : Int) from by omega]
def Sz (t : D) (c e : Nat) : Prop := gd t = true ∧ cnt t = c ∧ dpt t = e ∧ pops t = c
theorem sz_held (x : Int) : Sz (.tup [.str "held", .int x]) 1 1 := by
  obtain ⟨a, b, c⟩ := cp0 (inn_held (.int x))
  exact ⟨by simp [gd, gds, sk_w.2.2.1], a, b, c⟩
theorem sz_twice {t : D} {c e : Nat} (h : Sz t c e) : Sz (.tup [.str "twice", t]) (1 + c) (1 + e) := by
  obtain ⟨g, a, b, p⟩ := h
  obtain ⟨a', b', p'⟩ := cp1 (inn_twice t)
  exact ⟨by simp [gd, gds, g, sk_w.1], by omega, by omega, by omega⟩
theorem sz_pair {t u : D} {c e c2 e2 : Nat} (h : Sz t c e) (h2 : Sz u c2 e2) : Sz (.tup [.str "pair", t, u]) (1 + (c + c2)) (1 + max e e2) := by
  obtain ⟨g, a, b, p⟩ := h
  obtain ⟨g2, a2, b2, p2⟩ := h2
  obtain ⟨a', b', p'⟩ := cp2 (inn_pair t u)
  exact ⟨by simp [gd, gds, g, g2, sk_w.2.1], by omega, by omega, by omega⟩
theorem sz_mem {t u : D} {c e c2 e2 : Nat} (h : Sz t c e) (h2 : Sz u c2 e2) : Sz (.tup [.str "members", .str "s", .tup [.str "no"], .tup [t, u]]) (1 + (c + c2)) (1 + max e e2) := by
  obtain ⟨g, a, b, p⟩ := h
  obtain ⟨g2, a2, b2, p2⟩ := h2
  obtain ⟨a', b', p'⟩ := cp2 (inn_mem (.str "s") (.tup [.str "no"]) [t, u])
  obtain ⟨_, _, _, _, k1, k2, k3, _⟩ := sk_w
  exact ⟨by simp [gd, gds, g, g2, k1, k2, k3], by omega, by omega, by omega⟩
theorem sz_cases {t u w : D} {c e c2 e2 c3 e3 : Nat} (h : Sz t c e) (h2 : Sz u c2 e2) (h3 : Sz w c3 e3) : Sz (.tup [.str "cases", t, u, w]) (1 + (c + c2 + c3)) (1 + max e (max e2 e3)) := by
  obtain ⟨g, a, b, p⟩ := h
  obtain ⟨g2, a2, b2, p2⟩ := h2
  obtain ⟨g3, a3, b3, p3⟩ := h3
  obtain ⟨a', b', p'⟩ := cp3 (inn_cases t u w)
  obtain ⟨_, _, _, _, _, _, _, k1, _⟩ := sk_w
  exact ⟨by simp [gd, gds, g, g2, g3, k1], by omega, by omega, by omega⟩
theorem z1_no {c : Int} {r : List (Option S)} {m : List MO} (h : ¬ c < 3) : Z1 ⟨some (.d (.int c)) :: r, m⟩ = .ok .nx ⟨some (.d (.int c)) :: r, m⟩ := by
  unfold Z1
  walk_at "ey"
  simp only [h]
  walk_at "ey"
theorem z1_one {n : Int} {r : List (Option S)} {m : List MO} : Z1 ⟨some (.d (.int 1)) :: some (.d (.int n)) :: r, m⟩ = .ok (.rt (.d (.tup [.tup [.str "held", .int (n % 9)], .int 1]))) ⟨some (.d (.int 1)) :: some (.d (.int n)) :: r, m⟩ := by
  unfold Z1
  walk_at "ey"
  simp only [show (1 : Int) < 3 from by omega]
  walk_at "ey"
  rw [modA _ _ (by omega)]
  walk_at "ey"
  rfl
theorem z1_two {n : Int} {r : List (Option S)} {m : List MO} : Z1 ⟨some (.d (.int 2)) :: some (.d (.int n)) :: r, m⟩ = .ok (.rt (.d (.tup [.tup [.str "twice", held0], .int 2]))) ⟨some (.d (.int 2)) :: some (.d (.int n)) :: r, m⟩ := by
  unfold Z1
  walk_at "ey"
  simp only [show (2 : Int) < 3 from by omega]
  walk_at "ey"
  rw [modA _ _ (by omega)]
  walk_at "ey"
  rfl
end L
set_option pp.maxSteps 400
set_option pp.deepTerms false
namespace L
open PySem L2 G
local macro_rules | `(tactic| walk_at "ey") => `(tactic| try simp only [sSpot, eSpot, sSeq, sSet, sExpr, sRet, sIf, sAsg, una, escf, escS, opd, eVar, eC, eBin, eUn, eFn, eCall, eTup, eLst, aCons, aNil, fin, rd, rds, R.toS, dsOf, Rs.bind_ok, Rs.bind_bad, Rs.bind_ex, Rs.opt_some, Option.bind_some, Option.map_some, ownAt, eExt, eApp, ePop, List.getElem?_cons_zero, List.getElem?_cons_succ, List.set_cons_zero, List.set_cons_succ, okArg, List.all_cons, List.all_nil, Bool.and_self, if_true, kName, kTup, ksCons, ksNil, tOf, List.length_cons, List.length_nil, Bool.not_false, Bool.not_true, if_false, Bool.false_eq_true, lm0, lm1, lm2, lm3, lm4, lm5, lm6, lm7, lm8, lm9, lm10, lm11, lm12, fnM, List.map_cons, List.map_nil, List.replicate, List.cons_append, List.nil_append, Nat.reduceAdd, Nat.reduceSub, sNil, tAndM, tOrM, tNotM, tTru, dTru, eIf, dSub_i, dAdd_i, dLt_i, dLe_i, dGt_i, dGe_i, dEq_i, decide_true, decide_false, eChain, eAndM, eSl, oInt, dNeg, fInt, aDef, fTuple])

/-! _law_sized -/
def ZT : Sm MX Bool := tAndM (tOf (eBin dEq (eVar 2) (eC (.int 0)))) (tOf (eBin dGt (eVar 0) (eC (.int 4))))
theorem zt_ok {c v : Int} {s1 : Option S} {r : List (Option S)} {m : List MO} : ZT ⟨some (.d (.int c)) :: s1 :: some (.d (.int v)) :: r, m⟩ = .ok (decide (v = 0 ∧ 4 < c)) ⟨some (.d (.int c)) :: s1 :: some (.d (.int v)) :: r, m⟩ := by
  unfold ZT
  walk_at "ey"
  by_cases h : v = 0
  · simp only [h]
    walk_at "ey"
    by_cases h2 : 4 < c <;> simp [h2]
  · simp only [h]
    walk_at "ey"
    simp
theorem sized_gen {call : Fn → List S → List MO → Rs S (List MO)} {c n : Int} {m : List MO} {Q : D → Prop} (h3 : ¬ c < 3) (yes : n % 3 = 0 ∧ 4 < c → ∃ z t, (sSeq (sSet 3 (SL call 3)) ZR3 : Sm MX Out) ⟨[some (.d (.int c)), some (.d (.int n)), some (.d (.int (n % 3))), none, none, none, none, none], m⟩ = .ok (.rt (.d t)) z ∧ z.m = m ∧ Q t)
    (no : ∃ z t, (sSeq (sSet 3 (SL call 2)) (sSeq (sSet 4 (eFn fTuple (aCons (opd S1e) aNil))) ZR2) : Sm MX Out) ⟨[some (.d (.int c)), some (.d (.int n)), some (.d (.int (n % 3))), none, none, none, none, none], m⟩ = .ok (.rt (.d t)) z ∧ z.m = m ∧ Q t) :
    ∃ t, fnM 8 (sSeq Z1 (sSeq (sSet 2 (eBin dMod (eVar 1) (eC (.int 3)))) (sSeq (sIf ZT (sSeq (sSet 3 (SL call 3)) ZR3) sNil) (sSeq (sSet 3 (SL call 2)) (sSeq (sSet 4 (eFn fTuple (aCons (opd S1e) aNil))) ZR2))))) [.d (.int c), .d (.int n)] m = .ok (.d t) m ∧ Q t := by
  have a2 : (sSet 2 (eBin dMod (eVar 1) (eC (.int 3))) : Sm MX Out) ⟨[some (.d (.int c)), some (.d (.int n)), none, none, none, none, none, none], m⟩ = .ok .nx ⟨[some (.d (.int c)), some (.d (.int n)), some (.d (.int (n % 3))), none, none, none, none, none], m⟩ := by
    walk_at "ey"
    rw [modA _ _ (by omega)]
    walk_at "ey"
  have fin : ∀ {B : Sm MX Out} {z t}, B ⟨[some (.d (.int c)), some (.d (.int n)), none, none, none, none, none, none], m⟩ = .ok (.rt (.d t)) z → z.m = m → fnM 8 B [.d (.int c), .d (.int n)] m = .ok (.d t) m := fun {B z t} h hm => by
    simp only [fnM, List.map_cons, List.map_nil, List.length_cons, List.length_nil, Nat.zero_add, Nat.reduceAdd, Nat.reduceSub, List.replicate, List.cons_append, List.nil_append]
    rw [h]
    show Rs.ok (S.d t) z.m = _
    rw [hm]
  by_cases h : n % 3 = 0 ∧ 4 < c
  · obtain ⟨z, t, e, em, q⟩ := yes h
    refine ⟨t, fin (z := z) ?_ em, q⟩
    rw [seq_nx (z1_no h3), seq_nx a2]
    refine seq_rt ?_
    simp only [sIf]
    rw [zt_ok, Rs.bind_ok, if_pos (decide_eq_true h)]
    exact e
  · obtain ⟨z, t, e, em, q⟩ := no
    refine ⟨t, fin (z := z) ?_ em, q⟩
    rw [seq_nx (z1_no h3), seq_nx a2]
    have en : ∀ X : Sm MX Out, (sIf ZT X sNil : Sm MX Out) ⟨[some (.d (.int c)), some (.d (.int n)), some (.d (.int (n % 3))), none, none, none, none, none], m⟩ = .ok .nx ⟨[some (.d (.int c)), some (.d (.int n)), some (.d (.int (n % 3))), none, none, none, none, none], m⟩ := fun X => by
      simp only [sIf]
      rw [zt_ok, Rs.bind_ok, if_neg (by simpa using h)]
      rfl
    rw [seq_nx (en _)]
    exact e
theorem sz_one {q : Nat} {n : Int} {m : List MO} : mir (q + 1) ._law_sized [.d (.int ((1 : Nat) : Int)), .d (.int n)] m = .ok (.d (.tup [.tup [.str "held", .int (n % 9)], .int ((1 : Nat) : Int)])) m := by
  show fnM 8 (m__law_sized (mir q)) [.d (.int 1), .d (.int n)] m = _
  unfold m__law_sized
  simp only [fnM, List.map_cons, List.map_nil, List.length_cons, List.length_nil, Nat.zero_add, Nat.reduceAdd, Nat.reduceSub, List.replicate, List.cons_append, List.nil_append]
  have e := z1_one (n := n) (r := [none, none, none, none, none, none]) (m := m)
  unfold Z1 at e
  rw [seq_rt e]
  rfl
theorem sz_two {q : Nat} {n : Int} {m : List MO} : mir (q + 1) ._law_sized [.d (.int ((2 : Nat) : Int)), .d (.int n)] m = .ok (.d (.tup [.tup [.str "twice", held0], .int ((2 : Nat) : Int)])) m := by
  show fnM 8 (m__law_sized (mir q)) [.d (.int 2), .d (.int n)] m = _
  unfold m__law_sized
  simp only [fnM, List.map_cons, List.map_nil, List.length_cons, List.length_nil, Nat.zero_add, Nat.reduceAdd, Nat.reduceSub, List.replicate, List.cons_append, List.nil_append]
  have e := z1_two (n := n) (r := [none, none, none, none, none, none]) (m := m)
  unfold Z1 at e
  rw [seq_rt e]
  rfl
theorem sized_ok : ∀ (k c : Nat) (n : Int) (N : Nat) (m : List MO), 1 ≤ c → c ≤ 2 ^ (k + 1) → k + 1 ≤ N → ∃ (t : D) (e : Nat), mir N ._law_sized [.d (.int (c : Int)), .d (.int n)] m = .ok (.d (.tup [t, .int (e : Int)])) m ∧ Sz t c e ∧ e ≤ k + 2 := by
  intro k
  induction k with
  | zero =>
    intro c n N m h1 h2 hN
    obtain ⟨q, rfl⟩ : ∃ q, N = q + 1 := ⟨N - 1, by omega⟩
    have h2 : c ≤ 2 := h2
    rcases (by omega : c = 1 ∨ c = 2) with rfl | rfl
    · exact ⟨_, 1, sz_one, sz_held _, by omega⟩
    · exact ⟨_, 2, sz_two, sz_twice (sz_held 0), by omega⟩
  | succ k ih =>
    intro c n N m h1 h2 hN
    obtain ⟨q, rfl⟩ : ∃ q, N = q + 1 := ⟨N - 1, by omega⟩
    by_cases c3 : c < 3
    · rcases (by omega : c = 1 ∨ c = 2) with rfl | rfl
      · exact ⟨_, 1, sz_one, sz_held _, by omega⟩
      · exact ⟨_, 2, sz_two, sz_twice (sz_held 0), by omega⟩
    · rw [Nat.pow_succ] at h2
      obtain ⟨t0, e0, k0, z0, w0⟩ := ih ((c - 1) / 2) (n / 3 + ((0 : Nat) : Int)) q m (by omega) (by omega) (by omega)
      obtain ⟨t1, e1, k1, z1, w1⟩ := ih (c / 2) (n / 3 + ((1 : Nat) : Int)) q m (by omega) (by omega) (by omega)
      obtain ⟨t, et, u, e, es, hz, hw⟩ := sized_gen (call := mir q) (c := (c : Int)) (n := n) (m := m) (Q := fun t => ∃ (u : D) (e : Nat), t = .tup [u, .int (e : Int)] ∧ Sz u c e ∧ e ≤ k + 1 + 2) (by omega) (fun ⟨v0, c4⟩ => by
        obtain ⟨u0, f0, l0, y0, x0⟩ := ih ((c - 1) / 3) (n / 3 + ((0 : Nat) : Int)) q m (by omega) (by omega) (by omega)
        obtain ⟨u1, f1, l1, y1, x1⟩ := ih (c / 3) (n / 3 + ((1 : Nat) : Int)) q m (by omega) (by omega) (by omega)
        obtain ⟨u2, f2, l2, y2, x2⟩ := ih ((c + 1) / 3) (n / 3 + ((2 : Nat) : Int)) q m (by omega) (by omega) (by omega)
        have sl := sl_ok (call := mir q) (c := (c : Int)) (n := n) (K := 3) (s2 := some (.d (.int (n % 3)))) (s3 := none) (s4 := none) (m := m) (fun i => match i with
          | 0 => pe (u0, f0)
          | 1 => pe (u1, f1)
          | _ => pe (u2, f2)) (by omega) (by omega) (fun i hi => by
            rcases (by omega : i = 0 ∨ i = 1 ∨ i = 2) with rfl | rfl | rfl
            · rw [show ((c : Int) - 1 + ((0 : Nat) : Int)) / ((3 : Nat) : Int) = (((c - 1) / 3 : Nat) : Int) from by omega]; exact l0
            · rw [show ((c : Int) - 1 + ((1 : Nat) : Int)) / ((3 : Nat) : Int) = ((c / 3 : Nat) : Int) from by omega]; exact l1
            · rw [show ((c : Int) - 1 + ((2 : Nat) : Int)) / ((3 : Nat) : Int) = (((c + 1) / 3 : Nat) : Int) from by omega]; exact l2)
        have a3 : (sSet 3 (SL (mir q) 3) : Sm MX Out) ⟨[some (.d (.int (c : Int))), some (.d (.int n)), some (.d (.int (n % 3))), none, none, none, none, none], m⟩ = .ok .nx ⟨[some (.d (.int (c : Int))), some (.d (.int n)), some (.d (.int (n % 3))), some (.l ([(u0, f0), (u1, f1), (u2, f2)].map pe)), none, none, none, none], m⟩ := by
          simp only [sSet, una]
          rw [show SL (mir q) 3 = SL (mir q) ((3 : Nat) : Int) from rfl, sl]
          rfl
        obtain ⟨z, ez, em⟩ := zr3_ok (x := u0) (y := u1) (w := u2) (a := f0) (b := f1) (c := f2) (s0 := some (.d (.int (c : Int)))) (s1 := some (.d (.int n))) (s2 := some (.d (.int (n % 3)))) (m := m)
        have sz := sz_cases y0 y1 y2
        rw [show 1 + ((c - 1) / 3 + c / 3 + (c + 1) / 3) = c from by omega] at sz
        exact ⟨z, _, (seq_nx a3).trans ez, em, _, _, rfl, sz, by omega⟩) (by
        have sl := sl_ok (call := mir q) (c := (c : Int)) (n := n) (K := 2) (s2 := some (.d (.int (n % 3)))) (s3 := none) (s4 := none) (m := m) (fun i => match i with
          | 0 => pe (t0, e0)
          | _ => pe (t1, e1)) (by omega) (by omega) (fun i hi => by
            rcases (by omega : i = 0 ∨ i = 1) with rfl | rfl
            · rw [show ((c : Int) - 1 + ((0 : Nat) : Int)) / ((2 : Nat) : Int) = (((c - 1) / 2 : Nat) : Int) from by omega]; exact k0
            · rw [show ((c : Int) - 1 + ((1 : Nat) : Int)) / ((2 : Nat) : Int) = ((c / 2 : Nat) : Int) from by omega]; exact k1)
        have a3 : (sSet 3 (SL (mir q) 2) : Sm MX Out) ⟨[some (.d (.int (c : Int))), some (.d (.int n)), some (.d (.int (n % 3))), none, none, none, none, none], m⟩ = .ok .nx ⟨[some (.d (.int (c : Int))), some (.d (.int n)), some (.d (.int (n % 3))), some (.l ([(t0, e0), (t1, e1)].map pe)), none, none, none, none], m⟩ := by
          simp only [sSet, una]
          rw [show SL (mir q) 2 = SL (mir q) ((2 : Nat) : Int) from rfl, sl]
          rfl
        have a4 : (sSet 4 (eFn fTuple (aCons (opd S1e) aNil)) : Sm MX Out) ⟨[some (.d (.int (c : Int))), some (.d (.int n)), some (.d (.int (n % 3))), some (.l ([(t0, e0), (t1, e1)].map pe)), none, none, none, none], m⟩ = .ok .nx ⟨[some (.d (.int (c : Int))), some (.d (.int n)), some (.d (.int (n % 3))), some (.d (.lst ([(t0, e0), (t1, e1)].map pe))), some (.d (.tup [t0, t1])), none, none, none], m⟩ := by
          have e1 := s1_ok (ps := [(t0, e0), (t1, e1)]) (s0 := some (.d (.int (c : Int)))) (s1 := some (.d (.int n))) (s2 := some (.d (.int (n % 3)))) (s4 := none) (s5 := none) (m := m) (.inl rfl) (by show 2 ≤ 1000000; omega)
          simp only [sSet, una, eFn, aCons, opd]
          rw [e1]
          rfl
        obtain ⟨z, ez, em⟩ := zr2_ok (x := t0) (y := t1) (a := e0) (b := e1) (v := n % 3) (s0 := some (.d (.int (c : Int)))) (s1 := some (.d (.int n))) (m := m)
        refine ⟨z, _, (seq_nx a3).trans ((seq_nx a4).trans ez), em, _, _, rfl, ?_, by omega⟩
        have eC : 1 + ((c - 1) / 2 + c / 2) = c := by omega
        split
        · have sz := sz_pair z0 z1; rwa [eC] at sz
        · have sz := sz_mem z0 z1; rwa [eC] at sz)
      subst es
      refine ⟨u, e, ?_, hz, hw⟩
      show fnM 8 (m__law_sized (mir q)) [.d (.int (c : Int)), .d (.int n)] m = _
      simp only [Z1, ZT, SL, S1e, ZR3, ZR2, S2e] at et
      unfold m__law_sized
      exact et
end L
set_option pp.maxSteps 400
set_option pp.deepTerms false
namespace L
open PySem L2 G
local macro_rules | `(tactic| walk_at "ey") => `(tactic| try simp only [sSpot, eSpot, sSeq, sSet, sExpr, sRet, sIf, sAsg, una, escf, escS, opd, eVar, eC, eBin, eUn, eFn, eCall, eTup, eLst, aCons, aNil, fin, rd, rds, R.toS, dsOf, Rs.bind_ok, Rs.bind_bad, Rs.bind_ex, Rs.opt_some, Option.bind_some, Option.map_some, ownAt, eExt, eApp, ePop, List.getElem?_cons_zero, List.getElem?_cons_succ, List.set_cons_zero, List.set_cons_succ, okArg, List.all_cons, List.all_nil, Bool.and_self, if_true, kName, kTup, ksCons, ksNil, fMax, tOf, List.length_cons, List.length_nil, Bool.not_false, Bool.not_true, if_false, Bool.false_eq_true, lm0, lm1, lm2, lm3, lm4, lm5, lm6, lm7, lm8, lm9, lm10, lm11, lm12, fnM, List.map_cons, List.map_nil, List.replicate, List.cons_append, List.nil_append, Nat.reduceAdd, Nat.reduceSub, sNil, tAndM, tOrM, tNotM, tTru, dTru, eIf, dSub_i, dAdd_i, dLt_i, dLe_i, dGt_i, dGe_i, dEq_i, decide_true, decide_false, eChain, eAndM, eSl, oInt, dNeg, fInt, aDef, fTuple])

/-! a form is told right -/
theorem wf_5 {d : Nat} (h : d ≤ 5) : Wf d ≤ 800000 ∧ Cf d ≤ 4000 ∧ Dr d ≤ 2000 := by
  rcases (by omega : d = 0 ∨ d = 1 ∨ d = 2 ∨ d = 3 ∨ d = 4 ∨ d = 5) with rfl | rfl | rfl | rfl | rfl | rfl <;> decide
theorem told_fm {d : Nat} (hd : d ≤ 5) {t : D} (h : Fm d t) {N : Nat} (hN : 10 ≤ N) (m : Int) (g : List MO) : ∃ j, mir (N + 1) ._law_told_right [.d t] (sp m g) = .ok (.d (.bl true)) (sp m (g ++ j)) := by
  obtain ⟨w, c, _⟩ := wf_5 hd
  have a := h.de
  have b := h.s
  have e := h.p
  have f := h.c
  have k := h.dp
  exact told_ok N h.g h.i (by omega) (by omega) (by show pops t ≤ 1000000; omega) (by omega) (by omega) (by omega) m g
end L
set_option pp.maxSteps 400
set_option pp.deepTerms false
namespace L
open PySem L2 G
local macro_rules | `(tactic| walk_at "ey") => `(tactic| try simp only [sSpot, eSpot, sSeq, sSet, sExpr, sRet, sIf, sAsg, una, escf, escS, opd, eVar, eC, eBin, eUn, eFn, eCall, eTup, eLst, aCons, aNil, fin, rd, rds, R.toS, dsOf, Rs.bind_ok, Rs.bind_bad, Rs.bind_ex, Rs.opt_some, Option.bind_some, Option.map_some, ownAt, eExt, eApp, ePop, List.getElem?_cons_zero, List.getElem?_cons_succ, List.set_cons_zero, List.set_cons_succ, okArg, List.all_cons, List.all_nil, Bool.and_self, if_true, kName, kTup, ksCons, ksNil, fMax, tOf, List.length_cons, List.length_nil, Bool.not_false, Bool.not_true, if_false, Bool.false_eq_true, lm0, lm1, lm2, lm3, lm4, lm5, lm6, lm7, lm8, lm9, lm10, lm11, lm12, fnM, List.map_cons, List.map_nil, List.replicate, List.cons_append, List.nil_append, Nat.reduceAdd, Nat.reduceSub, sNil, tAndM, tOrM, tNotM, tTru, dTru, eIf, dSub_i, dAdd_i, dLt_i, dLe_i, dGt_i, dGe_i, dEq_i, decide_true, decide_false, eChain, eAndM, eSl, oInt, dNeg, fInt, aDef, fTuple])

/-! compare of two pairs of ints -/
def pr (a b : Int) : D := .tup [.int a, .int b]
theorem eqD_pr (a b c d : Int) : eqD (pr a b) (pr c d) = (decide (a = c) && decide (b = d)) := by
  unfold pr
  rw [eqD_tup, eqDs, eqDs, eqDs, eqD_int, eqD_int, Bool.and_true]
  rfl
theorem pr_ok (a b c d : Int) : eqOk (pr a b) (pr c d) = true := by
  unfold pr eqOk
  simp [lay, lays, dep, deps]
theorem dNe_pr (a b c d : Int) : dNe (pr a b) (pr c d) = some (.d (.bl (!(decide (a = c) && decide (b = d))))) := by
  unfold dNe
  rw [if_pos (pr_ok a b c d), eqD_pr]
theorem dEq_pr (a b c d : Int) : dEq (pr a b) (pr c d) = some (.d (.bl (decide (a = c) && decide (b = d)))) := by
  unfold dEq
  rw [if_pos (pr_ok a b c d), eqD_pr]
end L
set_option pp.maxSteps 400
set_option pp.deepTerms false
namespace L
open PySem L2 G
local macro_rules | `(tactic| walk_at "ey") => `(tactic| try simp only [sSpot, eSpot, sSeq, sSet, sExpr, sRet, sIf, sAsg, una, escf, escS, opd, eVar, eC, eBin, eUn, eFn, eCall, eTup, eLst, aCons, aNil, fin, rd, rds, R.toS, dsOf, Rs.bind_ok, Rs.bind_bad, Rs.bind_ex, Rs.opt_some, Option.bind_some, Option.map_some, ownAt, eExt, eApp, ePop, List.getElem?_cons_zero, List.getElem?_cons_succ, List.set_cons_zero, List.set_cons_succ, okArg, List.all_cons, List.all_nil, Bool.and_self, if_true, kName, kTup, ksCons, ksNil, tOf, List.length_cons, List.length_nil, Bool.not_false, Bool.not_true, if_false, Bool.false_eq_true, lm0, lm1, lm2, lm3, lm4, lm5, lm6, lm7, lm8, lm9, lm10, lm11, lm12, fnM, List.map_cons, List.map_nil, List.replicate, List.cons_append, List.nil_append, Nat.reduceAdd, Nat.reduceSub, sNil, tAndM, tOrM, tNotM, tTru, dTru, eIf, dSub_i, dAdd_i, dLt_i, dLe_i, dGt_i, dGe_i, dEq_i, decide_true, decide_false, eChain, eAndM, eSl, oInt, dNeg, fInt, aDef, fTuple])

/-! small parts of the bounds -/
theorem dv5 (i : Int) : dFdiv (.int i) (.int 5) = some (.d (.int (i / 5))) := divA _ _ (by omega)
theorem dv20 (i : Int) : dFdiv (.int i) (.int 20) = some (.d (.int (i / 20))) := divA _ _ (by omega)
theorem dv25 (i : Int) : dFdiv (.int i) (.int 25) = some (.d (.int (i / 25))) := divA _ _ (by omega)
theorem dv100 (i : Int) : dFdiv (.int i) (.int 100) = some (.d (.int (i / 100))) := divA _ _ (by omega)
theorem dv540 (i : Int) : dFdiv (.int i) (.int 540) = some (.d (.int (i / 540))) := divA _ _ (by omega)
theorem dv1620 (i : Int) : dFdiv (.int i) (.int 1620) = some (.d (.int (i / 1620))) := divA _ _ (by omega)
theorem mo3 (i : Int) : dMod (.int i) (.int 3) = some (.d (.int (i % 3))) := modA _ _ (by omega)
theorem mo5 (i : Int) : dMod (.int i) (.int 5) = some (.d (.int (i % 5))) := modA _ _ (by omega)
theorem mo18 (i : Int) : dMod (.int i) (.int 18) = some (.d (.int (i % 18))) := modA _ _ (by omega)
theorem mo30 (i : Int) : dMod (.int i) (.int 30) = some (.d (.int (i % 30))) := modA _ _ (by omega)
theorem mo90 (i : Int) : dMod (.int i) (.int 90) = some (.d (.int (i % 90))) := modA _ _ (by omega)
theorem mo150 (i : Int) : dMod (.int i) (.int 150) = some (.d (.int (i % 150))) := modA _ _ (by omega)
theorem mo4000 (i : Int) : dMod (.int i) (.int 4000) = some (.d (.int (i % 4000))) := modA _ _ (by omega)
theorem ix5 (a b c d e j : Int) (h0 : 0 ≤ j) (h1 : j < 5) : ∃ v, dIx (.lst [.int a, .int b, .int c, .int d, .int e]) (.int j) = some (.d (.int v)) ∧ (v = a ∨ v = b ∨ v = c ∨ v = d ∨ v = e) := by
  rcases (by omega : j = 0 ∨ j = 1 ∨ j = 2 ∨ j = 3 ∨ j = 4) with rfl | rfl | rfl | rfl | rfl
  · exact ⟨a, rfl, by simp⟩
  · exact ⟨b, rfl, by simp⟩
  · exact ⟨c, rfl, by simp⟩
  · exact ⟨d, rfl, by simp⟩
  · exact ⟨e, rfl, by simp⟩
theorem ix3 (a b c j : Int) (h0 : 0 ≤ j) (h1 : j < 3) : ∃ v, dIx (.lst [.int a, .int b, .int c]) (.int j) = some (.d (.int v)) ∧ (v = a ∨ v = b ∨ v = c) := by
  rcases (by omega : j = 0 ∨ j = 1 ∨ j = 2) with rfl | rfl | rfl
  · exact ⟨a, rfl, by simp⟩
  · exact ⟨b, rfl, by simp⟩
  · exact ⟨c, rfl, by simp⟩
theorem for_step {kk : D → Z (List MO) → Option (Z (List MO))} {b : Sm MX Out} (Inv : Nat → Z (List MO) → Prop) (step : ∀ (i : Nat) (x : D) z, Inv i z → ∃ z1 z2, kk x z = some z1 ∧ b z1 = .ok .nx z2 ∧ Inv (i + 1) z2) : ∀ (ds : List D) (i : Nat) (z : Z (List MO)), Inv i z → ∃ z', forL (M := MX) kk b ds z = .ok .nx z' ∧ Inv (i + ds.length) z'
  | [], i, z, hi => ⟨z, rfl, hi⟩
  | d :: r, i, z, hi => by
    obtain ⟨z1, z2, e1, e2, i2⟩ := step i d z hi
    obtain ⟨z', e, i3⟩ := for_step Inv step r (i + 1) z2 i2
    refine ⟨z', ?_, by rw [List.length_cons, show i + (r.length + 1) = i + 1 + r.length from by omega]; exact i3⟩
    conv => lhs; unfold forL
    simp only [e1]
    rw [e2]
    exact e
theorem eBin_at {o : D → D → Option R} {f f' : Sm MX S} {z z1 z2 : Z (List MO)} {x y : D} {w : D} (h1 : f z = .ok (.d x) z1) (h2 : f' z1 = .ok (.d y) z2) (h3 : o x y = some (.d w)) : (eBin o f f' : Sm MX S) z = .ok (.d w) z2 := by
  simp only [eBin, opd, h1, h2, Rs.bind_ok, rd, Option.bind_some, h3, fin, R.toS]
theorem neq_t {f f' : Sm MX S} {z : Z (List MO)} {a b : Int} (h1 : f z = .ok (.d (pr a b)) z) (h2 : f' z = .ok (.d (pr a b)) z) : (tOf (eBin dNe f f') : Sm MX Bool) z = .ok false z := by
  have e := eBin_at (o := dNe) h1 h2 (dNe_pr a b a b)
  rw [decide_eq_true rfl, decide_eq_true rfl] at e
  simp only [tOf, opd, e, Rs.bind_ok, rd, Option.bind_some, fin]
  all_goals rfl
theorem neq_if {f f' : Sm MX S} {X : Sm MX Out} {z : Z (List MO)} {a b : Int} (h1 : f z = .ok (.d (pr a b)) z) (h2 : f' z = .ok (.d (pr a b)) z) : (sIf (tOf (eBin dNe f f')) X sNil : Sm MX Out) z = .ok .nx z := by
  simp only [sIf, neq_t h1 h2, Rs.bind_ok, Bool.false_eq_true, if_false, sNil]
theorem eq_pr {f f' : Sm MX S} {z : Z (List MO)} {a b : Int} (h1 : f z = .ok (.d (pr a b)) z) (h2 : f' z = .ok (.d (pr a b)) z) : (eBin dEq f f' : Sm MX S) z = .ok (.d (.bl true)) z := by
  have e := eBin_at (o := dEq) h1 h2 (dEq_pr a b a b)
  rw [decide_eq_true rfl, decide_eq_true rfl] at e
  exact e
theorem many_pos {t : D} (h1 : cnt t ≤ 4000) (h2 : dpt t ≤ 150) : manyD t = pr ((cnt t : Nat) : Int) ((dpt t : Nat) : Int) := by
  unfold manyD pr
  rw [if_pos ⟨h1, h2⟩]
theorem many_neg {t : D} (h : 4000 < cnt t ∨ 150 < dpt t) : manyD t = pr 4001 151 := by
  unfold manyD pr
  rw [if_neg (by omega)]
theorem call1 {F : List S → List MO → Rs S (List MO)} {i : Nat} {d y : D} {z : Z (List MO)} (hv : (eVar i : Sm MX S) z = .ok (.d d) z) (h : F [.d d] z.m = .ok (.d y) z.m) : (eCall F (aCons (escf (eVar i)) aNil) : Sm MX S) z = .ok (.d y) z := by
  simp only [eCall, aCons, escf, hv, Rs.bind_ok, aNil, escS, okArg, List.all_cons, List.all_nil, Bool.and_self, if_true]
  rw [h]
  all_goals rfl
/-- the two sides by one bound -/
def EB (i k : Nat) (c : Int) : Sm MX S := eIf (tOf (eBin dLt (eVar i) (eC (.int c)))) (eTup (aCons (escf (eVar i)) (aCons (escf (eVar k)) aNil))) (eTup (aCons (escf (eC (.int 4001))) (aCons (escf (eC (.int 151))) aNil)))
theorem eb_ok {i k : Nat} {c a b : Int} {z : Z (List MO)} (h1 : (eVar i : Sm MX S) z = .ok (.d (.int a)) z) (h2 : (eVar k : Sm MX S) z = .ok (.d (.int b)) z) : EB i k c z = .ok (.d (if a < c then pr a b else pr 4001 151)) z := by
  unfold EB pr
  simp only [eIf, tOf, eBin, opd, h1, eC, Rs.bind_ok, rd, Option.bind_some, dLt_i, fin, R.toS]
  by_cases q : a < c
  · simp only [q, decide_true, if_true, eTup, aCons, escf, h1, h2, Rs.bind_ok, escS, aNil]
    walk_at "ey"
  · simp only [q, decide_false, if_false]
    walk_at "ey"
end L
set_option pp.maxSteps 400
set_option pp.deepTerms false
namespace L
open PySem L2 G
local macro_rules | `(tactic| walk_at "ey") => `(tactic| try simp only [sSpot, eSpot, sSeq, sSet, sExpr, sRet, sIf, sAsg, una, escf, escS, opd, eVar, eC, eBin, eUn, eFn, eCall, eTup, eLst, aCons, aNil, fin, rd, rds, R.toS, dsOf, Rs.bind_ok, Rs.bind_bad, Rs.bind_ex, Rs.opt_some, Option.bind_some, Option.map_some, ownAt, eExt, eApp, ePop, List.getElem?_cons_zero, List.getElem?_cons_succ, List.set_cons_zero, List.set_cons_succ, okArg, List.all_cons, List.all_nil, Bool.and_self, if_true, kName, kTup, ksCons, ksNil, tOf, List.length_cons, List.length_nil, Bool.not_false, Bool.not_true, if_false, Bool.false_eq_true, lm0, lm1, lm2, lm3, lm4, lm5, lm6, lm7, lm8, lm9, lm10, lm11, lm12, fnM, List.map_cons, List.map_nil, List.replicate, List.cons_append, List.nil_append, Nat.reduceAdd, Nat.reduceSub, sNil, tAndM, tOrM, tNotM, tTru, dTru, eIf, dSub_i, dAdd_i, dLt_i, dLe_i, dGt_i, dGe_i, dEq_i, decide_true, decide_false, eChain, eAndM, eSl, oInt, dNeg, fInt, aDef, fTuple, dv5, dv20, dv25, dv100, dv540, dv1620, mo3, mo5, mo18, mo30, mo90, mo150, mo4000])

/-! _law_bounds_right -/
def B1 : Sm MX Out := (sSet 1 (eBin dIx (eLst (aCons (escf (eC (.int 3999))) (aCons (escf (eC (.int 4000))) (aCons (escf (eC (.int 4001))) (aCons (escf (eBin dAdd (eC (.int 4001)) (eBin dMod (eBin dFdiv (eVar 0) (eC (.int 100))) (eC (.int 90))))) (aCons (escf (eBin dAdd (eC (.int 1)) (eBin dMod (eBin dFdiv (eVar 0) (eC (.int 100))) (eC (.int 4000))))) aNil)))))) (eBin dMod (eVar 0) (eC (.int 5)))))
def B2 (call : Fn → List S → List MO → Rs S (List MO)) : Sm MX Out := (sAsg (eCall (call ._law_sized) (aCons (escf (eVar 1)) (aCons (escf (eBin dFdiv (eVar 0) (eC (.int 20)))) aNil))) (kTup 2 (ksCons (kName 2) (ksCons (kName 3) ksNil))))
def B3 (call : Fn → List S → List MO → Rs S (List MO)) : Sm MX Out := (sIf (tOf (eBin dNe (eCall (call .many_in) (aCons (escf (eVar 2)) aNil)) (eIf (tOf (eBin dLt (eVar 1) (eC (.int 4001)))) (eTup (aCons (escf (eVar 1)) (aCons (escf (eVar 3)) aNil))) (eTup (aCons (escf (eC (.int 4001))) (aCons (escf (eC (.int 151))) aNil)))))) (sRet (eC (.bl false))) sNil)
def B4 : Sm MX Out := (sSet 4 (eBin dIx (eLst (aCons (escf (eC (.int 149))) (aCons (escf (eC (.int 150))) (aCons (escf (eC (.int 151))) (aCons (escf (eBin dAdd (eC (.int 152)) (eBin dMod (eBin dFdiv (eVar 0) (eC (.int 100))) (eC (.int 30))))) (aCons (escf (eBin dAdd (eC (.int 1)) (eBin dMod (eBin dFdiv (eVar 0) (eC (.int 100))) (eC (.int 150))))) aNil)))))) (eBin dMod (eBin dFdiv (eVar 0) (eC (.int 5))) (eC (.int 5)))))
def B5 : Sm MX Out := (sSet 5 (eTup (aCons (escf (eC (.str "held"))) (aCons (escf (eC (.int 0))) aNil))))
def B6 : Sm MX Out := (sFor (iRg1M (aCons (opd (eBin dSub (eVar 4) (eC (.int 1)))) aNil)) (kName 6) (sSet 5 (eTup (aCons (escf (eC (.str "twice"))) (aCons (escf (eVar 5)) aNil)))))
def B7 (call : Fn → List S → List MO → Rs S (List MO)) : Sm MX Out := (sIf (tOf (eBin dNe (eCall (call .many_in) (aCons (escf (eVar 5)) aNil)) (eIf (tOf (eBin dLt (eVar 4) (eC (.int 151)))) (eTup (aCons (escf (eVar 4)) (aCons (escf (eVar 4)) aNil))) (eTup (aCons (escf (eC (.int 4001))) (aCons (escf (eC (.int 151))) aNil)))))) (sRet (eC (.bl false))) sNil)
def B8 : Sm MX Out := (sSet 7 (eTup (aCons (escf (eC (.str "held"))) (aCons (escf (eC (.int 0))) aNil))))
def B9 : Sm MX Out := (sFor (iRg1M (aCons (opd (eBin dMod (eBin dFdiv (eVar 0) (eC (.int 25))) (eC (.int 18)))) aNil)) (kName 6) (sSet 7 (eTup (aCons (escf (eC (.str "pair"))) (aCons (escf (eVar 7)) (aCons (escf (eVar 7)) aNil))))))
def B10 : Sm MX Out := (sSet 8 (eC (.int 1)))
def B11 : Sm MX Out := (sFor (iRg1M (aCons (opd (eBin dMod (eBin dFdiv (eVar 0) (eC (.int 25))) (eC (.int 18)))) aNil)) (kName 6) (sSet 8 (eBin dAdd (eBin dMul (eC (.int 2)) (eVar 8)) (eC (.int 1)))))
def B12 (call : Fn → List S → List MO → Rs S (List MO)) : Sm MX Out := (sRet (eBin dEq (eCall (call .many_in) (aCons (escf (eVar 7)) aNil)) (eIf (tOf (eBin dLt (eVar 8) (eC (.int 4001)))) (eTup (aCons (escf (eVar 8)) (aCons (escf (eBin dAdd (eC (.int 1)) (eBin dMod (eBin dFdiv (eVar 0) (eC (.int 25))) (eC (.int 18))))) aNil))) (eTup (aCons (escf (eC (.int 4001))) (aCons (escf (eC (.int 151))) aNil))))))

theorem b1_ok {n : Int} {r : List (Option S)} {m : List MO} : ∃ c : Nat, 1 ≤ c ∧ c ≤ 4090 ∧ B1 ⟨some (.d (.int n)) :: none :: r, m⟩ = .ok .nx ⟨some (.d (.int n)) :: some (.d (.int (c : Int))) :: r, m⟩ := by
  obtain ⟨v, e, hv⟩ := ix5 3999 4000 4001 (4001 + n / 100 % 90) (1 + n / 100 % 4000) (n % 5) (by omega) (by omega)
  obtain ⟨c, rfl⟩ : ∃ c : Nat, v = (c : Int) := ⟨v.toNat, by omega⟩
  refine ⟨c, by omega, by omega, ?_⟩
  unfold B1
  walk_at "ey"
  rw [e]
  walk_at "ey"
theorem b4_ok {n : Int} {s1 s2 s3 : Option S} {r : List (Option S)} {m : List MO} : ∃ c : Nat, 1 ≤ c ∧ c ≤ 200 ∧ B4 ⟨some (.d (.int n)) :: s1 :: s2 :: s3 :: none :: r, m⟩ = .ok .nx ⟨some (.d (.int n)) :: s1 :: s2 :: s3 :: some (.d (.int (c : Int))) :: r, m⟩ := by
  obtain ⟨v, e, hv⟩ := ix5 149 150 151 (152 + n / 100 % 30) (1 + n / 100 % 150) (n / 5 % 5) (by omega) (by omega)
  obtain ⟨c, rfl⟩ : ∃ c : Nat, v = (c : Int) := ⟨v.toNat, by omega⟩
  refine ⟨c, by omega, by omega, ?_⟩
  unfold B4
  walk_at "ey"
  rw [e]
  walk_at "ey"
theorem b2_ok {call : Fn → List S → List MO → Rs S (List MO)} {n c e : Int} {g : D} {r : List (Option S)} {m : List MO} (h : call ._law_sized [.d (.int c), .d (.int (n / 20))] m = .ok (.d (.tup [g, .int e])) m) :
    B2 call ⟨some (.d (.int n)) :: some (.d (.int c)) :: none :: none :: r, m⟩ = .ok .nx ⟨some (.d (.int n)) :: some (.d (.int c)) :: some (.d g) :: some (.d (.int e)) :: r, m⟩ := by
  unfold B2
  walk_at "ey"
  rw [h]
  walk_at "ey"
theorem b3_ok {call : Fn → List S → List MO → Rs S (List MO)} {c e : Nat} {g : D} {s0 : Option S} {r : List (Option S)} {m : List MO} (h : call .many_in [.d g] m = .ok (.d (manyD g)) m) (hc : cnt g = c) (he : dpt g = e) (e1 : e ≤ 150) :
    B3 call ⟨s0 :: some (.d (.int (c : Int))) :: some (.d g) :: some (.d (.int (e : Int))) :: r, m⟩ = .ok .nx ⟨s0 :: some (.d (.int (c : Int))) :: some (.d g) :: some (.d (.int (e : Int))) :: r, m⟩ := by
  have q := eb_ok (i := 1) (k := 3) (c := 4001) (z := (⟨s0 :: some (.d (.int (c : Int))) :: some (.d g) :: some (.d (.int (e : Int))) :: r, m⟩ : Z (List MO))) rfl rfl
  have f := call1 (i := 2) (z := (⟨s0 :: some (.d (.int (c : Int))) :: some (.d g) :: some (.d (.int (e : Int))) :: r, m⟩ : Z (List MO))) rfl h
  by_cases a : c ≤ 4000
  · rw [if_pos (by omega)] at q
    rw [many_pos (by omega) (by omega), hc, he] at f
    exact neq_if f q
  · rw [if_neg (by omega)] at q
    rw [many_neg (.inl (by omega))] at f
    exact neq_if f q
theorem b5_ok {s0 s1 s2 s3 s4 : Option S} {r : List (Option S)} {m : List MO} : B5 ⟨s0 :: s1 :: s2 :: s3 :: s4 :: none :: r, m⟩ = .ok .nx ⟨s0 :: s1 :: s2 :: s3 :: s4 :: some (.d held0) :: r, m⟩ := by
  unfold B5
  walk_at "ey"
  rfl
theorem b6_ok {h : Nat} (h1 : 1 ≤ h) (h2 : h ≤ 200) {s0 s1 s2 s3 s7 s8 : Option S} {m : List MO} : ∃ s6, B6 ⟨[s0, s1, s2, s3, some (.d (.int (h : Int))), some (.d held0), none, s7, s8], m⟩ = .ok .nx ⟨[s0, s1, s2, s3, some (.d (.int (h : Int))), some (.d (chT (h - 1))), s6, s7, s8], m⟩ := by
  have it : (iRg1M (aCons (opd (eBin dSub (eVar 4) (eC (.int 1)))) aNil) : Sm MX (List D)) ⟨[s0, s1, s2, s3, some (.d (.int (h : Int))), some (.d held0), none, s7, s8], m⟩ = .ok (rangeD 0 ((h : Int) - 1).toNat) ⟨[s0, s1, s2, s3, some (.d (.int (h : Int))), some (.d held0), none, s7, s8], m⟩ := by
    simp only [iRg1M]
    walk_at "ey"
    rw [if_pos (rg_lim (by omega) (by omega))]
  obtain ⟨z', e, s6, ez⟩ := for_step (kk := kName (M := MX) 6) (b := (sSet 5 (eTup (aCons (escf (eC (.str "twice"))) (aCons (escf (eVar 5)) aNil))))) (fun i z => ∃ s6, z = ⟨[s0, s1, s2, s3, some (.d (.int (h : Int))), some (.d (chT i)), s6, s7, s8], m⟩) (fun i x z hz => by
    obtain ⟨s6, rfl⟩ := hz
    refine ⟨_, ⟨[s0, s1, s2, s3, some (.d (.int (h : Int))), some (.d (chT (i + 1))), some (.d x), s7, s8], m⟩, rfl, ?_, _, rfl⟩
    walk_at "ey"
    rfl) (rangeD 0 ((h : Int) - 1).toNat) 0 ⟨[s0, s1, s2, s3, some (.d (.int (h : Int))), some (.d held0), none, s7, s8], m⟩ ⟨none, rfl⟩
  rw [ez, range_len, show 0 + ((h : Int) - 1).toNat = h - 1 from by omega] at e
  exact ⟨s6, ci_for it e⟩
theorem b7_ok {call : Fn → List S → List MO → Rs S (List MO)} {h : Nat} (h1 : 1 ≤ h) {s0 s1 s2 s3 : Option S} {r : List (Option S)} {m : List MO} (hm : call .many_in [.d (chT (h - 1))] m = .ok (.d (manyD (chT (h - 1)))) m) :
    B7 call ⟨s0 :: s1 :: s2 :: s3 :: some (.d (.int (h : Int))) :: some (.d (chT (h - 1))) :: r, m⟩ = .ok .nx ⟨s0 :: s1 :: s2 :: s3 :: some (.d (.int (h : Int))) :: some (.d (chT (h - 1))) :: r, m⟩ := by
  have q := eb_ok (i := 4) (k := 4) (c := 151) (z := (⟨s0 :: s1 :: s2 :: s3 :: some (.d (.int (h : Int))) :: some (.d (chT (h - 1))) :: r, m⟩ : Z (List MO))) rfl rfl
  have f := call1 (i := 5) (z := (⟨s0 :: s1 :: s2 :: s3 :: some (.d (.int (h : Int))) :: some (.d (chT (h - 1))) :: r, m⟩ : Z (List MO))) rfl hm
  obtain ⟨c1, c2, _⟩ := chT_c (h - 1)
  by_cases a : h ≤ 150
  · rw [if_pos (by omega)] at q
    rw [many_pos (by omega) (by omega), c1, c2, show h - 1 + 1 = h from by omega] at f
    exact neq_if f q
  · rw [if_neg (by omega)] at q
    rw [many_neg (.inr (by omega))] at f
    exact neq_if f q
theorem b8_ok {s0 s1 s2 s3 s4 s5 s6 : Option S} {r : List (Option S)} {m : List MO} : B8 ⟨s0 :: s1 :: s2 :: s3 :: s4 :: s5 :: s6 :: none :: r, m⟩ = .ok .nx ⟨s0 :: s1 :: s2 :: s3 :: s4 :: s5 :: s6 :: some (.d held0) :: r, m⟩ := by
  unfold B8
  walk_at "ey"
  rfl
theorem b_it {n : Int} {s1 s2 s3 s4 s5 s6 s7 s8 : Option S} {m : List MO} : (iRg1M (aCons (opd (eBin dMod (eBin dFdiv (eVar 0) (eC (.int 25))) (eC (.int 18)))) aNil) : Sm MX (List D)) ⟨[some (.d (.int n)), s1, s2, s3, s4, s5, s6, s7, s8], m⟩ = .ok (rangeD 0 (n / 25 % 18).toNat) ⟨[some (.d (.int n)), s1, s2, s3, s4, s5, s6, s7, s8], m⟩ := by
  simp only [iRg1M]
  walk_at "ey"
  rw [if_pos (rg_lim (by omega) (by omega))]
theorem b9_ok {n : Int} {s1 s2 s3 s4 s5 s6 s8 : Option S} {m : List MO} : ∃ t6, B9 ⟨[some (.d (.int n)), s1, s2, s3, s4, s5, s6, some (.d held0), s8], m⟩ = .ok .nx ⟨[some (.d (.int n)), s1, s2, s3, s4, s5, t6, some (.d (chP (n / 25 % 18).toNat)), s8], m⟩ := by
  obtain ⟨z', e, t6, ez⟩ := for_step (kk := kName (M := MX) 6) (b := (sSet 7 (eTup (aCons (escf (eC (.str "pair"))) (aCons (escf (eVar 7)) (aCons (escf (eVar 7)) aNil)))))) (fun i z => ∃ t6, z = ⟨[some (.d (.int n)), s1, s2, s3, s4, s5, t6, some (.d (chP i)), s8], m⟩) (fun i x z hz => by
    obtain ⟨t6, rfl⟩ := hz
    refine ⟨_, ⟨[some (.d (.int n)), s1, s2, s3, s4, s5, some (.d x), some (.d (chP (i + 1))), s8], m⟩, rfl, ?_, _, rfl⟩
    walk_at "ey"
    rfl) (rangeD 0 (n / 25 % 18).toNat) 0 ⟨[some (.d (.int n)), s1, s2, s3, s4, s5, s6, some (.d held0), s8], m⟩ ⟨s6, rfl⟩
  rw [ez, range_len, Nat.zero_add] at e
  exact ⟨t6, ci_for b_it e⟩
theorem b10_ok {s0 s1 s2 s3 s4 s5 s6 s7 : Option S} {m : List MO} : B10 ⟨[s0, s1, s2, s3, s4, s5, s6, s7, none], m⟩ = .ok .nx ⟨[s0, s1, s2, s3, s4, s5, s6, s7, some (.d (.int 1))], m⟩ := by
  unfold B10
  walk_at "ey"
theorem b11_ok {n : Int} {s1 s2 s3 s4 s5 s6 s7 : Option S} {m : List MO} : ∃ t6, B11 ⟨[some (.d (.int n)), s1, s2, s3, s4, s5, s6, s7, some (.d (.int 1))], m⟩ = .ok .nx ⟨[some (.d (.int n)), s1, s2, s3, s4, s5, t6, s7, some (.d (.int ((cnt (chP (n / 25 % 18).toNat) : Nat) : Int)))], m⟩ := by
  obtain ⟨z', e, t6, ez⟩ := for_step (kk := kName (M := MX) 6) (b := (sSet 8 (eBin dAdd (eBin dMul (eC (.int 2)) (eVar 8)) (eC (.int 1))))) (fun i z => ∃ t6, z = ⟨[some (.d (.int n)), s1, s2, s3, s4, s5, t6, s7, some (.d (.int ((cnt (chP i) : Nat) : Int)))], m⟩) (fun i x z hz => by
    obtain ⟨t6, rfl⟩ := hz
    refine ⟨_, ⟨[some (.d (.int n)), s1, s2, s3, s4, s5, some (.d x), s7, some (.d (.int ((cnt (chP (i + 1)) : Nat) : Int)))], m⟩, rfl, ?_, _, rfl⟩
    walk_at "ey"
    rw [mulA _ _ (by omega)]
    walk_at "ey"
    have a := (chP_c i).1
    have b := (chP_c (i + 1)).1
    rw [Nat.pow_succ] at b
    rw [show 2 * ((cnt (chP i) : Nat) : Int) + 1 = ((cnt (chP (i + 1)) : Nat) : Int) from by omega]) (rangeD 0 (n / 25 % 18).toNat) 0 ⟨[some (.d (.int n)), s1, s2, s3, s4, s5, s6, s7, some (.d (.int 1))], m⟩ ⟨s6, by
      have a := (chP_c 0).1
      rw [show cnt (chP 0) = 1 from by omega]
      rfl⟩
  rw [ez, range_len, Nat.zero_add] at e
  exact ⟨t6, ci_for b_it e⟩
theorem b12_ok {call : Fn → List S → List MO → Rs S (List MO)} {n : Int} {s1 s2 s3 s4 s5 s6 : Option S} {m : List MO} (hm : call .many_in [.d (chP (n / 25 % 18).toNat)] m = .ok (.d (manyD (chP (n / 25 % 18).toNat))) m) :
    B12 call ⟨[some (.d (.int n)), s1, s2, s3, s4, s5, s6, some (.d (chP (n / 25 % 18).toNat)), some (.d (.int ((cnt (chP (n / 25 % 18).toNat) : Nat) : Int)))], m⟩ = .ok (.rt (.d (.bl true))) ⟨[some (.d (.int n)), s1, s2, s3, s4, s5, s6, some (.d (chP (n / 25 % 18).toNat)), some (.d (.int ((cnt (chP (n / 25 % 18).toNat) : Nat) : Int)))], m⟩ := by
  have k0 : 0 ≤ n / 25 % 18 ∧ n / 25 % 18 < 18 := by omega
  obtain ⟨k, hk⟩ : ∃ k : Nat, n / 25 % 18 = (k : Int) := ⟨(n / 25 % 18).toNat, by omega⟩
  have f := call1 (i := 7) (z := (⟨[some (.d (.int n)), s1, s2, s3, s4, s5, s6, some (.d (chP (n / 25 % 18).toNat)), some (.d (.int ((cnt (chP (n / 25 % 18).toNat) : Nat) : Int)))], m⟩ : Z (List MO))) rfl hm
  rw [hk, Int.toNat_natCast] at f ⊢
  obtain ⟨_, c2, _⟩ := chP_c k
  have q : (eIf (tOf (eBin dLt (eVar 8) (eC (.int 4001)))) (eTup (aCons (escf (eVar 8)) (aCons (escf (eBin dAdd (eC (.int 1)) (eBin dMod (eBin dFdiv (eVar 0) (eC (.int 25))) (eC (.int 18))))) aNil))) (eTup (aCons (escf (eC (.int 4001))) (aCons (escf (eC (.int 151))) aNil))) : Sm MX S) ⟨[some (.d (.int n)), s1, s2, s3, s4, s5, s6, some (.d (chP k)), some (.d (.int ((cnt (chP k) : Nat) : Int)))], m⟩ = .ok (.d (manyD (chP k))) ⟨[some (.d (.int n)), s1, s2, s3, s4, s5, s6, some (.d (chP k)), some (.d (.int ((cnt (chP k) : Nat) : Int)))], m⟩ := by
    by_cases a : cnt (chP k) ≤ 4000
    · rw [many_pos a (by omega), c2]
      have a' : ((cnt (chP k) : Nat) : Int) < 4001 := by omega
      walk_at "ey"
      simp only [a']
      walk_at "ey"
      rw [hk]
      walk_at "ey"
      unfold pr
      rw [show (1 : Int) + (k : Int) = ((k + 1 : Nat) : Int) from by omega]
    · rw [many_neg (.inl (by omega))]
      have a' : ¬ ((cnt (chP k) : Nat) : Int) < 4001 := by omega
      walk_at "ey"
      simp only [a']
      walk_at "ey"
      rfl
  obtain ⟨a, b, hab⟩ : ∃ a b, manyD (chP k) = pr a b := by
    unfold manyD pr
    split
    · exact ⟨_, _, rfl⟩
    · exact ⟨_, _, rfl⟩
  rw [hab] at f q
  have e := eq_pr f q
  unfold B12
  simp only [sRet, escf, e, Rs.bind_ok, escS]
theorem bounds_ok (q : Nat) (hq : 12 ≤ q) (n : Int) (m : List MO) : mir (q + 1) ._law_bounds_right [.d (.int n)] m = .ok (.d (.bl true)) m := by
  obtain ⟨p, rfl⟩ : ∃ p, q = p + 2 := ⟨q - 2, by omega⟩
  obtain ⟨c, c1, c2, e1⟩ := b1_ok (n := n) (r := [none, none, none, none, none, none, none]) (m := m)
  obtain ⟨g, e, es, sz, he⟩ := sized_ok 11 c (n / 20) (p + 2) m c1 (by show c ≤ 4096; omega) (by omega)
  obtain ⟨g1, g2, g3, g4⟩ := sz
  have e2 := b2_ok (call := mir (p + 2)) (r := [none, none, none, none, none]) es
  have e3 := b3_ok (s0 := some (.d (.int n))) (r := [none, none, none, none, none]) (many_ok p g1 (by rw [g4]; show c ≤ 1000000; omega) m) g2 g3 (by omega)
  obtain ⟨h, h1, h2, e4⟩ := b4_ok (n := n) (s1 := some (.d (.int (c : Int)))) (s2 := some (.d g)) (s3 := some (.d (.int (e : Int)))) (r := [none, none, none, none]) (m := m)
  have e5 := b5_ok (s0 := some (.d (.int n))) (s1 := some (.d (.int (c : Int)))) (s2 := some (.d g)) (s3 := some (.d (.int (e : Int)))) (s4 := some (.d (.int (h : Int)))) (r := [none, none, none]) (m := m)
  obtain ⟨s6, e6⟩ := b6_ok h1 h2 (s0 := some (.d (.int n))) (s1 := some (.d (.int (c : Int)))) (s2 := some (.d g)) (s3 := some (.d (.int (e : Int)))) (s7 := none) (s8 := none) (m := m)
  have e7 := b7_ok h1 (s0 := some (.d (.int n))) (s1 := some (.d (.int (c : Int)))) (s2 := some (.d g)) (s3 := some (.d (.int (e : Int)))) (r := [s6, none, none]) (many_ok p (chT_gd (h - 1)) (by rw [(chT_c (h - 1)).2.2]; show h - 1 + 1 ≤ 1000000; omega) m)
  have e8 := b8_ok (s0 := some (.d (.int n))) (s1 := some (.d (.int (c : Int)))) (s2 := some (.d g)) (s3 := some (.d (.int (e : Int)))) (s4 := some (.d (.int (h : Int)))) (s5 := some (.d (chT (h - 1)))) (s6 := s6) (r := [none]) (m := m)
  obtain ⟨u6, e9⟩ := b9_ok (n := n) (s1 := some (.d (.int (c : Int)))) (s2 := some (.d g)) (s3 := some (.d (.int (e : Int)))) (s4 := some (.d (.int (h : Int)))) (s5 := some (.d (chT (h - 1)))) (s6 := s6) (s8 := none) (m := m)
  have e10 := b10_ok (s0 := some (.d (.int n))) (s1 := some (.d (.int (c : Int)))) (s2 := some (.d g)) (s3 := some (.d (.int (e : Int)))) (s4 := some (.d (.int (h : Int)))) (s5 := some (.d (chT (h - 1)))) (s6 := u6) (s7 := some (.d (chP (n / 25 % 18).toNat))) (m := m)
  obtain ⟨v6, e11⟩ := b11_ok (n := n) (s1 := some (.d (.int (c : Int)))) (s2 := some (.d g)) (s3 := some (.d (.int (e : Int)))) (s4 := some (.d (.int (h : Int)))) (s5 := some (.d (chT (h - 1)))) (s6 := u6) (s7 := some (.d (chP (n / 25 % 18).toNat))) (m := m)
  have pp : pops (chP (n / 25 % 18).toNat) ≤ lim := by
    obtain ⟨k1, _, k3⟩ := chP_c (n / 25 % 18).toNat
    have k4 : 2 ^ ((n / 25 % 18).toNat + 1) ≤ 2 ^ 18 := Nat.pow_le_pow_right (by omega) (by omega)
    rw [k3]
    show _ ≤ 1000000
    have k5 : (2 : Nat) ^ 18 = 262144 := by decide
    omega
  have e12 := b12_ok (n := n) (s1 := some (.d (.int (c : Int)))) (s2 := some (.d g)) (s3 := some (.d (.int (e : Int)))) (s4 := some (.d (.int (h : Int)))) (s5 := some (.d (chT (h - 1)))) (s6 := v6) (many_ok p (chP_gd (n / 25 % 18).toNat) pp m)
  have all := seq_nx (g := (sSeq (B2 (mir (p + 2))) (sSeq (B3 (mir (p + 2))) (sSeq B4 (sSeq B5 (sSeq B6 (sSeq (B7 (mir (p + 2))) (sSeq B8 (sSeq B9 (sSeq B10 (sSeq B11 (B12 (mir (p + 2)))))))))))))) e1
  rw [seq_nx e2, seq_nx e3, seq_nx e4, seq_nx e5, seq_nx e6, seq_nx e7, seq_nx e8, seq_nx e9, seq_nx e10, seq_nx e11, e12] at all
  show fnM 9 (m__law_bounds_right (mir (p + 2))) [.d (.int n)] m = _
  simp only [B1, B2, B3, B4, B5, B6, B7, B8, B9, B10, B11, B12] at all
  unfold m__law_bounds_right
  exact fnM_d all
end L
set_option pp.maxSteps 400
set_option pp.deepTerms false
namespace L
open PySem L2 G
local macro_rules | `(tactic| walk_at "ey") => `(tactic| try simp only [sSpot, eSpot, sSeq, sSet, sExpr, sRet, sIf, sAsg, una, escf, escS, opd, eVar, eC, eBin, eUn, eFn, eCall, eTup, eLst, aCons, aNil, fin, rd, rds, R.toS, dsOf, Rs.bind_ok, Rs.bind_bad, Rs.bind_ex, Rs.opt_some, Option.bind_some, Option.map_some, ownAt, eExt, eApp, ePop, List.getElem?_cons_zero, List.getElem?_cons_succ, List.set_cons_zero, List.set_cons_succ, okArg, List.all_cons, List.all_nil, Bool.and_self, if_true, kName, kTup, ksCons, ksNil, tOf, List.length_cons, List.length_nil, Bool.not_false, Bool.not_true, if_false, Bool.false_eq_true, lm0, lm1, lm2, lm3, lm4, lm5, lm6, lm7, lm8, lm9, lm10, lm11, lm12, fnM, List.map_cons, List.map_nil, List.replicate, List.cons_append, List.nil_append, Nat.reduceAdd, Nat.reduceSub, sNil, tAndM, tOrM, tNotM, tTru, dTru, eIf, dSub_i, dAdd_i, dLt_i, dLe_i, dGt_i, dGe_i, dEq_i, decide_true, decide_false, eChain, eAndM, eSl, oInt, dNeg, fInt, aDef, fTuple, dv5, dv20, dv25, dv100, dv540, dv1620, mo3, mo5, mo18, mo30, mo90, mo150, mo4000])

/-! _law_deep_right -/
def D1 : Sm MX Out := (sAsg (eTup (aCons (escf (eTup (aCons (escf (eC (.str "held"))) (aCons (escf (eC (.int 0))) aNil)))) (aCons (escf (eC .non)) aNil))) (kTup 2 (ksCons (kName 1) (ksCons (kName 2) ksNil))))
def D2 : Sm MX Out := (sFor (iRg1M (aCons (opd (eBin dAdd (eC (.int 151)) (eBin dMod (eVar 0) (eBin dIx (eLst (aCons (escf (eC (.int 540))) (aCons (escf (eC (.int 540))) (aCons (escf (eC (.int 190))) aNil)))) (eBin dMod (eBin dFdiv (eVar 0) (eC (.int 540))) (eC (.int 3))))))) aNil)) (kName 3) (sSeq (sSet 1 (eBin dIx (eLst (aCons (escf (eTup (aCons (escf (eC (.str "twice"))) (aCons (escf (eVar 1)) aNil)))) (aCons (escf (eTup (aCons (escf (eC (.str "void"))) (aCons (escf (eVar 1)) (aCons (escf (eC .non)) aNil))))) (aCons (escf (eTup (aCons (escf (eC (.str "members"))) (aCons (escf (eC (.str "s"))) (aCons (escf (eC .non)) (aCons (escf (eTup (aCons (escf (eVar 1)) aNil))) aNil)))))) aNil)))) (eBin dMod (eBin dFdiv (eVar 0) (eC (.int 540))) (eC (.int 3)))))
    (sSet 2 (eBin dIx (eLst (aCons (escf (eTup (aCons (escf (eVar 2)) aNil))) (aCons (escf (eTup (aCons (escf (eC (.str "no"))) (aCons (escf (eVar 2)) aNil)))) (aCons (escf (eTup (aCons (escf (eC (.str "pair"))) (aCons (escf (eVar 2)) aNil)))) aNil)))) (eBin dMod (eBin dFdiv (eVar 0) (eC (.int 1620))) (eC (.int 3)))))))
def D3 (call : Fn → List S → List MO → Rs S (List MO)) : Sm MX Out := (sIf (tOrM (tOf (eBin dNe (eCall (call .many_in) (aCons (escf (eVar 1)) aNil)) (eTup (aCons (escf (eC (.int 4001))) (aCons (escf (eC (.int 151))) aNil))))) (tOf (eBin dNe (eFn fLen (aCons (opd (eCall (call .inner) (aCons (escf (eVar 1)) aNil))) aNil)) (eC (.int 1))))) (sRet (eC (.bl false))) sNil)
def D4 (call : Fn → List S → List MO → Rs S (List MO)) : Sm MX Out := (sIf (tOrM (tOf (eBin dNe (eCall (call .many_in) (aCons (escf (eVar 2)) aNil)) (eTup (aCons (escf (eC (.int 0))) (aCons (escf (eC (.int 0))) aNil))))) (tOf (eBin dIsNot (eCall (call .inner) (aCons (escf (eVar 2)) aNil)) (eC .non)))) (sRet (eC (.bl false))) sNil)
def D5 (call : Fn → List S → List MO → Rs S (List MO)) : Sm MX Out := (sRet (eAndM (eBin dEq (eCall (call .many_in) (aCons (escf (eTup (aCons (escf (eC (.str "pair"))) (aCons (escf (eVar 2)) (aCons (escf (eTup (aCons (escf (eC (.str "use"))) (aCons (escf (eVar 2)) aNil)))) aNil))))) aNil)) (eTup (aCons (escf (eC (.int 2))) (aCons (escf (eC (.int 2))) aNil)))) (eBin dEq (eCall (call .many_in) (aCons (escf (eTup (aCons (escf (eC (.str "take"))) (aCons (escf (eVar 1)) (aCons (escf (eVar 2)) aNil))))) aNil)) (eTup (aCons (escf (eC (.int 1))) (aCons (escf (eC (.int 1))) aNil))))))
def DL1 : Sm MX Out := (sSet 1 (eBin dIx (eLst (aCons (escf (eTup (aCons (escf (eC (.str "twice"))) (aCons (escf (eVar 1)) aNil)))) (aCons (escf (eTup (aCons (escf (eC (.str "void"))) (aCons (escf (eVar 1)) (aCons (escf (eC .non)) aNil))))) (aCons (escf (eTup (aCons (escf (eC (.str "members"))) (aCons (escf (eC (.str "s"))) (aCons (escf (eC .non)) (aCons (escf (eTup (aCons (escf (eVar 1)) aNil))) aNil)))))) aNil)))) (eBin dMod (eBin dFdiv (eVar 0) (eC (.int 540))) (eC (.int 3)))))
def DL2 : Sm MX Out := (sSet 2 (eBin dIx (eLst (aCons (escf (eTup (aCons (escf (eVar 2)) aNil))) (aCons (escf (eTup (aCons (escf (eC (.str "no"))) (aCons (escf (eVar 2)) aNil)))) (aCons (escf (eTup (aCons (escf (eC (.str "pair"))) (aCons (escf (eVar 2)) aNil)))) aNil)))) (eBin dMod (eBin dFdiv (eVar 0) (eC (.int 1620))) (eC (.int 3)))))

def chS (w : Nat) (t : D) : D := ([.tup [.str "twice", t], .tup [.str "void", t, .non], .tup [.str "members", .str "s", .non, .tup [t]]] : List D).getD w .non
def nsS (w : Nat) (t : D) : D := ([.tup [t], .tup [.str "no", t], .tup [.str "pair", t]] : List D).getD w .non
def chI (w : Nat) : Nat → D
  | 0 => held0
  | i + 1 => chS w (chI w i)
def nsI (w : Nat) : Nat → D
  | 0 => .non
  | i + 1 => nsS w (nsI w i)
theorem inn_chS {w : Nat} (hw : w < 3) (t : D) : innD (chS w t) = some [t] := by
  rcases (by omega : w = 0 ∨ w = 1 ∨ w = 2) with rfl | rfl | rfl
  · exact inn_twice t
  · exact inn_void t .non
  · exact inn_mem (.str "s") .non [t]
theorem gd_chS {w : Nat} (hw : w < 3) {t : D} (h : gd t = true) : gd (chS w t) = true := by
  obtain ⟨k1, k2, k3, k4, k5, k6, _⟩ := sk_w
  rcases (by omega : w = 0 ∨ w = 1 ∨ w = 2) with rfl | rfl | rfl
  · show gd (.tup [.str "twice", t]) = true
    simp [gd, gds, h, k1]
  · show gd (.tup [.str "void", t, .non]) = true
    simp [gd, gds, h, k4]
  · show gd (.tup [.str "members", .str "s", .non, .tup [t]]) = true
    simp [gd, gds, h, k5, k6]
theorem chI_ok {w : Nat} (hw : w < 3) : ∀ i, gd (chI w i) = true ∧ cnt (chI w i) = i + 1 ∧ dpt (chI w i) = i + 1 ∧ pops (chI w i) = i + 1
  | 0 => ⟨held0_gd, cp0 (inn_held _)⟩
  | i + 1 => by
    obtain ⟨a, b, c, d⟩ := chI_ok hw i
    obtain ⟨b', c', d'⟩ := cp1 (inn_chS hw (chI w i))
    rw [chI]
    exact ⟨gd_chS hw a, by omega, by omega, by omega⟩
theorem nsI_ok {w : Nat} (hw : w < 3) : ∀ i, gd (nsI w i) = true ∧ innD (nsI w i) = none ∧ isS (nsI w i) = false
  | 0 => ⟨by rw [nsI]; simp [gd], rfl, rfl⟩
  | i + 1 => by
    obtain ⟨a, b, c⟩ := nsI_ok hw i
    obtain ⟨k1, k2, k3, k4, k5, k6, k7, _⟩ := sk_w
    rw [nsI]
    rcases (by omega : w = 0 ∨ w = 1 ∨ w = 2) with rfl | rfl | rfl
    · exact ⟨by show gd (.tup [nsI 0 i]) = true; simp [gd, gds, a], inn_one _ c _, rfl⟩
    · exact ⟨by show gd (.tup [.str "no", nsI 1 i]) = true; simp [gd, gds, a, k7], inn_no _, rfl⟩
    · exact ⟨by show gd (.tup [.str "pair", nsI 2 i]) = true; simp [gd, gds, a, k2], inn_pair1 _, rfl⟩
theorem d1_ok {s0 s3 : Option S} {m : List MO} : D1 ⟨[s0, none, none, s3], m⟩ = .ok .nx ⟨[s0, some (.d held0), some (.d .non), s3], m⟩ := by
  unfold D1
  walk_at "ey"
  rfl
theorem dl1_ok {n : Int} {w : Nat} (hw : w < 3) (hn : n / 540 % 3 = (w : Int)) {t : D} {s2 s3 : Option S} {m : List MO} : DL1 ⟨[some (.d (.int n)), some (.d t), s2, s3], m⟩ = .ok .nx ⟨[some (.d (.int n)), some (.d (chS w t)), s2, s3], m⟩ := by
  have e := dIx_l (xs := [.tup [.str "twice", t], .tup [.str "void", t, .non], .tup [.str "members", .str "s", .non, .tup [t]]]) (i := w) hw
  unfold DL1
  walk_at "ey"
  rw [hn]
  walk_at "ey"
  rw [e]
  rfl
theorem dl2_ok {n : Int} {w : Nat} (hw : w < 3) (hn : n / 1620 % 3 = (w : Int)) {t : D} {s1 s3 : Option S} {m : List MO} : DL2 ⟨[some (.d (.int n)), s1, some (.d t), s3], m⟩ = .ok .nx ⟨[some (.d (.int n)), s1, some (.d (nsS w t)), s3], m⟩ := by
  have e := dIx_l (xs := [.tup [t], .tup [.str "no", t], .tup [.str "pair", t]]) (i := w) hw
  unfold DL2
  walk_at "ey"
  rw [hn]
  walk_at "ey"
  rw [e]
  rfl
theorem d2_ok {n : Int} {u w : Nat} (hu : u < 3) (hw : w < 3) (eu : n / 540 % 3 = (u : Int)) (ew : n / 1620 % 3 = (w : Int)) {m : List MO} : ∃ (k : Nat) (s3 : Option S), 150 ≤ k ∧ k ≤ 700 ∧ D2 ⟨[some (.d (.int n)), some (.d held0), some (.d .non), none], m⟩ = .ok .nx ⟨[some (.d (.int n)), some (.d (chI u (k + 1))), some (.d (nsI w (k + 1))), s3], m⟩ := by
  obtain ⟨v, ev, hv⟩ := ix3 540 540 190 (n / 540 % 3) (by omega) (by omega)
  have v0 : 0 < v ∧ v ≤ 540 := by omega
  have r0 := Int.emod_nonneg n (show v ≠ 0 by omega)
  have r1 := Int.emod_lt_of_pos n v0.1
  obtain ⟨k, hk⟩ : ∃ k : Nat, 151 + n % v = ((k + 1 : Nat) : Int) := ⟨(150 + n % v).toNat, by omega⟩
  have it : (iRg1M (aCons (opd (eBin dAdd (eC (.int 151)) (eBin dMod (eVar 0) (eBin dIx (eLst (aCons (escf (eC (.int 540))) (aCons (escf (eC (.int 540))) (aCons (escf (eC (.int 190))) aNil)))) (eBin dMod (eBin dFdiv (eVar 0) (eC (.int 540))) (eC (.int 3))))))) aNil) : Sm MX (List D)) ⟨[some (.d (.int n)), some (.d held0), some (.d .non), none], m⟩ = .ok (rangeD 0 (k + 1)) ⟨[some (.d (.int n)), some (.d held0), some (.d .non), none], m⟩ := by
    simp only [iRg1M]
    walk_at "ey"
    rw [ev]
    walk_at "ey"
    rw [modA _ _ v0.1]
    walk_at "ey"
    rw [hk, if_pos (rg_lim (by omega) (by omega)), Int.toNat_natCast]
  obtain ⟨z', e, s3, ez⟩ := for_step (kk := kName (M := MX) 3) (b := sSeq DL1 DL2) (fun i z => ∃ s3, z = ⟨[some (.d (.int n)), some (.d (chI u i)), some (.d (nsI w i)), s3], m⟩) (fun i x z hz => by
    obtain ⟨s3, rfl⟩ := hz
    exact ⟨_, ⟨[some (.d (.int n)), some (.d (chI u (i + 1))), some (.d (nsI w (i + 1))), some (.d x)], m⟩, rfl, (seq_nx (dl1_ok hu eu)).trans (dl2_ok hw ew), _, rfl⟩) (rangeD 0 (k + 1)) 0 ⟨[some (.d (.int n)), some (.d held0), some (.d .non), none], m⟩ ⟨none, rfl⟩
  rw [ez, range_len, Nat.zero_add] at e
  refine ⟨k, s3, by omega, by omega, ?_⟩
  have := ci_for (F := iRg1M (aCons (opd (eBin dAdd (eC (.int 151)) (eBin dMod (eVar 0) (eBin dIx (eLst (aCons (escf (eC (.int 540))) (aCons (escf (eC (.int 540))) (aCons (escf (eC (.int 190))) aNil)))) (eBin dMod (eBin dFdiv (eVar 0) (eC (.int 540))) (eC (.int 3))))))) aNil)) it e
  simp only [DL1, DL2] at this
  unfold D2
  exact this
theorem d3_ok {call : Fn → List S → List MO → Rs S (List MO)} {t x : D} {s0 s2 s3 : Option S} {m : List MO} (h1 : call .many_in [.d t] m = .ok (.d (pr 4001 151)) m) (h2 : call .inner [.d t] m = .ok (.l [x]) m) :
    D3 call ⟨[s0, some (.d t), s2, s3], m⟩ = .ok .nx ⟨[s0, some (.d t), s2, s3], m⟩ := by
  have f := call1 (i := 1) (z := (⟨[s0, some (.d t), s2, s3], m⟩ : Z (List MO))) rfl h1
  have g : (eTup (aCons (escf (eC (.int 4001))) (aCons (escf (eC (.int 151))) aNil)) : Sm MX S) ⟨[s0, some (.d t), s2, s3], m⟩ = .ok (.d (pr 4001 151)) ⟨[s0, some (.d t), s2, s3], m⟩ := rfl
  have q := neq_t f g
  have r : (tOf (eBin dNe (eFn fLen (aCons (opd (eCall (call .inner) (aCons (escf (eVar 1)) aNil))) aNil)) (eC (.int 1))) : Sm MX Bool) ⟨[s0, some (.d t), s2, s3], m⟩ = .ok false ⟨[s0, some (.d t), s2, s3], m⟩ := by
    walk_at "ey"
    rw [h2]
    walk_at "ey"
    rfl
  unfold D3
  simp only [sIf, tOrM, q, r, Rs.bind_ok, Bool.false_eq_true, if_false, sNil]
theorem d4_ok {call : Fn → List S → List MO → Rs S (List MO)} {t : D} {s0 s1 s3 : Option S} {m : List MO} (h1 : call .many_in [.d t] m = .ok (.d (pr 0 0)) m) (h2 : call .inner [.d t] m = .ok (.d .non) m) :
    D4 call ⟨[s0, s1, some (.d t), s3], m⟩ = .ok .nx ⟨[s0, s1, some (.d t), s3], m⟩ := by
  have f := call1 (i := 2) (z := (⟨[s0, s1, some (.d t), s3], m⟩ : Z (List MO))) rfl h1
  have g : (eTup (aCons (escf (eC (.int 0))) (aCons (escf (eC (.int 0))) aNil)) : Sm MX S) ⟨[s0, s1, some (.d t), s3], m⟩ = .ok (.d (pr 0 0)) ⟨[s0, s1, some (.d t), s3], m⟩ := rfl
  have q := neq_t f g
  have r : (tOf (eBin dIsNot (eCall (call .inner) (aCons (escf (eVar 2)) aNil)) (eC .non)) : Sm MX Bool) ⟨[s0, s1, some (.d t), s3], m⟩ = .ok false ⟨[s0, s1, some (.d t), s3], m⟩ := by
    walk_at "ey"
    rw [h2]
    walk_at "ey"
    rfl
  unfold D4
  simp only [sIf, tOrM, q, r, Rs.bind_ok, Bool.false_eq_true, if_false, sNil]
theorem d5_ok {call : Fn → List S → List MO → Rs S (List MO)} {t u : D} {s0 s3 : Option S} {m : List MO} (h1 : call .many_in [.d (.tup [.str "pair", u, .tup [.str "use", u]])] m = .ok (.d (pr 2 2)) m) (h2 : call .many_in [.d (.tup [.str "take", t, u])] m = .ok (.d (pr 1 1)) m) :
    D5 call ⟨[s0, some (.d t), some (.d u), s3], m⟩ = .ok (.rt (.d (.bl true))) ⟨[s0, some (.d t), some (.d u), s3], m⟩ := by
  have e1 : (eBin dEq (eCall (call .many_in) (aCons (escf (eTup (aCons (escf (eC (.str "pair"))) (aCons (escf (eVar 2)) (aCons (escf (eTup (aCons (escf (eC (.str "use"))) (aCons (escf (eVar 2)) aNil)))) aNil))))) aNil)) (eTup (aCons (escf (eC (.int 2))) (aCons (escf (eC (.int 2))) aNil))) : Sm MX S) ⟨[s0, some (.d t), some (.d u), s3], m⟩ = .ok (.d (.bl true)) ⟨[s0, some (.d t), some (.d u), s3], m⟩ := by
    refine eq_pr (a := 2) (b := 2) ?_ rfl
    walk_at "ey"
    rw [h1]
    walk_at "ey"
  have e2 : (eBin dEq (eCall (call .many_in) (aCons (escf (eTup (aCons (escf (eC (.str "take"))) (aCons (escf (eVar 1)) (aCons (escf (eVar 2)) aNil))))) aNil)) (eTup (aCons (escf (eC (.int 1))) (aCons (escf (eC (.int 1))) aNil))) : Sm MX S) ⟨[s0, some (.d t), some (.d u), s3], m⟩ = .ok (.d (.bl true)) ⟨[s0, some (.d t), some (.d u), s3], m⟩ := by
    refine eq_pr (a := 1) (b := 1) ?_ rfl
    walk_at "ey"
    rw [h2]
    walk_at "ey"
  unfold D5
  simp only [sRet, escf, eAndM, tOf, e1, Rs.bind_ok, e2, if_true, escS, opd, rd]
theorem deep_ok (q : Nat) (hq : 2 ≤ q) (n : Int) (m : List MO) : mir (q + 1) ._law_deep_right [.d (.int n)] m = .ok (.d (.bl true)) m := by
  obtain ⟨p, rfl⟩ : ∃ p, q = p + 2 := ⟨q - 2, by omega⟩
  obtain ⟨u, hu⟩ : ∃ u : Nat, n / 540 % 3 = (u : Int) := ⟨(n / 540 % 3).toNat, by omega⟩
  obtain ⟨w, hw⟩ : ∃ w : Nat, n / 1620 % 3 = (w : Int) := ⟨(n / 1620 % 3).toNat, by omega⟩
  have u3 : u < 3 := by omega
  have w3 : w < 3 := by omega
  have e1 := d1_ok (s0 := some (.d (.int n))) (s3 := none) (m := m)
  obtain ⟨k, s3, k1, k2, e2⟩ := d2_ok u3 w3 hu hw (m := m)
  obtain ⟨c1, c2, c3, c4⟩ := chI_ok u3 (k + 1)
  obtain ⟨n1, n2, n3⟩ := nsI_ok w3 (k + 1)
  have lm : (lim : Nat) = 1000000 := rfl
  have iC : innS (chI u (k + 1)) = .l [chI u k] := by
    unfold innS
    rw [chI, inn_chS u3]
  have iN : innS (nsI w (k + 1)) = .d .non := by
    unfold innS
    rw [n2]
  have m3 := many_ok p c1 (by omega) m
  rw [many_neg (.inr (by omega))] at m3
  have i3 := inner_ok (p + 1) c1 m
  rw [iC] at i3
  have m4 := many_ok p n1 (by rw [pops_none n2]; omega) m
  rw [many_pos (by rw [cnt_none n2]; omega) (by rw [dpt_none n2]; omega), cnt_none n2, dpt_none n2] at m4
  have i4 := inner_ok (p + 1) n1 m
  rw [iN] at i4
  obtain ⟨x1, x2, x3, x4, x5, x6, x7, x8, x9, x10⟩ := sk_w
  have gp : gd (.tup [.str "pair", nsI w (k + 1), .tup [.str "use", nsI w (k + 1)]]) = true := by simp [gd, gds, n1, x2, x9]
  have gt : gd (.tup [.str "take", chI u (k + 1), nsI w (k + 1)]) = true := by simp [gd, gds, n1, c1, x10]
  obtain ⟨y1, y2, y3⟩ := cp0 (inn_use (nsI w (k + 1)))
  obtain ⟨z1, z2, z3⟩ := cp2 (inn_pair (nsI w (k + 1)) (.tup [.str "use", nsI w (k + 1)]))
  rw [y1, cnt_none n2] at z1
  rw [y2, dpt_none n2] at z2
  rw [y3, pops_none n2] at z3
  obtain ⟨t1, t2, t3⟩ := cp1 (inn_take (chI u (k + 1)) (nsI w (k + 1)))
  rw [cnt_none n2] at t1
  rw [dpt_none n2] at t2
  rw [pops_none n2] at t3
  have m5 := many_ok p gp (by omega) m
  rw [many_pos (by omega) (by omega), z1, z2] at m5
  have m6 := many_ok p gt (by omega) m
  rw [many_pos (by omega) (by omega), t1, t2] at m6
  have e3 := d3_ok (call := mir (p + 2)) (s0 := some (.d (.int n))) (s2 := some (.d (nsI w (k + 1)))) (s3 := s3) m3 i3
  have e4 := d4_ok (call := mir (p + 2)) (s0 := some (.d (.int n))) (s1 := some (.d (chI u (k + 1)))) (s3 := s3) m4 i4
  have e5 := d5_ok (call := mir (p + 2)) (s0 := some (.d (.int n))) (s3 := s3) m5 m6
  have all := (seq_nx (g := sSeq D2 (sSeq (D3 (mir (p + 2))) (sSeq (D4 (mir (p + 2))) (D5 (mir (p + 2)))))) e1)
  rw [seq_nx e2, seq_nx e3, seq_nx e4, e5] at all
  show fnM 4 (m__law_deep_right (mir (p + 2))) [.d (.int n)] m = _
  simp only [D1, D2, D3, D4, D5] at all
  unfold m__law_deep_right
  exact fnM_d all
end L
set_option pp.maxSteps 400
set_option pp.deepTerms false
namespace L
open PySem L2 G
local macro_rules | `(tactic| walk_at "ey") => `(tactic| try simp only [sSpot, eSpot, sSeq, sSet, sExpr, sRet, sIf, sAsg, una, escf, escS, opd, eVar, eC, eBin, eUn, eFn, eCall, eTup, eLst, aCons, aNil, fin, rd, rds, R.toS, dsOf, Rs.bind_ok, Rs.bind_bad, Rs.bind_ex, Rs.opt_some, Option.bind_some, Option.map_some, ownAt, eExt, eApp, ePop, List.getElem?_cons_zero, List.getElem?_cons_succ, List.set_cons_zero, List.set_cons_succ, okArg, List.all_cons, List.all_nil, Bool.and_self, if_true, kName, kTup, ksCons, ksNil, tOf, List.length_cons, List.length_nil, Bool.not_false, Bool.not_true, if_false, Bool.false_eq_true, lm0, lm1, lm2, lm3, lm4, lm5, lm6, lm7, lm8, lm9, lm10, lm11, lm12, fnM, List.map_cons, List.map_nil, List.replicate, List.cons_append, List.nil_append, Nat.reduceAdd, Nat.reduceSub, sNil, tAndM, tOrM, tNotM, tTru, dTru, eIf, dSub_i, dAdd_i, dLt_i, dLe_i, dGt_i, dGe_i, dEq_i, decide_true, decide_false, eChain, eAndM, eSl, oInt, dNeg, fInt, aDef, fTuple, dv5, dv20, dv25, dv100, dv540, dv1620, mo3, mo5, mo18, mo30, mo90, mo150, mo4000])

/-! the law -/
def A1 : Sm MX Out := (sSet 1 (eNewL (aCons (escf (eC (.int 0))) aNil)))
def AI : Sm MX (List D) := (iRg1M (aCons (opd (eBin dAdd (eC (.int 2)) (eFn fMin (aCons (opd (eC (.int 63))) (aCons (opd (eFn fLen (aCons (opd (eVar 0)) aNil))) aNil))))) aNil))
def AL1 (call : Fn → List S → List MO → Rs S (List MO)) : Sm MX Out := (sSet 3 (eCall (call ._law_form) (aCons (escf (eVar 0)) (aCons (escf (eVar 1)) (aCons (escf (eBin dAdd (eC (.int 1)) (eBin dMod (eVar 2) (eC (.int 5))))) aNil)))))
def AL2 (call : Fn → List S → List MO → Rs S (List MO)) : Sm MX Out := (sIf (tOrM (tNotM (tTru dTru (eCall (call ._law_told_right) (aCons (escf (eVar 3)) aNil)))) (tNotM (tTru dTru (eCall (call ._law_told_right) (aCons (escf (eCall (call ._law_odd) (aCons (escf (eCall (call ._law_cell) (aCons (escf (eVar 0)) (aCons (escf (eVar 1)) aNil)))) aNil))) aNil))))) (sRet (eC (.bl false))) sNil)
def A3 (call : Fn → List S → List MO → Rs S (List MO)) : Sm MX Out := (sRet (eAndM (eCall (call ._law_bounds_right) (aCons (escf (eCall (call ._law_cell) (aCons (escf (eVar 0)) (aCons (escf (eVar 1)) aNil)))) aNil)) (eCall (call ._law_deep_right) (aCons (escf (eCall (call ._law_cell) (aCons (escf (eVar 0)) (aCons (escf (eVar 1)) aNil)))) aNil))))

def rg (k : Nat) : Nat → List D
  | 0 => []
  | n + 1 => .int (k : Int) :: rg (k + 1) n
theorem rg_get : ∀ (n k i : Nat), (rg k n)[i]? = if i < n then some (.int ((k + i : Nat) : Int)) else none
  | 0, k, i => by rw [rg]; simp
  | n + 1, k, 0 => by rw [rg]; simp
  | n + 1, k, i + 1 => by
    rw [rg, List.getElem?_cons_succ, rg_get n (k + 1) i, show k + 1 + i = k + (i + 1) from by omega]
    by_cases q : i < n
    · rw [if_pos q, if_pos (by omega)]
    · rw [if_neg q, if_neg (by omega)]
theorem range_rg (n : Nat) : rangeD 0 n = rg 0 n := by
  refine List.ext_getElem? fun i => ?_
  rw [rg_get]
  unfold rangeD
  rw [List.getElem?_map]
  by_cases q : i < n
  · rw [if_pos q, List.getElem?_range q, Option.map_some]; simp
  · rw [if_neg q, List.getElem?_eq_none (by rw [List.length_range]; omega)]; rfl
theorem for_inv {kk : D → Z (List MO) → Option (Z (List MO))} {b : Sm MX Out} {N : Nat} (Inv : Nat → Z (List MO) → Prop) (step : ∀ i z, i < N → Inv i z → ∃ z1 z2, kk (.int (i : Int)) z = some z1 ∧ b z1 = .ok .nx z2 ∧ Inv (i + 1) z2) : ∀ (n i : Nat) (z : Z (List MO)), i + n = N → Inv i z → ∃ z', forL (M := MX) kk b (rg i n) z = .ok .nx z' ∧ Inv N z'
  | 0, i, z, h, hi => ⟨z, rfl, by rw [← h]; exact hi⟩
  | n + 1, i, z, h, hi => by
    obtain ⟨z1, z2, e1, e2, i2⟩ := step i z (by omega) hi
    obtain ⟨z', e, i3⟩ := for_inv Inv step n (i + 1) z2 (by omega) i2
    refine ⟨z', ?_, i3⟩
    rw [rg]
    conv => lhs; unfold forL
    simp only [e1]
    rw [e2]
    exact e
theorem ai_ok {ns : List Int} (h : ns.length ≤ 63) {s1 : Option S} {m : List MO} : ∃ k : Nat, k ≤ 65 ∧ AI ⟨[some (.d (.scr ns)), s1, none, none], m⟩ = .ok (rangeD 0 k) ⟨[some (.d (.scr ns)), s1, none, none], m⟩ := by
  obtain ⟨j, hj⟩ : ∃ j : Int, j = 2 + (if ((ns.length : Nat) : Int) < 63 then ((ns.length : Nat) : Int) else 63) := ⟨_, rfl⟩
  have j0 : 0 ≤ j ∧ j ≤ 65 := by rw [hj]; split <;> omega
  refine ⟨j.toNat, by omega, ?_⟩
  unfold AI
  simp only [iRg1M]
  walk_at "ey"
  rw [lenA]
  walk_at "ey"
  simp only [fMin]
  walk_at "ey"
  rw [← hj, if_pos (rg_lim (by omega) (by omega))]
theorem al1_ok {call : Fn → List S → List MO → Rs S (List MO)} {ns : List Int} {i : Nat} {t : D} {s3 : Option S} {m m' : List MO} (h : call ._law_form [.d (.scr ns), .d (.o 0), .d (.int (((1 + i % 5 : Nat)) : Int))] m = .ok (.d t) m') :
    AL1 call ⟨[some (.d (.scr ns)), some (.d (.o 0)), some (.d (.int (i : Int))), s3], m⟩ = .ok .nx ⟨[some (.d (.scr ns)), some (.d (.o 0)), some (.d (.int (i : Int))), some (.d t)], m'⟩ := by
  unfold AL1
  walk_at "ey"
  rw [show (1 : Int) + (i : Int) % 5 = (((1 + i % 5 : Nat)) : Int) from by omega, h]
  walk_at "ey"
theorem al2_ok {call : Fn → List S → List MO → Rs S (List MO)} {ns : List Int} {r : Int} {t u : D} {s2 : Option S} {m m1 m2 m3 m4 : List MO} (h1 : call ._law_told_right [.d t] m = .ok (.d (.bl true)) m1) (h2 : call ._law_cell [.d (.scr ns), .d (.o 0)] m1 = .ok (.d (.int r)) m2) (h3 : call ._law_odd [.d (.int r)] m2 = .ok (.d u) m3) (h4 : call ._law_told_right [.d u] m3 = .ok (.d (.bl true)) m4) :
    AL2 call ⟨[some (.d (.scr ns)), some (.d (.o 0)), s2, some (.d t)], m⟩ = .ok .nx ⟨[some (.d (.scr ns)), some (.d (.o 0)), s2, some (.d t)], m4⟩ := by
  unfold AL2
  walk_at "ey"
  rw [h1]
  walk_at "ey"
  rw [h2]
  walk_at "ey"
  rw [h3]
  walk_at "ey"
  rw [h4]
  walk_at "ey"
theorem a3_ok {call : Fn → List S → List MO → Rs S (List MO)} {ns : List Int} {r r' : Int} {s2 s3 : Option S} {m m1 m2 m3 m4 : List MO} (h1 : call ._law_cell [.d (.scr ns), .d (.o 0)] m = .ok (.d (.int r)) m1) (h2 : call ._law_bounds_right [.d (.int r)] m1 = .ok (.d (.bl true)) m2) (h3 : call ._law_cell [.d (.scr ns), .d (.o 0)] m2 = .ok (.d (.int r')) m3) (h4 : call ._law_deep_right [.d (.int r')] m3 = .ok (.d (.bl true)) m4) :
    A3 call ⟨[some (.d (.scr ns)), some (.d (.o 0)), s2, s3], m⟩ = .ok (.rt (.d (.bl true))) ⟨[some (.d (.scr ns)), some (.d (.o 0)), s2, s3], m4⟩ := by
  unfold A3
  walk_at "ey"
  rw [h1]
  walk_at "ey"
  rw [h2]
  walk_at "ey"
  rw [h3]
  walk_at "ey"
  rw [h4]
  walk_at "ey"
theorem dr_le {d : Nat} (h : d ≤ 5) : Dr d ≤ 2000 := (wf_5 h).2.2
theorem top_eq : TOP = 10000000000000 := rfl
theorem law_body {ns : List Int} (hl : ns.length ≤ 63) (i : Nat) {s3 : Option S} (q : Int) (G : List MO) (h0 : 0 ≤ q) (h1 : q ≤ 1000000000) : ∃ (t3 : Option S) (q' : Int) (G' : List MO), (sSeq (AL1 (mir 200)) (AL2 (mir 200)) : Sm MX Out) ⟨[some (.d (.scr ns)), some (.d (.o 0)), some (.d (.int (i : Int))), s3], sp q G⟩ = .ok .nx ⟨[some (.d (.scr ns)), some (.d (.o 0)), some (.d (.int (i : Int))), t3], sp q' G'⟩ ∧ 0 ≤ q' ∧ q' ≤ q + 2001 := by
  have d5 : 1 + i % 5 ≤ 5 := by omega
  have dr := dr_le d5
  have te := top_eq
  obtain ⟨t, q1, G1, e1, f1, b1, b2⟩ := form_ok ns (by omega) (1 + i % 5) 200 q G (by omega) h0 (by omega)
  obtain ⟨j1, t1⟩ := told_fm d5 f1 (N := 199) (by omega) q1 G1
  obtain ⟨r, e2, r0⟩ := cell_ok 199 ns q1 (G1 ++ j1) (by omega) (by omega) (by omega)
  obtain ⟨u, hu, e3⟩ := odd_ok 199 r (sp (q1 + 1) (G1 ++ j1))
  obtain ⟨j2, t2⟩ := told_fm (d := 0) (by omega) (fm_odd 0 hu) (N := 199) (by omega) (q1 + 1) (G1 ++ j1)
  exact ⟨_, _, _, (seq_nx (al1_ok e1)).trans (al2_ok t1 e2 e3 t2), by omega, by omega⟩
theorem law_gen {N : Nat} {F : Sm MX Out} {call : Fn → List S → List MO → Rs S (List MO)} {ns : List Int} {z1 z2 : Z (List MO)} (h1 : A1 (zX 3 ns) = .ok .nx z1) (h2 : F z1 = .ok .nx z2) {z3 : Z (List MO)} (h3 : A3 call z2 = .ok (.rt (.d (.bl true))) z3) : (sSeq A1 (sSeq F (A3 call)) : Sm MX Out) (zX 3 ns) = .ok (.rt (.d (.bl true))) z3 := by
  exact (seq_nx (f := A1) (g := sSeq F (A3 call)) h1).trans ((seq_nx (f := F) (g := A3 call) h2).trans h3)
theorem law_true : ∀ ns : List Int, ns.length ≤ 63 → (∀ z ∈ ns, Builtin.Int.intBits z ≤ 1048576) → ∃ z', m_law (mir lawLevel) (zX 3 ns) = .ok (.rt (.d (.bl true))) z' := by
  intro ns hl _
  have e1 : A1 (zX 3 ns) = .ok .nx ⟨[some (.d (.scr ns)), some (.d (.o 0)), none, none], sp 0 []⟩ := rfl
  obtain ⟨k, hk, it⟩ := ai_ok hl (s1 := some (.d (.o 0))) (m := sp 0 [])
  rw [range_rg] at it
  obtain ⟨z', e2, s2, s3, q, G, ez, b1, b2⟩ := for_inv (kk := kName (M := MX) 2) (b := (sSeq (AL1 (mir 200)) (AL2 (mir 200)))) (N := k) (fun i z => ∃ (s2 s3 : Option S) (q : Int) (G : List MO), z = ⟨[some (.d (.scr ns)), some (.d (.o 0)), s2, s3], sp q G⟩ ∧ 0 ≤ q ∧ q ≤ 2001 * (i : Int)) (fun i z hi hz => by
    obtain ⟨s2, s3, q, G, rfl, b1, b2⟩ := hz
    obtain ⟨t3, q', G', e, c1, c2⟩ := law_body hl i (s3 := s3) q G b1 (by omega)
    exact ⟨_, _, rfl, e, _, _, q', G', rfl, c1, by omega⟩) k 0 ⟨[some (.d (.scr ns)), some (.d (.o 0)), none, none], sp 0 []⟩ (by omega) ⟨_, _, 0, [], rfl, by omega, by omega⟩
  rw [ez] at e2
  have hF := ci_for (F := AI) it e2
  obtain ⟨r, c1, _⟩ := cell_ok 199 ns q G (by omega) b1 (by omega)
  obtain ⟨r', c2, _⟩ := cell_ok 199 ns (q + 1) G (by omega) (by omega) (by omega)
  have e3 := a3_ok (s2 := s2) (s3 := s3) c1 (bounds_ok 199 (by omega) r (sp (q + 1) G)) c2 (deep_ok 199 (by omega) r' (sp (q + 1 + 1) G))
  have all := law_gen (N := 0) e1 hF e3
  have all2 : m_law (mir lawLevel) (zX 3 ns) = .ok (.rt (.d (.bl true))) ⟨[some (.d (.scr ns)), some (.d (.o 0)), s2, s3], sp (q + 1 + 1) G⟩ := by
    simp only [A1, AI, AL1, AL2, A3] at all
    unfold m_law lawLevel
    exact all
  exact ⟨_, all2⟩
end L
open PySem PySem.W PyProof.Rows
set_option maxRecDepth 100000 in
set_option maxHeartbeats 0 in
theorem PySem.Challenge.cw_groundroom_k10_forms_of_grounds_holds : PySem.Challenge.rw_groundroom_k10_forms_of_grounds.Holds := by
  w_on; o_law; k_head; (case hw => w_witness2)
  k_fill
  refine G.walkGS (by kernel_rfl) (l := PySem.Challenge.rw_groundroom_k10_forms_of_grounds) (m := 63) (n := L.lawLevel + 9) (x := "_law_script") (CX := fun w => L2.CX PySem.Challenge.rw_groundroom_k10_forms_of_grounds.prog w) (sp := fun w => G.spLaw _) rfl (by decide) rfl ⟨rfl, by decide, by decide⟩ (fun w h Y => PySem.W.kIn_of Y) ?F (fun _ _ a ns hl hb _ hS => ⟨a, ns, rfl, hS, hl, hb, fun _ => rfl⟩) (fun w H s e s' h => by
    obtain ⟨_, _, _, _, _, _, _, _, _, _, _, _, z⟩ := h
    exact z)
  case F =>
    intro w mg fa h KX G hmg
    refine' L.all_mk KX G hmg ?a0 ?l0 ?c0 ?k0 ?a1 ?l1 ?c1 ?k1 ?a2 ?l2 ?c2 ?k2 ?a3 ?l3 ?c3 ?k3 ?a4 ?l4 ?c4 ?k4 ?a5 ?l5 ?c5 ?k5 ?a6 ?l6 ?c6 ?k6 ?a7 ?l7 ?c7 ?k7 ?a8 ?l8 ?c8 ?k8 ?a9 ?l9 ?c9 ?k9 ?a10 ?l10 ?c10 ?k10 ?a11 ?l11 ?c11 ?k11 ?a12 ?l12 ?c12 ?k12 ?z_int ?z_isinstance ?z_len ?z_list ?z_max ?z_min ?z_range ?z_repr ?z_str ?z_sum ?z_tuple ?z_zip ?g_SIZES ?gl_SIZES ?gs_SIZES ?g_SPOTS ?gl_SPOTS ?gs_SPOTS ?vl0_SPOTS ?vl1_SPOTS ?vl2_SPOTS ?vl3_SPOTS ?vl4_SPOTS ?vl5_SPOTS ?vl6_SPOTS ?vl7_SPOTS ?vl8_SPOTS ?vl9_SPOTS ?vl10_SPOTS ?vl11_SPOTS ?vl12_SPOTS ?vl13_SPOTS ?vl14_SPOTS ?vl15_SPOTS ?vl16_SPOTS ?vl17_SPOTS ?vl18_SPOTS ?vl19_SPOTS ?vl20_SPOTS ?g_MOST_DEEP ?g_MOST_GROUNDS L.law_true
    (case a0 => k_is)
    (case l0 => k_is)
    (case c0 => k_is)
    (case k0 => k_is)
    (case a1 => k_is)
    (case l1 => k_is)
    (case c1 => k_is)
    (case k1 => k_is)
    (case a2 => k_is)
    (case l2 => k_is)
    (case c2 => k_is)
    (case k2 => k_is)
    (case a3 => k_is)
    (case l3 => k_is)
    (case c3 => k_is)
    (case k3 => k_is)
    (case a4 => k_is)
    (case l4 => k_is)
    (case c4 => k_is)
    (case k4 => k_is)
    (case a5 => k_is)
    (case l5 => k_is)
    (case c5 => k_is)
    (case k5 => k_is)
    (case a6 => k_is)
    (case l6 => k_is)
    (case c6 => k_is)
    (case k6 => k_is)
    (case a7 => k_is)
    (case l7 => k_is)
    (case c7 => k_is)
    (case k7 => k_is)
    (case a8 => k_is)
    (case l8 => k_is)
    (case c8 => k_is)
    (case k8 => k_is)
    (case a9 => k_is)
    (case l9 => k_is)
    (case c9 => k_is)
    (case k9 => k_is)
    (case a10 => k_is)
    (case l10 => k_is)
    (case c10 => k_is)
    (case k10 => k_is)
    (case a11 => k_is)
    (case l11 => k_is)
    (case c11 => k_is)
    (case k11 => k_is)
    (case a12 => k_is)
    (case l12 => k_is)
    (case c12 => k_is)
    (case k12 => k_is)
    (case z_int => k_is)
    (case z_isinstance => k_is)
    (case z_len => k_is)
    (case z_list => k_is)
    (case z_max => k_is)
    (case z_min => k_is)
    (case z_range => k_is)
    (case z_repr => k_is)
    (case z_str => k_is)
    (case z_sum => k_is)
    (case z_tuple => k_is)
    (case z_zip => k_is)
    (case g_SIZES => k_is)
    (case gl_SIZES => k_is)
    (case gs_SIZES => rfl)
    (case g_SPOTS => k_is)
    (case gl_SPOTS => k_is)
    (case gs_SPOTS => rfl)
    (case vl0_SPOTS => k_is)
    (case vl1_SPOTS => k_is)
    (case vl2_SPOTS => k_is)
    (case vl3_SPOTS => k_is)
    (case vl4_SPOTS => k_is)
    (case vl5_SPOTS => k_is)
    (case vl6_SPOTS => k_is)
    (case vl7_SPOTS => k_is)
    (case vl8_SPOTS => k_is)
    (case vl9_SPOTS => k_is)
    (case vl10_SPOTS => k_is)
    (case vl11_SPOTS => k_is)
    (case vl12_SPOTS => k_is)
    (case vl13_SPOTS => k_is)
    (case vl14_SPOTS => k_is)
    (case vl15_SPOTS => k_is)
    (case vl16_SPOTS => k_is)
    (case vl17_SPOTS => k_is)
    (case vl18_SPOTS => k_is)
    (case vl19_SPOTS => k_is)
    (case vl20_SPOTS => k_is)
    (case g_MOST_DEEP => k_is)
    (case g_MOST_GROUNDS => k_is)
