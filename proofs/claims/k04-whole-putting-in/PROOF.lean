import PyProof.Rows.All
import Wide.All
import OpenK.AllK
import Wide.FinOn
import HandS.ForMost
import HandS.ForExc
import HandS.Walk
import HandS.IsInst
import HandS.EndBits
import HandS.TupAny
import HandS.TupLe
import HandS.CallSlots
import HandS.Defaults
import HandS.Iter
import PyProof.ReprRoads
import PyProof.ReprLen
import HandS.Nested
import HandS.EndTab
import KE.KNestM
import HandS.ExcIs
import KE.GoesEnum
import KE.GoesMore
import HandS.Style
import PySem.Challenge.RW_groundroom_k04_whole_putting_in
set_option Elab.async false
set_option linter.all false
set_option maxRecDepth 100000
set_option maxHeartbeats 4000000
/-! The mirror calculus: data, states, results, readings that compute a mirror. -/
namespace G
open PySem L2

inductive D where
  | non
  | bl (b : Bool)
  | int (i : Int)
  | str (x : Str)
  | tup (xs : List D)
  | lst (xs : List D)
  | scr (ns : List Int)
  | emp
  | exc (c : Str) (xs : List D)
  /-- a mutable object of the store, by its number -/
  | o (n : Nat)
/-- the exception's object, known behind its suite -/
def XO (cls : Value) (d : Option Addr) (a : Addr) : HO := .ext fun h => ∃ (ox : Obj) (fs : Array Value), h.get? a = some ox ∧ Zc cls d ox ∧ ox.data = .fields fs
/-- the text's own name c, as the written part has it -/
def xrK (K : PySem.W.Frag) (c : Str) : Option Value := match PySem.W.nsIn K mainGlobals c with
  | some o => o
  | none => none

/-- the mark of a mutable object's number, held in the frozen part -/
def tag (n : Nat) : HO := .tbl #[rawInt n]
/-- all but the marks stay -/
def SameX (F H : Hp) : Prop := ∀ b o, F b = some o → (∀ ps, o ≠ .tbl ps) → H b = some o
def noT (F : Hp) : Hp := fun a => match F a with
  | some (.tbl _) => none
  | o => o
theorem noT_at {F : Hp} {a : Addr} {o : HO} (h : F a = some o) (n : ∀ ps, o ≠ .tbl ps) : noT F a = some o := by
  unfold noT
  rw [h]
  cases o with
  | tbl ps => exact (n ps rfl).elim
  | _ => rfl
theorem noT_of {F : Hp} {a : Addr} {o : HO} (h : noT F a = some o) : F a = some o ∧ ∀ ps, o ≠ .tbl ps := by
  unfold noT at h
  cases q : F a with
  | none => rw [q] at h; cases h
  | some u =>
    rw [q] at h
    cases u with
    | tbl ps => cases h
    | _ => cases h; exact ⟨rfl, fun ps e => by cases e⟩
theorem SameX.same {F H : Hp} (s : SameX F H) : Same (noT F) H := fun b o q => s b o (noT_of q).1 (noT_of q).2
/-- no new marks, and what is marked stays -/
def TgK (F F' H H' : Hp) : Prop := ∀ a ps, F' a = some (.tbl ps) → F a = some (.tbl ps) ∧ H' a = H a
theorem TgK.refl (F H : Hp) : TgK F F H H := fun _ _ h => ⟨h, rfl⟩
theorem sqT_mono {K : PySem.W.Frag} {H H' : Hp} {a : Addr} {xs : List V} (e : Same H H') (h : SqT K H a xs) : SqT K H' a xs := by
  rcases h with (h | ⟨o, h⟩) | h
  · exact .inl (.inl (e _ _ h))
  · exact .inl (.inr ⟨o, e _ _ h⟩)
  · exact .inr h

theorem tupNT {vs : List V} : ∀ ps, HO.tup vs ≠ .tbl ps := fun _ e => by cases e
theorem lstNT {vs : List V} : ∀ ps, HO.lst vs ≠ .tbl ps := fun _ e => by cases e
theorem SameX.tup {K : PySem.W.Frag} {F H : Hp} {a : Addr} {xs : List V} (e : SameX F H) (h : SqT K F a xs) : SqT K H a xs := by
  rcases h with (h | ⟨o, h⟩) | h
  · exact .inl (.inl (e _ _ h tupNT))
  · exact .inl (.inr ⟨o, e _ _ h (fun _ q => by cases q)⟩)
  · exact .inr h
theorem SameX.seq {K : PySem.W.Frag} {F H : Hp} {a : Addr} {xs : List V} (e : SameX F H) (h : SqL K F a xs) : SqL K H a xs := by
  rcases h with (h | ⟨o, h⟩) | h
  · exact .inl (.inl (e _ _ h lstNT))
  · exact .inl (.inr ⟨o, e _ _ h (fun _ q => by cases q)⟩)
  · exact .inr h
theorem SameX.lst {F H : Hp} {a : Addr} {xs : List V} (e : SameX F H) (h : F a = some (.lst xs)) : H a = some (.lst xs) := e _ _ h lstNT
theorem SameX.emp {F H : Hp} {a : Addr} (e : SameX F H) (h : F a = some (.dK [])) : H a = some (.dK []) := e _ _ h (fun _ q => by cases q)
theorem SameX.ext {F H : Hp} {a : Addr} {φ : Heap → Prop} (e : SameX F H) (h : F a = some (.ext φ)) : H a = some (.ext φ) := e _ _ h (fun _ q => by cases q)
theorem thenX {F F1 H : Hp} (a : Same F F1) (b : SameX F1 H) : SameX F H := fun c o h n => b c o (a c o h) n
theorem SameX.thenS {F H H1 : Hp} (a : SameX F H) (b : Same H H1) : SameX F H1 := fun c o h n => b c o (a c o h n)
theorem samX {F H : Hp} (a : Same F H) : SameX F H := fun c o h _ => a c o h
mutual
inductive Da (K : PySem.W.Frag) (F : Hp) : V → D → Prop
  | non : Da K F .non .non
  | bl (b : Bool) : Da K F (.bl b) (.bl b)
  | int (i : Int) : Da K F (.int i) (.int i)
  | str (x : Str) : Da K F (.str x) (.str x)
  | tup {a : Addr} {vs : List V} {ds : List D} : SqT K F a vs → DaAll K F vs ds → Da K F (.ref a) (.tup ds)
  | lst {a : Addr} {vs : List V} {ds : List D} : F a = some (.lst vs) → DaAll K F vs ds → Da K F (.ref a) (.lst ds)
  | scr {a : Addr} {ns : List Int} : SqL K F a (ns.map V.int) → Da K F (.ref a) (.scr ns)
  | emp {a : Addr} : F a = some (.dK []) → Da K F (.ref a) .emp
  | exc {a C : Addr} {c : Str} : F a = some (XO (.ref C) none a) → xrK K c = some (.ref C) → Da K F (.ref a) (.exc c [])
  | o {a : Addr} {n : Nat} : F a = some (tag n) → Da K F (.ref a) (.o n)
inductive DaAll (K : PySem.W.Frag) (F : Hp) : List V → List D → Prop
  | nil : DaAll K F [] []
  | cons {v : V} {vs : List V} {d : D} {ds : List D} : Da K F v d → DaAll K F vs ds → DaAll K F (v :: vs) (d :: ds)
end
mutual
theorem Da.mono {K : PySem.W.Frag} {F F' : Hp} (h : Same F F') : ∀ {v : V} {d : D}, Da K F v d → Da K F' v d
  | _, _, .non => .non
  | _, _, .bl b => .bl b
  | _, _, .int i => .int i
  | _, _, .str x => .str x
  | _, _, .tup q r => .tup (sqT_mono h q) (DaAll.mono h r)
  | _, _, .lst q r => .lst (h _ _ q) (DaAll.mono h r)
  | _, _, .scr q => .scr (h.seq q)
  | _, _, .emp q => .emp (h _ _ q)
  | _, _, .exc q r => .exc (h _ _ q) r
  | _, _, .o q => .o (h _ _ q)
theorem DaAll.mono {K : PySem.W.Frag} {F F' : Hp} (h : Same F F') : ∀ {vs : List V} {ds : List D}, DaAll K F vs ds → DaAll K F' vs ds
  | _, _, .nil => .nil
  | _, _, .cons a b => .cons (Da.mono h a) (DaAll.mono h b)
end
theorem DaAll.length {K : PySem.W.Frag} {F : Hp} : ∀ {vs : List V} {ds : List D}, DaAll K F vs ds → vs.length = ds.length
  | _, _, .nil => rfl
  | _, _, .cons _ b => congrArg (· + 1) (DaAll.length b)
theorem DaAll.get {K : PySem.W.Frag} {F : Hp} : ∀ {vs : List V} {ds : List D} {i : Nat} {d : D}, DaAll K F vs ds → ds[i]? = some d → ∃ v, vs[i]? = some v ∧ Da K F v d
  | _, _, _, _, .nil, e => by simp at e
  | _, _, 0, _, .cons a _, e => by simp at e; subst e; exact ⟨_, rfl, a⟩
  | _, _, i + 1, _, .cons _ b, e => by
    obtain ⟨v, h1, h2⟩ := DaAll.get (i := i) b (by simpa using e)
    exact ⟨v, by simpa using h1, h2⟩
theorem DaAll.getV {K : PySem.W.Frag} {F : Hp} : ∀ {vs : List V} {ds : List D} {i : Nat} {v : V}, DaAll K F vs ds → vs[i]? = some v → ∃ d, ds[i]? = some d ∧ Da K F v d
  | _, _, _, _, .nil, e => by simp at e
  | _, _, 0, _, .cons a _, e => by simp at e; subst e; exact ⟨_, rfl, a⟩
  | _, _, i + 1, _, .cons _ b, e => by
    obtain ⟨v, h1, h2⟩ := DaAll.getV (i := i) b (by simpa using e)
    exact ⟨v, by simpa using h1, h2⟩
theorem DaAll.append {K : PySem.W.Frag} {F : Hp} : ∀ {vs ws : List V} {ds es : List D}, DaAll K F vs ds → DaAll K F ws es → DaAll K F (vs ++ ws) (ds ++ es)
  | _, _, _, _, .nil, h => h
  | _, _, _, _, .cons a b, h => .cons a (DaAll.append b h)
theorem DaAll.take {K : PySem.W.Frag} {F : Hp} : ∀ {vs : List V} {ds : List D} (n : Nat), DaAll K F vs ds → DaAll K F (vs.take n) (ds.take n)
  | _, _, 0, _ => .nil
  | _, _, _ + 1, .nil => .nil
  | _, _, n + 1, .cons a b => .cons a (DaAll.take n b)
theorem DaAll.drop {K : PySem.W.Frag} {F : Hp} : ∀ {vs : List V} {ds : List D} (n : Nat), DaAll K F vs ds → DaAll K F (vs.drop n) (ds.drop n)
  | _, _, 0, h => h
  | _, _, _ + 1, .nil => .nil
  | _, _, n + 1, .cons _ b => DaAll.drop n b
theorem DaAll.dropLast {K : PySem.W.Frag} {F : Hp} {vs : List V} {ds : List D} (h : DaAll K F vs ds) : DaAll K F vs.dropLast ds.dropLast := by
  rw [List.dropLast_eq_take, List.dropLast_eq_take, h.length]
  exact h.take _
theorem DaAll.reverse {K : PySem.W.Frag} {F : Hp} : ∀ {vs : List V} {ds : List D}, DaAll K F vs ds → DaAll K F vs.reverse ds.reverse
  | _, _, .nil => .nil
  | _, _, .cons a b => by
    rw [List.reverse_cons, List.reverse_cons]
    exact (DaAll.reverse b).append (.cons a .nil)
theorem DaAll.set {K : PySem.W.Frag} {F : Hp} {v : V} {d : D} (hv : Da K F v d) : ∀ {vs : List V} {ds : List D} (n : Nat), DaAll K F vs ds → DaAll K F (vs.set n v) (ds.set n d)
  | _, _, _, .nil => .nil
  | _, _, 0, .cons _ b => .cons hv b
  | _, _, n + 1, .cons a b => .cons a (DaAll.set hv n b)
theorem DaAll.ints {K : PySem.W.Frag} {F : Hp} : ∀ (ns : List Int), DaAll K F (ns.map V.int) (ns.map D.int)
  | [] => .nil
  | n :: r => .cons (.int n) (DaAll.ints r)

/-! ### states, results -/
inductive S where
  | d (x : D)
  | l (xs : List D)
  | v (i : Nat)
  | m (j : Nat)
structure Z (T : Type) where
  rho : List (Option S)
  m : T
structure Xc where
  c : Str
  arg : Option D
inductive Rs (α ζ : Type) where
  | ok (a : α) (z : ζ)
  | ex (x : Xc) (z : ζ)
  | bad
def Rs.bind {α β ζ : Type} (r : Rs α ζ) (k : α → ζ → Rs β ζ) : Rs β ζ := match r with
  | .ok a z => k a z
  | .ex x z => .ex x z
  | .bad => .bad
@[simp] theorem Rs.bind_ok {α β ζ : Type} (a : α) (z : ζ) (k : α → ζ → Rs β ζ) : (Rs.ok a z).bind k = k a z := rfl
@[simp] theorem Rs.bind_ex {α β ζ : Type} (x : Xc) (z : ζ) (k : α → ζ → Rs β ζ) : (Rs.ex x z).bind k = .ex x z := rfl
@[simp] theorem Rs.bind_bad {α β ζ : Type} (k : α → ζ → Rs β ζ) : (Rs.bad : Rs α ζ).bind k = .bad := rfl
def Rs.opt {α ζ : Type} (o : Option α) (z : ζ) : Rs α ζ := match o with
  | some a => .ok a z
  | none => .bad
@[simp] theorem Rs.opt_some {α ζ : Type} (a : α) (z : ζ) : Rs.opt (some a) z = .ok a z := rfl
@[simp] theorem Rs.opt_none {α ζ : Type} (z : ζ) : Rs.opt (none : Option α) z = .bad := rfl

/-- a machine: mutable objects at the addresses ms that the law threads through its calls -/
structure MI where
  T : Type
  ok : PySem.W.Frag → Hp → Hp → List Addr → T → Prop
  mono : ∀ {K : PySem.W.Frag} {F F' H H' : Hp} {ms : List Addr} {t : T}, Same F F' → TgK F F' H H' → (∀ a ∈ ms, H' a = H a) → ok K F H ms t → ok K F' H' ms t
structure Gx where
  K : PySem.W.Frag
  xr : Str → Option Value
  ms : List Addr
  P : Hp
  Fp : Hp

def SV (G : Gx) (F H : Hp) (v : V) : S → Prop
  | .d x => Da G.K F v x
  | .l xs => ∃ a vs, v = .ref a ∧ H a = some (.lst vs) ∧ DaAll G.K F vs xs ∧ F a = none ∧ G.P a = none ∧ a ∉ G.ms
  | .v _ => False
  | .m j => ∃ a, G.ms[j]? = some a ∧ v = .ref a

structure Ok (M : MI) (G : Gx) (σ : St) (H F : Hp) (z : Z M.T) : Prop where
  sub : SameX F H
  len : z.rho.length = σ.length
  slot : ∀ (i : Nat) (s : S), z.rho[i]? = some (some s) → ∃ v, σ[i]? = some (some v) ∧ SV G F H v s
  dist : ∀ (i j : Nat) (xs ys : List D) (v : V), z.rho[i]? = some (some (.l xs)) → z.rho[j]? = some (some (.l ys)) → σ[i]? = some (some v) → σ[j]? = some (some v) → i = j
  mach : M.ok G.K F H G.ms z.m
  msF : ∀ a ∈ G.ms, F a = none
  msP : ∀ a ∈ G.ms, G.P a = none
  msH : ∀ a ∈ G.ms, H a ≠ none
  fr : ∀ b o, G.P b = some o → H b = some o ∧ F b = G.Fp b
  tg : ∀ a ps, F a = some (.tbl ps) → H a ≠ none ∧ G.P a = none

/-- a slot owns the list at a -/
def Owned {T : Type} (σ : St) (z : Z T) (a : Addr) : Prop := ∃ (i : Nat) (xs : List D), z.rho[i]? = some (some (.l xs)) ∧ σ[i]? = some (some (.ref a))

def EV {T : Type} (G : Gx) (σ : St) (F H : Hp) (z : Z T) (v : V) : S → Prop
  | .d x => Da G.K F v x
  | .l xs => ∃ a vs, v = .ref a ∧ H a = some (.lst vs) ∧ DaAll G.K F vs xs ∧ F a = none ∧ G.P a = none ∧ a ∉ G.ms ∧ ¬ Owned σ z a
  | .v i => σ[i]? = some (some v)
  | .m j => ∃ a, G.ms[j]? = some a ∧ v = .ref a
/-- .. of an operand: nothing new that is not frozen -/
def EO (G : Gx) (σ : St) (F : Hp) (v : V) : S → Prop
  | .d x => Da G.K F v x
  | .l _ => False
  | .v i => σ[i]? = some (some v)
  | .m j => ∃ a, G.ms[j]? = some a ∧ v = .ref a
theorem EO.mono {G : Gx} {σ : St} {F F' : Hp} {v : V} {s : S} (h : Same F F') (e : EO G σ F v s) : EO G σ F' v s := by
  cases s with
  | d x => exact Da.mono h e
  | l _ => exact e
  | v i => exact e
  | m j => exact e

section
variable {M : MI} {G : Gx} {σ : St} {H H' F F' : Hp} {z : Z M.T}
theorem Ok.ownH (ok : Ok M G σ H F z) {a : Addr} (o : Owned σ z a) : ∃ vs, H a = some (.lst vs) ∧ F a = none ∧ G.P a = none ∧ a ∉ G.ms := by
  obtain ⟨i, xs, h1, h2⟩ := o
  obtain ⟨v, e, b, vs, rfl, h3, _, h4, h5, h6⟩ := ok.slot i _ h1
  rw [h2] at e
  cases e
  exact ⟨vs, h3, h4, h5, h6⟩
/-- the heaps change, no slot does -/
theorem Ok.step (ok : Ok M G σ H F z) (hF : Same F F') (ht : TgK F F' H H') (hs : SameX F' H') (ho : ∀ a, Owned σ z a → H' a = H a ∧ F' a = none) (hm : ∀ a ∈ G.ms, H' a = H a ∧ F' a = none) (hf : ∀ b o, G.P b = some o → H' b = some o ∧ F' b = G.Fp b) : Ok M G σ H' F' z where
  sub := hs
  len := ok.len
  slot := fun i s e => by
    obtain ⟨v, h1, h2⟩ := ok.slot i s e
    refine ⟨v, h1, ?_⟩
    cases s with
    | d x => exact Da.mono hF h2
    | l xs =>
      obtain ⟨a, vs, rfl, h3, h4, h5, h6, h7⟩ := h2
      obtain ⟨q1, q2⟩ := ho a ⟨i, xs, e, h1⟩
      exact ⟨a, vs, rfl, q1.trans h3, h4.mono hF, q2, h6, h7⟩
    | v _ => exact h2
    | m j => exact h2
  dist := ok.dist
  mach := M.mono hF ht (fun a ha => (hm a ha).1) ok.mach
  tg := fun a ps e => by
    obtain ⟨h1, h2⟩ := ht a ps e
    rw [h2]
    exact ok.tg a ps h1
  msF := fun a ha => (hm a ha).2
  msP := ok.msP
  msH := fun a ha => by rw [(hm a ha).1]; exact ok.msH a ha
  fr := hf
theorem Ok.freshF (ok : Ok M G σ H F z) {p : Addr} (h : H p = none) : F p = none := by
  cases q : F p with
  | none => rfl
  | some o =>
    by_cases n : ∃ ps, o = .tbl ps
    · obtain ⟨ps, rfl⟩ := n
      exact ((ok.tg p ps q).1 h).elim
    · have := ok.sub p o q (fun ps e => n ⟨ps, e⟩)
      rw [h] at this
      cases this
theorem Ok.freshP (ok : Ok M G σ H F z) {p : Addr} (h : H p = none) : G.P p = none := by
  cases q : G.P p with
  | none => rfl
  | some o =>
    rw [(ok.fr p o q).1] at h
    cases h
theorem Ok.freshM (ok : Ok M G σ H F z) {p : Addr} (h : H p = none) : p ∉ G.ms := fun q => ok.msH p q h
theorem Ok.freshO (ok : Ok M G σ H F z) {p : Addr} (h : H p = none) : ¬ Owned σ z p := fun q => by
  obtain ⟨vs, e, _⟩ := ok.ownH q
  rw [h] at e
  cases e
theorem same_upd {H : Hp} {p : Addr} {o : HO} (h : H p = none) : Same H (upd H p o) := fun b u q => by
  rw [upd_ne (ne_of_none q h)]
  exact q
theorem same_upd2 {F H : Hp} {p : Addr} {o : HO} (h : SameX F H) : SameX (upd F p o) (upd H p o) := fun b u q n => by
  by_cases e : b = p
  · subst e
    rw [upd_same] at q ⊢
    exact q
  · rw [upd_ne e] at q ⊢
    exact h b u q n
theorem same_updR {F H : Hp} {p : Addr} {o : HO} (h : SameX F H) (hp : F p = none) : SameX F (upd H p o) := fun b u q n => by
  rw [upd_ne (ne_of_none q hp)]
  exact h b u q n
theorem tgk_new {F H : Hp} {p : Addr} {o : HO} (hp : F p = none) : TgK F F H (upd H p o) := fun a ps e => ⟨e, upd_ne (ne_of_none e hp)⟩
theorem tgk_newF {F H : Hp} {p : Addr} {o u : HO} (hp : F p = none) (n : ∀ ps, o ≠ .tbl ps) : TgK F (upd F p o) H (upd H p u) := fun a ps e => by
  by_cases h : a = p
  · subst h
    rw [upd_same] at e
    exact (n ps (Option.some.inj e)).elim
  · rw [upd_ne h] at e
    exact ⟨e, upd_ne h⟩
theorem tgk_frz {F H : Hp} {p : Addr} {o : HO} (hp : F p = none) (n : ∀ ps, o ≠ .tbl ps) : TgK F (upd F p o) H H := fun a ps e => by
  by_cases h : a = p
  · subst h
    rw [upd_same] at e
    exact (n ps (Option.some.inj e)).elim
  · rw [upd_ne h] at e
    exact ⟨e, rfl⟩
/-- a new object, not frozen -/
theorem Ok.new (ok : Ok M G σ H F z) {p : Addr} (hp : H p = none) (o : HO) : Ok M G σ (upd H p o) F z :=
  ok.step (Same.refl F) (tgk_new (ok.freshF hp)) (same_updR ok.sub (ok.freshF hp)) (fun a q => by
    obtain ⟨vs, e, e2, _⟩ := ok.ownH q
    exact ⟨upd_ne (ne_of_none e hp), e2⟩) (fun a q => by
    have n : a ≠ p := fun e => ok.freshM hp (e ▸ q)
    exact ⟨upd_ne n, ok.msF a q⟩) (fun b u q => by
    obtain ⟨h1, h2⟩ := ok.fr b u q
    exact ⟨by rw [upd_ne (ne_of_none h1 hp)]; exact h1, h2⟩)
/-- a new object, frozen -/
theorem Ok.newF (ok : Ok M G σ H F z) {p : Addr} (hp : H p = none) (o : HO) (nt : ∀ ps, o ≠ .tbl ps) : Ok M G σ (upd H p o) (upd F p o) z :=
  ok.step (same_upd (ok.freshF hp)) (tgk_newF (ok.freshF hp) nt) (same_upd2 ok.sub) (fun a q => by
    obtain ⟨vs, e, e2, _⟩ := ok.ownH q
    exact ⟨upd_ne (ne_of_none e hp), by rw [upd_ne (ne_of_none e hp)]; exact e2⟩) (fun a q => by
    have n : a ≠ p := fun e => ok.freshM hp (e ▸ q)
    exact ⟨upd_ne n, by rw [upd_ne n]; exact ok.msF a q⟩) (fun b u q => by
    obtain ⟨h1, h2⟩ := ok.fr b u q
    have n := ne_of_none h1 hp
    exact ⟨by rw [upd_ne n]; exact h1, by rw [upd_ne n]; exact h2⟩)
/-- a list that no slot owns is frozen -/
theorem Ok.frz (ok : Ok M G σ H F z) {a : Addr} {vs : List V} (ha : H a = some (.lst vs)) (hF : F a = none) (hP : G.P a = none) (hm : a ∉ G.ms) (ho : ¬ Owned σ z a) : Ok M G σ H (upd F a (.lst vs)) z :=
  ok.step (same_upd hF) (tgk_frz hF lstNT) (fun b u q n => by
    by_cases e : b = a
    · subst e
      rw [upd_same] at q
      rw [ha]
      exact q
    · rw [upd_ne e] at q
      exact ok.sub b u q n) (fun b q => by
    obtain ⟨_, _, e2, _⟩ := ok.ownH q
    have n : b ≠ a := fun e => ho (e ▸ q)
    exact ⟨rfl, by rw [upd_ne n]; exact e2⟩) (fun b q => by
    have n : b ≠ a := fun e => hm (e ▸ q)
    exact ⟨rfl, by rw [upd_ne n]; exact ok.msF b q⟩) (fun b u q => by
    obtain ⟨h1, h2⟩ := ok.fr b u q
    have n : b ≠ a := fun e => by rw [e, hP] at q; cases q
    exact ⟨h1, by rw [upd_ne n]; exact h2⟩)
/-- a slot is stored -/
theorem Ok.set (ok : Ok M G σ H F z) {i : Nat} {v : V} {s : S} (hv : SV G F H v s) (hs : ∀ xs, s = .l xs → ∀ a, v = .ref a → ¬ Owned σ z a) : Ok M G (σ.set i (some v)) H F { z with rho := z.rho.set i (some s) } where
  sub := ok.sub
  len := by simp [ok.len]
  slot := fun j t e => by
    by_cases hj : j = i
    · subst hj
      by_cases hl : j < z.rho.length
      · have e2 : (z.rho.set j (some s))[j]? = some (some s) := List.getElem?_set_self hl
        have e' : (z.rho.set j (some s))[j]? = some (some t) := e
        rw [e2] at e'
        cases e'
        exact ⟨v, List.getElem?_set_self (by rw [← ok.len]; exact hl), hv⟩
      · have e' : (z.rho.set j (some s))[j]? = some (some t) := e
        rw [List.getElem?_eq_none (by simp; omega)] at e'
        cases e'
    · have e' : (z.rho.set i (some s))[j]? = some (some t) := e
      rw [List.getElem?_set_ne (Ne.symm hj)] at e'
      obtain ⟨w, h1, h2⟩ := ok.slot j t e'
      exact ⟨w, by rw [List.getElem?_set_ne (Ne.symm hj)]; exact h1, h2⟩
  dist := fun j k xs ys w e1 e2 e3 e4 => by
    have e1' : (z.rho.set i (some s))[j]? = some (some (.l xs)) := e1
    have e2' : (z.rho.set i (some s))[k]? = some (some (.l ys)) := e2
    have lt : ∀ {n : Nat} {t : Option S}, (z.rho.set i (some s))[n]? = some t → n < z.rho.length := fun {n t} q => by
      have := (List.getElem?_eq_some_iff.mp q).1
      simpa using this
    have hit : ∀ {n m : Nat} {xs ys : List D}, n = i → m ≠ i → (z.rho.set i (some s))[n]? = some (some (.l xs)) → (z.rho.set i (some s))[m]? = some (some (.l ys)) → (σ.set i (some v))[n]? = some (some w) → (σ.set i (some v))[m]? = some (some w) → False := fun {n m xs ys} hn hm q1 q2 q3 q4 => by
      subst hn
      have hl := lt q1
      rw [List.getElem?_set_self hl] at q1
      rw [List.getElem?_set_self (by rw [← ok.len]; exact hl)] at q3
      rw [List.getElem?_set_ne (Ne.symm hm)] at q2 q4
      cases q1
      cases q3
      obtain ⟨u, h1, a, vs, rfl, h2⟩ := ok.slot m _ q2
      rw [q4] at h1
      cases h1
      exact hs _ rfl a rfl ⟨m, ys, q2, q4⟩
    by_cases hj : j = i
    · by_cases hk : k = i
      · rw [hj, hk]
      · exact (hit hj hk e1' e2' e3 e4).elim
    · by_cases hk : k = i
      · exact (hit hk hj e2' e1' e4 e3).elim
      · rw [List.getElem?_set_ne (Ne.symm hj)] at e1' e3
        rw [List.getElem?_set_ne (Ne.symm hk)] at e2' e4
        exact ok.dist j k xs ys w e1' e2' e3 e4
  mach := ok.mach
  msF := ok.msF
  msP := ok.msP
  msH := ok.msH
  fr := ok.fr
  tg := ok.tg
end
end G
namespace G
open PySem L2

abbrev Sm (M : MI) (α : Type) := Z M.T → Rs α (Z M.T)
def XOk (G : Gx) (F H : Hp) (x : Xc) (cls : Value) (d : Option Addr) : Prop := G.xr x.c = some cls ∧ match x.arg with
  | none => d = none
  | some a => ∃ dd v, d = some dd ∧ H dd = some (.xd [(("at" : Str), v)]) ∧ Da G.K F v a
def HitG {α β : Type} (M : MI) (G : Gx) (W : WX) (σ : St) (F : Hp) (R : α → β → Hp → Hp → Z M.T → Prop) (r : Rs α (Z M.T)) (Q : β → Hp → Prop) : Prop := match r with
  | .ok a z => ∀ b H' F', Same F F' → Ok M G σ H' F' z → R a b F' H' z → Q b H'
  | .ex x z => ∀ cls d H' F', Same F F' → Ok M G σ H' F' z → XOk G F' H' x cls d → W cls d σ H'
  | .bad => False
def RelE {M : MI} (G : Gx) (σ : St) : S → V → Hp → Hp → Z M.T → Prop := fun s v F H z => EV G σ F H z v s
def RelO {M : MI} (G : Gx) (σ : St) : S → V → Hp → Hp → Z M.T → Prop := fun s v F _ _ => EO G σ F v s
def RelB {M : MI} (_ : Gx) (_ : St) : Bool → Bool → Hp → Hp → Z M.T → Prop := fun b c _ _ _ => c = b
def RelA {M : MI} (G : Gx) (σ : St) : List S → List V → Hp → Hp → Z M.T → Prop := fun ss vs F _ _ => Paired (fun v s => EO G σ F v s) vs ss
def RelI {M : MI} (_ : Gx) (_ : St) : Option Int → Option Int → Hp → Hp → Z M.T → Prop := fun b c _ _ _ => c = b
def Cmp {α β : Type} (M : MI) (K : PySem.W.Frag) (xr : Str → Option Value) (W : WX) (t : St → Hp → (β → Hp → Prop) → Prop) (Rel : Gx → St → α → β → Hp → Hp → Z M.T → Prop) (f : Sm M α) : Prop :=
  ∀ (G : Gx) (σ : St) (H F : Hp) (z : Z M.T) (Q : β → Hp → Prop), G.K = K → G.xr = xr → Ok M G σ H F z → HitG M G W σ F (Rel G σ) (f z) Q → t σ H Q

section
variable {M : MI} {G : Gx} {W : WX} {σ : St} {H H' F F' : Hp} {z : Z M.T}
theorem HitG.mono {α β : Type} {R : α → β → Hp → Hp → Z M.T → Prop} {r : Rs α (Z M.T)} {Q : β → Hp → Prop} (h : HitG M G W σ F R r Q) (s : Same F F') : HitG M G W σ F' R r Q := by
  cases r with
  | ok a z => exact fun b H' F1 s1 ok rr => h b H' F1 (s.trans s1) ok rr
  | ex x z => exact fun cls d H' F1 s1 ok xo => h cls d H' F1 (s.trans s1) ok xo
  | bad => exact h
theorem hit_bind {α β α' β' : Type} {R1 : α → β → Hp → Hp → Z M.T → Prop} {R2 : α' → β' → Hp → Hp → Z M.T → Prop} {r : Rs α (Z M.T)} {k : α → Z M.T → Rs α' (Z M.T)} {Q : β' → Hp → Prop} {Q1 : β → Hp → Prop}
    (h : HitG M G W σ F R2 (r.bind k) Q) (hk : ∀ a z1 b H1 F1, r = .ok a z1 → Same F F1 → Ok M G σ H1 F1 z1 → R1 a b F1 H1 z1 → HitG M G W σ F1 R2 (k a z1) Q → Q1 b H1) : HitG M G W σ F R1 r Q1 := by
  cases r with
  | ok a z => exact fun b H' F1 s1 ok rr => hk a z b H' F1 rfl s1 ok rr (HitG.mono h s1)
  | ex x z => exact h
  | bad => exact h

/-! ### operands -/
def opd (f : Sm M S) : Sm M S := fun z => (f z).bind fun s z1 => .ok (match s with | .l xs => .d (.lst xs) | s => s) z1
def escS (s : S) (z : Z M.T) : Rs S (Z M.T) := match s with
  | .d x => .ok (.d x) z
  | .l xs => .ok (.d (.lst xs)) z
  | .m j => .ok (.m j) z
  | .v i => match z.rho[i]? with
    | some (some (.l xs)) => .ok (.d (.lst xs)) { z with rho := z.rho.set i (some (.d (.lst xs))) }
    | some (some (.d x)) => .ok (.d x) z
    | _ => .bad
def escf (f : Sm M S) : Sm M S := fun z => (f z).bind escS
theorem EV.frz (ok : Ok M G σ H F z) {v : V} {xs : List D} (e : EV G σ F H z v (.l xs)) : ∃ F', Same F F' ∧ Ok M G σ H F' z ∧ Da G.K F' v (.lst xs) := by
  obtain ⟨a, vs, rfl, h1, h2, h3, h4, h5, h6⟩ := e
  exact ⟨upd F a (.lst vs), same_upd h3, ok.frz h1 h3 h4 h5 h6, .lst upd_same (h2.mono (same_upd h3))⟩
theorem cmp_opd {K : PySem.W.Frag} {xr : Str → Option Value} {t : TE} {f : Sm M S} (hf : Cmp M K xr W t RelE f) : Cmp M K xr W t RelO (opd f) := by
  intro G σ H F z Q hK hx ok h
  refine hf G σ H F z Q hK hx ok (hit_bind h fun s z1 v H1 F1 _ sm ok1 ev h1 => ?_)
  cases s with
  | d x => exact h1 v H1 F1 (Same.refl _) ok1 ev
  | l xs =>
    obtain ⟨F2, s2, ok2, da⟩ := EV.frz ok1 ev
    exact h1 v H1 F2 s2 ok2 da
  | v i => exact h1 v H1 F1 (Same.refl _) ok1 ev
  | m j => exact h1 v H1 F1 (Same.refl _) ok1 ev
/-- a slot's list is frozen for good -/
theorem Ok.frzSlot (ok : Ok M G σ H F z) {i : Nat} {xs : List D} {v : V} (h : z.rho[i]? = some (some (.l xs))) (hv : σ[i]? = some (some v)) :
    ∃ F', Same F F' ∧ Ok M G σ H F' { z with rho := z.rho.set i (some (.d (.lst xs))) } ∧ Da G.K F' v (.lst xs) := by
  obtain ⟨w, e, a, vs, rfl, h1, h2, h3, h4, h5⟩ := ok.slot i _ h
  rw [hv] at e
  cases e
  have hl : i < z.rho.length := (List.getElem?_eq_some_iff.mp h).1
  have ok1 : Ok M G (σ.set i (some .non)) H F { z with rho := z.rho.set i (some (.d .non)) } := ok.set (v := .non) (s := .d .non) Da.non (fun _ e => by cases e)
  have no : ¬ Owned (σ.set i (some .non)) { z with rho := z.rho.set i (some (.d .non)) } a := fun ⟨j, ys, e1, e2⟩ => by
    by_cases hj : j = i
    · subst hj
      have e1' : (z.rho.set j (some (.d .non)))[j]? = some (some (.l ys)) := e1
      rw [List.getElem?_set_self hl] at e1'
      cases e1'
    · have e1' : (z.rho.set i (some (.d .non)))[j]? = some (some (.l ys)) := e1
      rw [List.getElem?_set_ne (Ne.symm hj)] at e1' e2
      exact hj (ok.dist j i ys xs _ e1' h e2 hv)
  have ok2 := ok1.frz h1 h3 h4 h5 no
  have da : Da G.K (upd F a (.lst vs)) (.ref a) (.lst xs) := .lst upd_same (h2.mono (same_upd h3))
  have ok3 := ok2.set (i := i) (v := .ref a) (s := .d (.lst xs)) da (fun _ e => by cases e)
  have e1 : (σ.set i (some V.non)).set i (some (.ref a)) = σ := by
    rw [List.set_set]
    exact List.ext_getElem? fun n => by
      by_cases hn : n = i
      · subst hn
        rw [List.getElem?_set_self (by rw [← ok.len]; exact hl), hv]
      · rw [List.getElem?_set_ne (Ne.symm hn)]
  rw [e1] at ok3
  have e2 : ({ rho := (z.rho.set i (some (.d .non))).set i (some (.d (.lst xs))), m := z.m } : Z M.T) = { z with rho := z.rho.set i (some (.d (.lst xs))) } := by rw [List.set_set]
  exact ⟨_, same_upd h3, by rw [← e2]; exact ok3, da⟩
theorem cmp_esc {K : PySem.W.Frag} {xr : Str → Option Value} {t : TE} {f : Sm M S} (hf : Cmp M K xr W t RelE f) : Cmp M K xr W t RelO (escf f) := by
  intro G σ H F z Q hK hx ok h
  refine hf G σ H F z Q hK hx ok (hit_bind h fun s z1 v H1 F1 _ sm ok1 ev h1 => ?_)
  cases s with
  | d x => exact h1 v H1 F1 (Same.refl _) ok1 ev
  | l xs =>
    obtain ⟨F2, s2, ok2, da⟩ := EV.frz ok1 ev
    exact h1 v H1 F2 s2 ok2 da
  | m j => exact h1 v H1 F1 (Same.refl _) ok1 ev
  | v i =>
    have ev' : σ[i]? = some (some v) := ev
    simp only [escS] at h1
    split at h1
    · rename_i xs hs
      obtain ⟨F2, s2, ok2, da⟩ := ok1.frzSlot hs ev'
      exact h1 v H1 F2 s2 ok2 da
    · rename_i x hs
      obtain ⟨w, e, q⟩ := ok1.slot i _ hs
      rw [ev'] at e
      cases e
      exact h1 v H1 F1 (Same.refl _) ok1 q
    · exact h1.elim
/-- what an operand reads as -/
def rd {T : Type} (z : Z T) : S → Option D
  | .d x => some x
  | .l xs => some (.lst xs)
  | .v i => match z.rho[i]? with
    | some (some (.d x)) => some x
    | some (some (.l xs)) => some (.lst xs)
    | _ => none
  | .m _ => none
def Rv (K : PySem.W.Frag) (F H : Hp) (v : V) (x : D) : Prop := Da K F v x ∨ ∃ a vs xs, v = .ref a ∧ x = .lst xs ∧ H a = some (.lst vs) ∧ DaAll K F vs xs
theorem EO.rv (ok : Ok M G σ H F z) {v : V} {s : S} {x : D} (e : EO G σ F v s) (h : rd z s = some x) : Rv G.K F H v x := by
  cases s with
  | d y => cases h; exact .inl e
  | l _ => exact e.elim
  | m _ => cases h
  | v i =>
    have e' : σ[i]? = some (some v) := e
    simp only [rd] at h
    split at h
    · rename_i y hs
      cases h
      obtain ⟨w, e1, q⟩ := ok.slot i _ hs
      rw [e'] at e1
      cases e1
      exact .inl q
    · rename_i xs hs
      cases h
      obtain ⟨w, e1, a, vs, rfl, h1, h2, _⟩ := ok.slot i _ hs
      rw [e'] at e1
      cases e1
      exact .inr ⟨a, vs, xs, rfl, rfl, h1, h2⟩
    · cases h

/-! ### results of operations -/
inductive R where
  | d (x : D)
  /-- a tuple, an old one or a new one -/
  | t (xs : List D)
  | l (xs : List D)
def R.toS : R → S
  | .d x => .d x
  | .t xs => .d (.tup xs)
  | .l xs => .l xs
def Hit0 (K : PySem.W.Frag) (F H : Hp) (r : Option R) (Q : VK) : Prop := match r with
  | some (.d y) => ∀ v, Da K F v y → Q v H
  | some (.t ys) => (∀ v, Da K F v (.tup ys) → Q v H) ∧ ∀ p vs, H p = none → DaAll K F vs ys → Q (.ref p) (upd H p (.tup vs))
  | some (.l ys) => ∀ p vs, H p = none → DaAll K F vs ys → Q (.ref p) (upd H p (.lst vs))
  | none => False
def fin (o : Option R) : Sm M S := fun z => match o with
  | some r => .ok r.toS z
  | none => .bad
theorem fin_hit (ok : Ok M G σ H F z) {o : Option R} {Q : VK} (h : HitG M G W σ F (RelE G σ) (fin o z) Q) : Hit0 G.K F H o Q := by
  cases o with
  | none => exact h
  | some r =>
    cases r with
    | d y => exact fun v hv => h v H F (Same.refl _) ok hv
    | t ys => exact ⟨fun v hv => h v H F (Same.refl _) ok hv, fun p vs hp hv => h (.ref p) (upd H p (.tup vs)) (upd F p (.tup vs)) (same_upd (ok.freshF hp)) (ok.newF hp _ tupNT) (.tup (SqT.of upd_same) (hv.mono (same_upd (ok.freshF hp))))⟩
    | l ys => exact fun p vs hp hv => h (.ref p) (upd H p (.lst vs)) F (Same.refl _) (ok.new hp _) ⟨p, vs, rfl, upd_same, hv, ok.freshF hp, ok.freshP hp, ok.freshM hp, ok.freshO hp⟩
def Op2 (K : PySem.W.Frag) (r : R2) (g : D → D → Option R) : Prop := ∀ (F H : Hp) (x y : V) (a b : D) (Q : VK), SameX F H → Rv K F H x a → Rv K F H y b → Hit0 K F H (g a b) Q → r x y H Q
def Op1 (K : PySem.W.Frag) (r : V → Hp → VK → Prop) (g : D → Option R) : Prop := ∀ (F H : Hp) (x : V) (a : D) (Q : VK), SameX F H → Rv K F H x a → Hit0 K F H (g a) Q → r x H Q
def OpN (K : PySem.W.Frag) (r : List V → Hp → VK → Prop) (g : List D → Option R) : Prop := ∀ (F H : Hp) (xs : List V) (as : List D) (Q : VK), SameX F H → Paired (Rv K F H) xs as → Hit0 K F H (g as) Q → r xs H Q
def Op1N (K : PySem.W.Frag) (r : V → List V → Hp → VK → Prop) (g : D → List D → Option R) : Prop := ∀ (F H : Hp) (x : V) (xs : List V) (a : D) (as : List D) (Q : VK), SameX F H → Rv K F H x a → Paired (Rv K F H) xs as → Hit0 K F H (g a as) Q → r x xs H Q

/-! ### the judgements -/
def DE {ι : Type} (M : MI) (xr : Str → Option Value) (K : PySem.W.Frag) (X : ι → Cx) (W : WX) (e : Expr) (f : Sm M S) : Prop := ∃ t, (∀ i, PE (X i) e t) ∧ Cmp M K xr W t RelE f
def DT {ι : Type} (M : MI) (xr : Str → Option Value) (K : PySem.W.Frag) (X : ι → Cx) (W : WX) (e : Expr) (f : Sm M Bool) : Prop := ∃ t, (∀ i, PT (X i) e t) ∧ Cmp M K xr W t RelB f
def DA {ι : Type} (M : MI) (xr : Str → Option Value) (K : PySem.W.Frag) (X : ι → Cx) (W : WX) (es : List Expr) (f : Sm M (List S)) : Prop := ∃ t, (∀ i, PA (X i) es t) ∧ Cmp M K xr W t RelA f
def DO {ι : Type} (M : MI) (xr : Str → Option Value) (K : PySem.W.Frag) (X : ι → Cx) (W : WX) (e : Option Expr) (f : Sm M (Option Int)) : Prop := ∃ t, (∀ i, PO (X i) e t) ∧ Cmp M K xr W t RelI f

/-! ### mirrors -/
def eVar (i : Nat) : Sm M S := fun z => match z.rho[i]? with
  | some (some (.l _)) => .ok (.v i) z
  | some (some s) => .ok s z
  | _ => .bad
def eC (x : D) : Sm M S := fun z => .ok (.d x) z
def rdf {α : Type} (g : D → Option α) (s : S) (z : Z M.T) : Option α := (rd z s).bind g
def eBin (g : D → D → Option R) (f f' : Sm M S) : Sm M S := fun z => (opd f z).bind fun s z1 => (opd f' z1).bind fun s' z2 => fin ((rd z2 s).bind fun x => (rd z2 s').bind fun y => g x y) z2
def eUn (g : D → Option R) (f : Sm M S) : Sm M S := fun z => (opd f z).bind fun s z1 => fin ((rd z1 s).bind g) z1
def tOf (f : Sm M S) : Sm M Bool := fun z => (f z).bind fun s z1 => match s with
  | .d (.bl b) => .ok b z1
  | _ => .bad
def tTru (g : D → Option Bool) (f : Sm M S) : Sm M Bool := fun z => (opd f z).bind fun s z1 => Rs.opt ((rd z1 s).bind g) z1
def tAndM (f g : Sm M Bool) : Sm M Bool := fun z => (f z).bind fun b z1 => if b = true then g z1 else .ok false z1
def tOrM (f g : Sm M Bool) : Sm M Bool := fun z => (f z).bind fun b z1 => if b = true then .ok true z1 else g z1
def tNotM (f : Sm M Bool) : Sm M Bool := fun z => (f z).bind fun b z1 => .ok (!b) z1
def eAndM (f g : Sm M S) : Sm M S := fun z => (tOf f z).bind fun b z1 => if b = true then g z1 else .ok (.d (.bl false)) z1
def eOrM (f g : Sm M S) : Sm M S := fun z => (tOf f z).bind fun b z1 => if b = true then .ok (.d (.bl true)) z1 else g z1
def eNotM (f : Sm M S) : Sm M S := fun z => (tOf f z).bind fun b z1 => .ok (.d (.bl (!b))) z1
def eIf (c : Sm M Bool) (f g : Sm M S) : Sm M S := fun z => (c z).bind fun b z1 => if b = true then f z1 else g z1
def aNil : Sm M (List S) := fun z => .ok [] z
def aCons (f : Sm M S) (g : Sm M (List S)) : Sm M (List S) := fun z => (f z).bind fun s z1 => (g z1).bind fun ss z2 => .ok (s :: ss) z2
def dsOf : List S → Option (List D)
  | [] => some []
  | .d x :: r => (dsOf r).bind fun xs => some (x :: xs)
  | _ :: _ => none
def lim : Nat := 1000000
theorem lim_line : lim < sizeLine := by rw [sizeLine_eq]; decide
def eTup (g : Sm M (List S)) : Sm M S := fun z => (g z).bind fun ss z1 => match dsOf ss with
  | some ds => if ds.length ≤ lim then .ok (.d (.tup ds)) z1 else .bad
  | none => .bad
def eLst (g : Sm M (List S)) : Sm M S := fun z => (g z).bind fun ss z1 => match dsOf ss with
  | some ds => if ds.length ≤ lim then .ok (.l ds) z1 else .bad
  | none => .bad
def rds {T : Type} (z : Z T) : List S → Option (List D)
  | [] => some []
  | s :: r => (rd z s).bind fun x => (rds z r).bind fun xs => some (x :: xs)
def eFn (g : List D → Option R) (f : Sm M (List S)) : Sm M S := fun z => (f z).bind fun ss z1 => fin ((rds z1 ss).bind g) z1
end
end G
namespace G
open PySem L2
section
variable {ι : Type} {M : MI} {xr : Str → Option Value} {X : ι → Cx} {W : WX} {K : PySem.W.Frag}

theorem cmp_var {i : Nat} : Cmp M K xr W (tVar i) RelE (eVar i) := by
  intro G σ H F z Q _ _ ok h
  unfold eVar at h
  split at h
  · rename_i xs hs
    obtain ⟨v, e, _⟩ := ok.slot i _ hs
    exact ⟨v, e, h v H F (Same.refl _) ok e⟩
  · rename_i s hn hs
    obtain ⟨v, e, q⟩ := ok.slot i _ hs
    refine ⟨v, e, h v H F (Same.refl _) ok ?_⟩
    cases s with
    | d x => exact q
    | l xs => exact (hn xs rfl).elim
    | v j => exact q.elim
    | m j => exact q
  · exact h.elim
theorem de_var (i : Nat) {x : Str} {pos : Pos} (hN : ∀ j, (X j).N[i]? = some x := by intro _; rfl) (hv : ∀ j, Vis (X j).env.scope x := by first | exact fun _ => Or.inl rfl | exact fun _ => Or.inr (Or.inl rfl) | exact fun _ => Or.inr (Or.inr rfl)) (hd : (x == ("__debug__" : Str)) = false := by decide)
    (hcd : (x == ("__classdict__" : Str)) = false := by decide) : DE M xr K X W (.Name x pos) (eVar i) := ⟨_, fun j => pe_var (hN j) (hv j) hd hcd, cmp_var⟩
theorem cmp_c {v : V} {d : D} (hd : ∀ F, Da K F v d) : Cmp M K xr W (tC v) RelE (eC d) := fun G σ H F z Q hK _ ok h => h v H F (Same.refl _) ok (by subst hK; exact hd F)
theorem de_int {i j pos} : DE M xr K X W (.Constant (.int i) j pos) (eC (.int i)) := ⟨_, fun _ => pe_int, cmp_c fun _ => .int i⟩
theorem de_str {i j pos} : DE M xr K X W (.Constant (.str i) j pos) (eC (.str i)) := ⟨_, fun _ => pe_str, cmp_c fun _ => .str _⟩
theorem de_bl {i j pos} : DE M xr K X W (.Constant (.bool i) j pos) (eC (.bl i)) := ⟨_, fun _ => pe_bl, cmp_c fun _ => .bl i⟩
theorem de_non {j pos} : DE M xr K X W (.Constant .none j pos) (eC .non) := ⟨_, fun _ => pe_non, cmp_c fun _ => .non⟩
theorem de_glob {x : Str} {v : V} {u : Value} {d : D} {pos : Pos} (hg : ∀ j, Gl (X j) x) (hm : ∀ j, (X j).mg x = some u) (r : RelV v u) (hd : ∀ F, Da K F v d) (hb : (x == ("__debug__" : Str)) = false := by decide) : DE M xr K X W (.Name x pos) (eC d) := ⟨_, fun j => pe_glob (hg j) (hm j) r hb, cmp_c hd⟩

/-! ### operators -/
theorem cmp_bin {r : R2} {g : D → D → Option R} {ta tb : TE} {f f' : Sm M S} (hd : Op2 K r g) (ha : Cmp M K xr W ta RelE f) (hb : Cmp M K xr W tb RelE f') : Cmp M K xr W (tOp r ta tb) RelE (eBin g f f') := by
  intro G σ H F z Q hK hx ok h
  refine cmp_opd ha G σ H F z _ hK hx ok (hit_bind h fun s z1 v H1 F1 _ sm1 ok1 e1 h1 => ?_)
  refine cmp_opd hb G σ H1 F1 z1 _ hK hx ok1 (hit_bind h1 fun s' z2 v' H2 F2 _ sm2 ok2 e2 h2 => ?_)
  have q := fin_hit ok2 h2
  subst hK
  cases ea : rd z2 s with
  | none => rw [ea] at q; exact q.elim
  | some x =>
    cases eb : rd z2 s' with
    | none => rw [ea, eb] at q; exact q.elim
    | some y =>
      rw [ea, eb] at q
      exact hd F2 H2 v v' x y Q ok2.sub (EO.rv ok2 (EO.mono sm2 e1) ea) (EO.rv ok2 e2 eb) q
theorem de_bin {op : Operator} {r : R2} {g : D → D → Option R} {a b : Expr} {f f' : Sm M S} {pos : Pos} (ho : ∀ j, OpR (X j) (binaryOp op) r) (hd : Op2 K r g) (ha : DE M xr K X W a f) (hb : DE M xr K X W b f') : DE M xr K X W (.BinOp a op b pos) (eBin g f f') := by
  obtain ⟨ta, pa, ca⟩ := ha
  obtain ⟨tb, pb, cb⟩ := hb
  exact ⟨_, fun j => pe_op (ho j) (pa j) (pb j), cmp_bin hd ca cb⟩
theorem de_cmp {op : CmpOp} {r : R2} {g : D → D → Option R} {a b : Expr} {f f' : Sm M S} {pos : Pos} (ho : ∀ j, OpR (X j) (compareOp op) r) (hd : Op2 K r g) (ha : DE M xr K X W a f) (hb : DE M xr K X W b f') (hm : behindInMarks op b = false) : DE M xr K X W (.Compare a [op] [b] pos) (eBin g f f') := by
  obtain ⟨ta, pa, ca⟩ := ha
  obtain ⟨tb, pb, cb⟩ := hb
  exact ⟨_, fun j => pe_cmpR (ho j) (pa j) (pb j) hm, cmp_bin hd ca cb⟩
theorem cmp_tOf {t : TE} {f : Sm M S} (h : Cmp M K xr W t RelE f) : Cmp M K xr W (tTest t) RelB (tOf f) := by
  intro G σ H F z Q hK hx ok hh
  refine h G σ H F z _ hK hx ok (hit_bind hh fun s z1 v H1 F1 _ sm1 ok1 e1 h1 => ?_)
  cases s with
  | d x =>
    cases x with
    | bl b =>
      cases (show Da G.K F1 v (.bl b) from e1)
      exact ⟨b, rfl, h1 b H1 F1 (Same.refl _) ok1 rfl⟩
    | _ => exact h1.elim
  | _ => exact h1.elim
theorem dt_cmp {op : CmpOp} {r : R2} {g : D → D → Option R} {a b : Expr} {f f' : Sm M S} {pos : Pos} (ho : ∀ j, OpR (X j) (compareOp op) r) (hd : Op2 K r g) (ha : DE M xr K X W a f) (hb : DE M xr K X W b f') (hm : behindInMarks op b = false) : DT M xr K X W (.Compare a [op] [b] pos) (tOf (eBin g f f')) := by
  obtain ⟨ta, pa, ca⟩ := ha
  obtain ⟨tb, pb, cb⟩ := hb
  exact ⟨_, fun j => pt_cmpR (ho j) (pa j) (pb j) hm, cmp_tOf (cmp_bin hd ca cb)⟩
/-- an expression that gives a bool, as a test -/
theorem dt_val {e : Expr} {f : Sm M S} (h : DE M xr K X W e f) (he : ∀ j whole, isTrue e (X j).env whole = (do let v ← whole; standAt e.pos; holding [v] (truthy v)) := by intro _ _; rfl) : DT M xr K X W e (tOf f) := by
  obtain ⟨t, p, c⟩ := h
  exact ⟨_, fun j => pt_val (p j) (he j), cmp_tOf c⟩
theorem cmp_and {t u : TT} {f g : Sm M Bool} (h : Cmp M K xr W t RelB f) (h' : Cmp M K xr W u RelB g) : Cmp M K xr W (tAnd t u) RelB (tAndM f g) := by
  intro G σ H F z Q hK hx ok hh
  refine h G σ H F z _ hK hx ok (hit_bind hh fun b z1 c H1 F1 _ sm1 ok1 e1 h1 => ?_)
  cases (show c = b from e1)
  cases b with
  | true => exact h' G σ H1 F1 z1 Q hK hx ok1 h1
  | false => exact h1 false H1 F1 (Same.refl _) ok1 rfl
theorem cmp_or {t u : TT} {f g : Sm M Bool} (h : Cmp M K xr W t RelB f) (h' : Cmp M K xr W u RelB g) : Cmp M K xr W (tOr t u) RelB (tOrM f g) := by
  intro G σ H F z Q hK hx ok hh
  refine h G σ H F z _ hK hx ok (hit_bind hh fun b z1 c H1 F1 _ sm1 ok1 e1 h1 => ?_)
  cases (show c = b from e1)
  cases b with
  | false => exact h' G σ H1 F1 z1 Q hK hx ok1 h1
  | true => exact h1 true H1 F1 (Same.refl _) ok1 rfl
def DW {ι : Type} (M : MI) (xr : Str → Option Value) (K : PySem.W.Frag) (X : ι → Cx) (W : WX) (e : Expr) (f : Sm M Bool) : Prop := ∃ t, (∀ j, PW (X j) e t) ∧ Cmp M K xr W t RelB f
theorem dw_and1 {a : Expr} {f : Sm M Bool} {pos : Pos} (h : DT M xr K X W a f) : DW M xr K X W (.BoolOp .And [a] pos) f := by
  obtain ⟨t, p, c⟩ := h
  exact ⟨_, fun j => pw_and1 (p j), c⟩
theorem dw_or1 {a : Expr} {f : Sm M Bool} {pos : Pos} (h : DT M xr K X W a f) : DW M xr K X W (.BoolOp .Or [a] pos) f := by
  obtain ⟨t, p, c⟩ := h
  exact ⟨_, fun j => pw_or1 (p j), c⟩
theorem dw_and {a b : Expr} {r : List Expr} {f g : Sm M Bool} {pos : Pos} (h : DT M xr K X W a f) (h' : DW M xr K X W (.BoolOp .And (b :: r) pos) g) : DW M xr K X W (.BoolOp .And (a :: b :: r) pos) (tAndM f g) := by
  obtain ⟨t, p, c⟩ := h
  obtain ⟨t', p', c'⟩ := h'
  exact ⟨_, fun j => pw_and (p j) (p' j), cmp_and c c'⟩
theorem dw_or {a b : Expr} {r : List Expr} {f g : Sm M Bool} {pos : Pos} (h : DT M xr K X W a f) (h' : DW M xr K X W (.BoolOp .Or (b :: r) pos) g) : DW M xr K X W (.BoolOp .Or (a :: b :: r) pos) (tOrM f g) := by
  obtain ⟨t, p, c⟩ := h
  obtain ⟨t', p', c'⟩ := h'
  exact ⟨_, fun j => pw_or (p j) (p' j), cmp_or c c'⟩
theorem dt_w {e : Expr} {f : Sm M Bool} (h : DW M xr K X W e f) : DT M xr K X W e f := by
  obtain ⟨t, p, c⟩ := h
  exact ⟨_, fun j => (p j).pt, c⟩
theorem dt_not {a : Expr} {f : Sm M Bool} {pos : Pos} (h : DT M xr K X W a f) : DT M xr K X W (.UnaryOp .Not a pos) (tNotM f) := by
  obtain ⟨t, p, c⟩ := h
  refine ⟨_, fun j => pt_not (p j), fun G σ H F z Q hK hx ok hh => ?_⟩
  refine c G σ H F z _ hK hx ok (hit_bind hh fun b z1 c H1 F1 _ sm1 ok1 e1 h1 => ?_)
  cases (show c = b from e1)
  exact h1 _ H1 F1 (Same.refl _) ok1 rfl
/-! ### and, or, not as values (all but the last are bools) -/
theorem de_one {op} {a : Expr} {f : Sm M S} {pos : Pos} (h : DE M xr K X W a f) : DE M xr K X W (.BoolOp op [a] pos) f := by
  obtain ⟨t, p, c⟩ := h
  exact ⟨_, fun j => pe_one (p j), c⟩
theorem de_and {a b : Expr} {r : List Expr} {f g : Sm M S} {pos : Pos} (h : DE M xr K X W a f) (h' : DE M xr K X W (.BoolOp .And (b :: r) pos) g) : DE M xr K X W (.BoolOp .And (a :: b :: r) pos) (eAndM f g) := by
  obtain ⟨t, p, c⟩ := h
  obtain ⟨t', p', c'⟩ := h'
  refine ⟨_, fun j => pe_and (p j) (p' j), fun G σ H F z Q hK hx ok hh => ?_⟩
  refine cmp_tOf c G σ H F z (fun b H1 => if b = true then t' σ H1 Q else Q (.bl false) H1) hK hx ok (hit_bind hh fun b z1 c H1 F1 _ sm1 ok1 e1 h1 => ?_)
  cases (show c = b from e1)
  cases b with
  | true => exact c' G σ H1 F1 z1 Q hK hx ok1 h1
  | false => exact h1 (.bl false) H1 F1 (Same.refl _) ok1 (Da.bl false)
theorem de_or {a b : Expr} {r : List Expr} {f g : Sm M S} {pos : Pos} (h : DE M xr K X W a f) (h' : DE M xr K X W (.BoolOp .Or (b :: r) pos) g) : DE M xr K X W (.BoolOp .Or (a :: b :: r) pos) (eOrM f g) := by
  obtain ⟨t, p, c⟩ := h
  obtain ⟨t', p', c'⟩ := h'
  refine ⟨_, fun j => pe_or (p j) (p' j), fun G σ H F z Q hK hx ok hh => ?_⟩
  refine cmp_tOf c G σ H F z (fun b H1 => if b = true then Q (.bl true) H1 else t' σ H1 Q) hK hx ok (hit_bind hh fun b z1 c H1 F1 _ sm1 ok1 e1 h1 => ?_)
  cases (show c = b from e1)
  cases b with
  | false => exact c' G σ H1 F1 z1 Q hK hx ok1 h1
  | true => exact h1 (.bl true) H1 F1 (Same.refl _) ok1 (Da.bl true)
theorem de_not {a : Expr} {f : Sm M S} {pos : Pos} (h : DE M xr K X W a f) : DE M xr K X W (.UnaryOp .Not a pos) (eNotM f) := by
  obtain ⟨t, p, c⟩ := h
  refine ⟨_, fun j => pe_not (p j), fun G σ H F z Q hK hx ok hh => ?_⟩
  refine cmp_tOf c G σ H F z (fun b H1 => Q (.bl (!b)) H1) hK hx ok (hit_bind hh fun b z1 c H1 F1 _ sm1 ok1 e1 h1 => ?_)
  cases (show c = b from e1)
  exact h1 (.bl (!b)) H1 F1 (Same.refl _) ok1 (Da.bl _)
theorem de_if {c a b : Expr} {fc : Sm M Bool} {f g : Sm M S} {pos : Pos} (hc : DT M xr K X W c fc) (h : DE M xr K X W a f) (h' : DE M xr K X W b g) : DE M xr K X W (.IfExp c a b pos) (eIf fc f g) := by
  obtain ⟨t, p, c0⟩ := hc
  obtain ⟨t1, p1, c1⟩ := h
  obtain ⟨t2, p2, c2⟩ := h'
  refine ⟨_, fun j => pe_ifExp (p j) (p1 j) (p2 j), fun G σ H F z Q hK hx ok hh => ?_⟩
  refine c0 G σ H F z _ hK hx ok (hit_bind hh fun b z1 c H1 F1 _ sm1 ok1 e1 h1 => ?_)
  cases (show c = b from e1)
  cases b with
  | true => exact c1 G σ H1 F1 z1 Q hK hx ok1 h1
  | false => exact c2 G σ H1 F1 z1 Q hK hx ok1 h1

/-! ### argument lists, displays -/
theorem da_nil : DA M xr K X W [] aNil := ⟨_, fun _ => pa_nil, fun G σ H F z Q _ _ ok h => h [] H F (Same.refl _) ok .nil⟩
theorem paired_mono {G : Gx} {σ : St} {F F' : Hp} (h : Same F F') : ∀ {vs : List V} {ss : List S}, Paired (fun v s => EO G σ F v s) vs ss → Paired (fun v s => EO G σ F' v s) vs ss
  | _, _, .nil => .nil
  | _, _, .cons a b => .cons (EO.mono h a) (paired_mono h b)
theorem cmp_cons {te : TE} {t : TA} {f : Sm M S} {g : Sm M (List S)} (c : Cmp M K xr W te RelO f) (c' : Cmp M K xr W t RelA g) : Cmp M K xr W (tCons te t) RelA (aCons f g) := by
  intro G σ H F z Q hK hx ok hh
  refine c G σ H F z _ hK hx ok (hit_bind hh fun s z1 v H1 F1 _ sm1 ok1 e1 h1 => ?_)
  refine c' G σ H1 F1 z1 _ hK hx ok1 (hit_bind h1 fun ss z2 vs H2 F2 _ sm2 ok2 e2 h2 => ?_)
  exact h2 (v :: vs) H2 F2 (Same.refl _) ok2 (.cons (EO.mono sm2 e1) e2)
/-- an argument that is only read -/
theorem da_rd {e : Expr} {es : List Expr} {f : Sm M S} {g : Sm M (List S)} (h : DE M xr K X W e f) (h' : DA M xr K X W es g) (hs : ∀ j, starEach (e :: es) (X j).env = (false, eval e (X j).env) :: starEach es (X j).env := by intro _; rfl) : DA M xr K X W (e :: es) (aCons (opd f) g) := by
  obtain ⟨t, p, c⟩ := h
  obtain ⟨t', p', c'⟩ := h'
  exact ⟨_, fun j => pa_cons (p j) (p' j) (hs j), cmp_cons (cmp_opd c) c'⟩
/-- an argument that is kept -/
theorem da_es {e : Expr} {es : List Expr} {f : Sm M S} {g : Sm M (List S)} (h : DE M xr K X W e f) (h' : DA M xr K X W es g) (hs : ∀ j, starEach (e :: es) (X j).env = (false, eval e (X j).env) :: starEach es (X j).env := by intro _; rfl) : DA M xr K X W (e :: es) (aCons (escf f) g) := by
  obtain ⟨t, p, c⟩ := h
  obtain ⟨t', p', c'⟩ := h'
  exact ⟨_, fun j => pa_cons (p j) (p' j) (hs j), cmp_cons (cmp_esc c) c'⟩
theorem paired_ds {G : Gx} {σ : St} {F : Hp} : ∀ {vs : List V} {ss : List S} {ds : List D}, Paired (fun v s => EO G σ F v s) vs ss → dsOf ss = some ds → DaAll G.K F vs ds
  | _, _, _, .nil, h => by cases h; exact .nil
  | _, s :: ss, ds, .cons a b, h => by
    cases s with
    | d x =>
      unfold dsOf at h
      cases e : dsOf ss with
      | none => rw [e] at h; cases h
      | some xs =>
        rw [e] at h
        cases h
        exact .cons a (paired_ds b e)
    | _ => cases h
theorem de_tup {es : List Expr} {g : Sm M (List S)} {x1 pos} (h : DA M xr K X W es g) : DE M xr K X W (.Tuple es x1 pos) (eTup g) := by
  obtain ⟨t, p, c⟩ := h
  refine ⟨_, fun j => pe_tup (p j), fun G σ H F z Q hK hx ok hh => ?_⟩
  refine c G σ H F z _ hK hx ok (hit_bind hh fun ss z1 vs H1 F1 _ sm1 ok1 e1 h1 => ?_)
  cases e : dsOf ss with
  | none => rw [e] at h1; exact h1.elim
  | some ds =>
    rw [e] at h1
    have da := paired_ds e1 e
    by_cases hl : ds.length ≤ lim
    · simp only [if_pos hl] at h1
      refine ⟨by rw [da.length]; exact Nat.le_trans hl (Nat.le_of_lt lim_line), fun p hp => ?_⟩
      exact h1 (.ref p) (upd H1 p (.tup vs)) (upd F1 p (.tup vs)) (same_upd (ok1.freshF hp)) (ok1.newF hp _ tupNT) (.tup (SqT.of upd_same) (da.mono (same_upd (ok1.freshF hp))))
    · simp only [if_neg hl] at h1
      exact h1.elim
theorem de_lst {es : List Expr} {g : Sm M (List S)} {pos} (h : DA M xr K X W es g) : DE M xr K X W (.List es pos) (eLst g) := by
  obtain ⟨t, p, c⟩ := h
  refine ⟨_, fun j => pe_lst (p j), fun G σ H F z Q hK hx ok hh => ?_⟩
  refine c G σ H F z _ hK hx ok (hit_bind hh fun ss z1 vs H1 F1 _ sm1 ok1 e1 h1 => ?_)
  cases e : dsOf ss with
  | none => rw [e] at h1; exact h1.elim
  | some ds =>
    rw [e] at h1
    have da := paired_ds e1 e
    by_cases hl : ds.length ≤ lim
    · simp only [if_pos hl] at h1
      refine ⟨by rw [da.length]; exact Nat.le_trans hl (Nat.le_of_lt lim_line), fun p hp => ?_⟩
      exact h1 (.ref p) (upd H1 p (.lst vs)) F1 (Same.refl _) (ok1.new hp _) ⟨p, vs, rfl, upd_same, da, ok1.freshF hp, ok1.freshP hp, ok1.freshM hp, ok1.freshO hp⟩
    · simp only [if_neg hl] at h1
      exact h1.elim

/-! ### built-in functions and classes by name -/
theorem paired_rv {G : Gx} {σ : St} {H F : Hp} {z : Z M.T} (ok : Ok M G σ H F z) : ∀ {vs : List V} {ss : List S} {ds : List D}, Paired (fun v s => EO G σ F v s) vs ss → rds z ss = some ds → Paired (Rv G.K F H) vs ds
  | _, _, _, .nil, h => by cases h; exact .nil
  | _, s :: ss, ds, .cons a b, h => by
    unfold rds at h
    cases e : rd z s with
    | none => rw [e] at h; cases h
    | some x =>
      cases e2 : rds z ss with
      | none => rw [e, e2] at h; cases h
      | some xs =>
        rw [e, e2] at h
        cases h
        exact .cons (EO.rv ok a e) (paired_rv ok b e2)
theorem cmp_fn {r : List V → Hp → VK → Prop} {g : List D → Option R} {t : TA} {f : Sm M (List S)} (hd : OpN K r g) (c : Cmp M K xr W t RelA f) : Cmp M K xr W (tCB r t) RelE (eFn g f) := by
  intro G σ H F z Q hK hx ok hh
  refine c G σ H F z _ hK hx ok (hit_bind hh fun ss z1 vs H1 F1 _ sm1 ok1 e1 h1 => ?_)
  have q := fin_hit ok1 h1
  subst hK
  cases e : rds z1 ss with
  | none => rw [e] at q; exact q.elim
  | some ds =>
    rw [e] at q
    exact hd F1 H1 vs ds Q ok1.sub (paired_rv ok1 e1 e) q
theorem de_callB {x : Str} {id : String} {r : List V → Hp → VK → Prop} {g : List D → Option R} {e : Expr} {es : List Expr} {f : Sm M (List S)} {p pos : Pos} (hc : ∀ j, CallR (X j) (.builtin id) r) (hd : OpN K r g) (hg : ∀ j, Gl (X j) x) (hm : ∀ j, (X j).mg x = none) (hv : bootBuiltins x = some (.builtin id))
    (h : DA M xr K X W (e :: es) f) (hn : x ≠ "__name__" := by decide) (hdb : (x == ("__debug__" : Str)) = false := by decide)
    (he : ∀ j, starEach (e :: es) (X j).env = (false, eval e (X j).env) :: starEach es (X j).env := by intro _; rfl) (hpl : ∀ j, (backTo pos (starEach es (X j).env)).any (·.1) = false := by intro _; rfl) : DE M xr K X W (.Call (.Name x p) (e :: es) [] pos) (eFn g f) := by
  obtain ⟨t, pa, c⟩ := h
  exact ⟨_, fun j => pe_callB (hc j) (hg j) (hm j) hv (pa j) hn hdb (he j) (hpl j), cmp_fn hd c⟩
theorem de_callTy {x : Str} {T : String} {r : List V → Hp → VK → Prop} {g : List D → Option R} {e : Expr} {es : List Expr} {f : Sm M (List S)} {p pos : Pos} (hc : ∀ j, CallR (X j) (.type T) r) (hd : OpN K r g) (hg : ∀ j, Gl (X j) x) (hm : ∀ j, (X j).mg x = none) (hv : bootBuiltins x = some (.type T))
    (h : DA M xr K X W (e :: es) f) (hn : x ≠ "__name__" := by decide) (hdb : (x == ("__debug__" : Str)) = false := by decide)
    (he : ∀ j, starEach (e :: es) (X j).env = (false, eval e (X j).env) :: starEach es (X j).env := by intro _; rfl) (hpl : ∀ j, (backTo pos (starEach es (X j).env)).any (·.1) = false := by intro _; rfl) : DE M xr K X W (.Call (.Name x p) (e :: es) [] pos) (eFn g f) := by
  obtain ⟨t, pa, c⟩ := h
  exact ⟨_, fun j => pe_callTy (hc j) (hg j) (hm j) hv (pa j) hn hdb (he j) (hpl j), cmp_fn hd c⟩

/-! ### subscripts -/
theorem de_ix {r : R2} {g : D → D → Option R} {a b : Expr} {f f' : Sm M S} {pos : Pos} (ho : ∀ j, IxR (X j) r) (hd : Op2 K r g) (ha : DE M xr K X W a f) (hb : DE M xr K X W b f') (hs : PlainIx b := by exact fun _ _ => rfl) : DE M xr K X W (.Subscript a b pos) (eBin g f f') := by
  obtain ⟨ta, pa, ca⟩ := ha
  obtain ⟨tb, pb, cb⟩ := hb
  exact ⟨_, fun j => pe_ix (ho j) (pa j) (pb j) hs, cmp_bin hd ca cb⟩
theorem do_none : DO M xr K X W none (fun z => .ok none z) := ⟨_, fun _ => po_none, fun G σ H F z Q _ _ ok h => h none H F (Same.refl _) ok rfl⟩
def oInt (f : Sm M S) : Sm M (Option Int) := fun z => (opd f z).bind fun s z1 => match s with
  | .d (.int i) => .ok (some i) z1
  | _ => .bad
theorem do_some {e : Expr} {f : Sm M S} (h : DE M xr K X W e f) : DO M xr K X W (some e) (oInt f) := by
  obtain ⟨t, p, c⟩ := h
  refine ⟨_, fun j => po_some (p j), fun G σ H F z Q hK hx ok hh => ?_⟩
  refine cmp_opd c G σ H F z _ hK hx ok (hit_bind hh fun s z1 v H1 F1 _ sm1 ok1 e1 h1 => ?_)
  cases s with
  | d x =>
    cases x with
    | int i =>
      cases (show Da G.K F1 v (.int i) from e1)
      exact ⟨i, rfl, h1 (some i) H1 F1 (Same.refl _) ok1 rfl⟩
    | _ => exact h1.elim
  | _ => exact h1.elim
def eSl (g : D → Option Int → Option Int → Option R) (f : Sm M S) (lo hi : Sm M (Option Int)) : Sm M S := fun z => (opd f z).bind fun s z1 => (lo z1).bind fun a z2 => (hi z2).bind fun b z3 => fin ((rd z3 s).bind fun x => g x a b) z3
def OpS (K : PySem.W.Frag) (r : V → Option Int → Option Int → Hp → VK → Prop) (g : D → Option Int → Option Int → Option R) : Prop := ∀ (F H : Hp) (x : V) (a : D) (lo hi : Option Int) (Q : VK), SameX F H → Rv K F H x a → Hit0 K F H (g a lo hi) Q → r x lo hi H Q
theorem de_slice {r : V → Option Int → Option Int → Hp → VK → Prop} {g : D → Option Int → Option Int → Option R} {e : Expr} {lo hi : Option Expr} {f : Sm M S} {fl fh : Sm M (Option Int)} {p2 pos : Pos} (hr : ∀ j, SlR (X j) r) (hd : OpS K r g) (h : DE M xr K X W e f) (hl : DO M xr K X W lo fl) (hh : DO M xr K X W hi fh) :
    DE M xr K X W (.Subscript e (.Slice lo hi none p2) pos) (eSl g f fl fh) := by
  obtain ⟨t, p, c⟩ := h
  obtain ⟨tl, pl, cl⟩ := hl
  obtain ⟨th, ph, ch⟩ := hh
  refine ⟨_, fun j => pe_slice (hr j) (p j) (pl j) (ph j), fun G σ H F z Q hK hx ok hh => ?_⟩
  refine cmp_opd c G σ H F z _ hK hx ok (hit_bind hh fun s z1 v H1 F1 _ sm1 ok1 e1 h1 => ?_)
  refine cl G σ H1 F1 z1 _ hK hx ok1 (hit_bind h1 fun a z2 a' H2 F2 _ sm2 ok2 e2 h2 => ?_)
  refine ch G σ H2 F2 z2 _ hK hx ok2 (hit_bind h2 fun b z3 b' H3 F3 _ sm3 ok3 e3 h3 => ?_)
  cases (show a' = a from e2)
  cases (show b' = b from e3)
  have q := fin_hit ok3 h3
  cases e : rd z3 s with
  | none => rw [e] at q; exact q.elim
  | some x =>
    rw [e] at q
    have hd' := hd F3 H3 v x a b Q
    rw [← hK] at hd'
    exact hd' ok3.sub (EO.rv ok3 (EO.mono (sm2.trans sm3) e1) e) q
/-! ### one operand: unary minus, isinstance .. -/
theorem cmp_un {r : V → Hp → VK → Prop} {g : D → Option R} {t : TE} {f : Sm M S} (hd : Op1 K r g) (c : Cmp M K xr W t RelE f) : Cmp M K xr W (tUn r t) RelE (eUn g f) := by
  intro G σ H F z Q hK hx ok hh
  refine cmp_opd c G σ H F z _ hK hx ok (hit_bind hh fun s z1 v H1 F1 _ sm1 ok1 e1 h1 => ?_)
  have q := fin_hit ok1 h1
  cases e : rd z1 s with
  | none => rw [e] at q; exact q.elim
  | some x =>
    rw [e] at q
    have hd' := hd F1 H1 v x Q
    rw [← hK] at hd'
    exact hd' ok1.sub (EO.rv ok1 e1 e) q
theorem de_un {op : UnaryOp} {r : V → Hp → VK → Prop} {g : D → Option R} {a : Expr} {f : Sm M S} {pos : Pos} (ho : ∀ j, UnR (X j) (unaryOp op) r) (hd : Op1 K r g) (h : DE M xr K X W a f) : DE M xr K X W (.UnaryOp op a pos) (eUn g f) := by
  obtain ⟨t, p, c⟩ := h
  exact ⟨_, fun j => pe_un (ho j) (p j), cmp_un hd c⟩
end
end G
namespace G
open PySem L2
theorem de_emp {ι : Type} {M : MI} {xr : Str → Option Value} {K : PySem.W.Frag} {X : ι → Cx} {W : WX} {pos : Pos} : DE M xr K X W (.Dict [] [] pos) (eC .emp) := by
  refine ⟨_, fun j => pe_dnewK, fun G σ H F z Q hK hx ok hh => fun p hp => ?_⟩
  exact hh (.ref p) (upd H p (.dK [])) (upd F p (.dK [])) (same_upd (ok.freshF hp)) (ok.newF hp _ (fun _ e => by cases e)) (.emp upd_same)
end G
namespace G
open PySem L2

inductive Out where
  | nx
  | rt (s : S)
  | bk
  | ct
structure RetOk (M : MI) (G : Gx) (F H : Hp) (t : M.T) (v : V) (s : S) : Prop where
  sub : SameX F H
  mach : M.ok G.K F H G.ms t
  msF : ∀ a ∈ G.ms, F a = none
  msH : ∀ a ∈ G.ms, H a ≠ none
  fr : ∀ b o, G.P b = some o → H b = some o ∧ F b = G.Fp b
  tg : ∀ a ps, F a = some (.tbl ps) → H a ≠ none ∧ G.P a = none
  val : SV G F H v s
def HitS (M : MI) (G : Gx) (W : WX) (F : Hp) (r : Rs Out (Z M.T)) (D : Ends) : Prop := match r with
  | .ok .nx z => ∀ σ H F', Same F F' → Ok M G σ H F' z → D.nx σ H
  | .ok .bk z => ∀ σ H F', Same F F' → Ok M G σ H F' z → D.bk σ H
  | .ok .ct z => ∀ σ H F', Same F F' → Ok M G σ H F' z → D.ct σ H
  | .ok (.rt s) z => ∀ v H F', Same F F' → RetOk M G F' H z.m v s → D.rt v H
  | .ex x z => ∀ cls d σ H F', Same F F' → Ok M G σ H F' z → XOk G F' H x cls d → W cls d σ H
  | .bad => False
def SR (M : MI) (K : PySem.W.Frag) (xr : Str → Option Value) (W : WX) (t : TS) (f : Sm M Out) : Prop :=
  ∀ (G : Gx) (σ : St) (H F : Hp) (z : Z M.T) (D : Ends), G.K = K → G.xr = xr → Ok M G σ H F z → HitS M G W F (f z) D → t D σ H
def DS {ι : Type} (M : MI) (xr : Str → Option Value) (K : PySem.W.Frag) (X : ι → Cx) (W : WX) (st : Stmt) (f : Sm M Out) : Prop := ∃ t, (∀ j, PS (X j) st t) ∧ SR M K xr W t f
def DSs {ι : Type} (M : MI) (xr : Str → Option Value) (K : PySem.W.Frag) (X : ι → Cx) (W : WX) (st : List Stmt) (f : Sm M Out) : Prop := ∃ t, (∀ j, PSs (X j) st t) ∧ SR M K xr W t f

section
variable {M : MI} {G : Gx} {W : WX} {σ : St} {H H' F F' : Hp} {z : Z M.T} {D : Ends}
theorem HitS.mono {r : Rs Out (Z M.T)} (h : HitS M G W F r D) (s : Same F F') : HitS M G W F' r D := by
  cases r with
  | ok o z =>
    cases o with
    | nx => exact fun σ H F1 s1 ok => h σ H F1 (s.trans s1) ok
    | bk => exact fun σ H F1 s1 ok => h σ H F1 (s.trans s1) ok
    | ct => exact fun σ H F1 s1 ok => h σ H F1 (s.trans s1) ok
    | rt q => exact fun v H F1 s1 ok => h v H F1 (s.trans s1) ok
  | ex x z => exact fun cls d σ H F1 s1 ok xo => h cls d σ H F1 (s.trans s1) ok xo
  | bad => exact h
/-- an expression ahead of a statement's end -/
theorem hits_bind {α β : Type} {R1 : α → β → Hp → Hp → Z M.T → Prop} {r : Rs α (Z M.T)} {k : α → Z M.T → Rs Out (Z M.T)} {Q1 : β → Hp → Prop}
    (h : HitS M G W F (r.bind k) D) (hk : ∀ a z1 b H1 F1, r = .ok a z1 → Same F F1 → Ok M G σ H1 F1 z1 → R1 a b F1 H1 z1 → HitS M G W F1 (k a z1) D → Q1 b H1) : HitG M G W σ F R1 r Q1 := by
  cases r with
  | ok a z => exact fun b H' F1 s1 ok rr => hk a z b H' F1 rfl s1 ok rr (HitS.mono h s1)
  | ex x z => exact fun cls d H' F1 s1 ok xo => h cls d σ H' F1 s1 ok xo
  | bad => exact h
end

section
variable {ι : Type} {M : MI} {xr : Str → Option Value} {X : ι → Cx} {W : WX} {K : PySem.W.Frag}
/-! ### blocks -/
def sNil : Sm M Out := fun z => .ok .nx z
def sSeq (f g : Sm M Out) : Sm M Out := fun z => (f z).bind fun o z1 => match o with
  | .nx => g z1
  | o => .ok o z1
theorem dss_nil : DSs M xr K X W [] sNil := ⟨_, fun _ => pss_nil, fun G σ H F z D _ _ ok h => h σ H F (Same.refl _) ok⟩
theorem dss_one {st : Stmt} {f : Sm M Out} (h : DS M xr K X W st f) : DSs M xr K X W [st] f := by
  obtain ⟨t, p, c⟩ := h
  exact ⟨_, fun j => pss_one (p j), c⟩
theorem dss_cons {st : Stmt} {r : List Stmt} {f g : Sm M Out} (h : DS M xr K X W st f) (h' : DSs M xr K X W r g) : DSs M xr K X W (st :: r) (sSeq f g) := by
  obtain ⟨t, p, c⟩ := h
  obtain ⟨t', p', c'⟩ := h'
  refine ⟨_, fun j => pss_cons (p j) (p' j), fun G σ H F z D hK hx ok hh => ?_⟩
  refine c G σ H F z { D with nx := t' D } hK hx ok ?_
  unfold sSeq at hh
  cases e : f z with
  | ok o z1 =>
    rw [e] at hh
    cases o with
    | nx => exact fun σ1 H1 F1 s1 ok1 => c' G σ1 H1 F1 z1 D hK hx ok1 (HitS.mono hh s1)
    | bk => exact hh
    | ct => exact hh
    | rt q => exact hh
  | ex x z1 => rw [e] at hh; exact hh
  | bad => rw [e] at hh; exact hh
theorem ds_pass {pos : Pos} : DS M xr K X W (.Pass pos) sNil := ⟨_, fun _ => ps_pass, fun G σ H F z D _ _ ok h => h σ H F (Same.refl _) ok⟩
theorem ds_doc {x j pos pos'} : DS M xr K X W (.Expr (.Constant (.str x) j pos) pos') sNil := ⟨_, fun _ => ps_doc, fun G σ H F z D _ _ ok h => h σ H F (Same.refl _) ok⟩
theorem ds_break {pos : Pos} : DS M xr K X W (.Break pos) (fun z => .ok .bk z) := ⟨_, fun _ => ps_break, fun G σ H F z D _ _ ok h => h σ H F (Same.refl _) ok⟩
theorem ds_continue {pos : Pos} : DS M xr K X W (.Continue pos) (fun z => .ok .ct z) := ⟨_, fun _ => ps_continue, fun G σ H F z D _ _ ok h => h σ H F (Same.refl _) ok⟩
/-! ### stores -/
/-- a value that is stored: a second name of a slot's list freezes it -/
def una (f : Sm M S) : Sm M S := fun z => (f z).bind fun s z1 => match s with
  | .v i => escS (.v i) z1
  | s => .ok s z1
def RelU {M : MI} (G : Gx) (σ : St) : S → V → Hp → Hp → Z M.T → Prop := fun s v F H z => SV G F H v s ∧ ∀ xs, s = .l xs → ∀ a, v = .ref a → ¬ Owned σ z a
theorem cmp_una {t : TE} {f : Sm M S} (hf : Cmp M K xr W t RelE f) : Cmp M K xr W t RelU (una f) := by
  intro G σ H F z Q hK hx ok h
  refine hf G σ H F z Q hK hx ok (hit_bind h fun s z1 v H1 F1 _ sm ok1 ev h1 => ?_)
  cases s with
  | d x => exact h1 v H1 F1 (Same.refl _) ok1 ⟨ev, fun _ e => by cases e⟩
  | l xs =>
    obtain ⟨a, vs, rfl, q1, q2, q3, q4, q5, q6⟩ := ev
    exact h1 _ H1 F1 (Same.refl _) ok1 ⟨⟨a, vs, rfl, q1, q2, q3, q4, q5⟩, fun _ _ b e => by cases e; exact q6⟩
  | m j => exact h1 v H1 F1 (Same.refl _) ok1 ⟨ev, fun _ e => by cases e⟩
  | v i =>
    have ev' : σ[i]? = some (some v) := ev
    simp only [escS] at h1
    split at h1
    · rename_i xs hs
      obtain ⟨F2, s2, ok2, da⟩ := ok1.frzSlot hs ev'
      exact h1 v H1 F2 s2 ok2 ⟨da, fun _ e => by cases e⟩
    · rename_i x hs
      obtain ⟨w, e, q⟩ := ok1.slot i _ hs
      rw [ev'] at e
      cases e
      exact h1 v H1 F1 (Same.refl _) ok1 ⟨q, fun _ e => by cases e⟩
    · exact h1.elim
def sSet (i : Nat) (f : Sm M S) : Sm M Out := fun z => (una f z).bind fun s z1 => .ok .nx { z1 with rho := z1.rho.set i (some s) }
theorem sr_set {i : Nat} {te : TE} {f : Sm M S} (c : Cmp M K xr W te RelE f) : SR M K xr W (tAsg te (gName i)) (sSet i f) := by
  intro G σ H F z D hK hx ok hh
  refine cmp_una c G σ H F z _ hK hx ok (hits_bind hh fun s z1 v H1 F1 _ sm ok1 ev h1 => ?_)
  exact h1 _ H1 F1 (Same.refl _) (ok1.set ev.1 ev.2)
theorem ds_set {i : Nat} {x : Str} {e : Expr} {f : Sm M S} {pos pos' : Pos} (hN : ∀ j, (X j).N.Nodup) (hi : ∀ j, (X j).N[i]? = some x) (hx : ∀ j, Loc (X j).env.scope x) (h : DE M xr K X W e f) (hs : ∀ j, swapsWith e (some (.Name x pos')) pos.line (X j).env = pure false := by intro _; rfl) (hf : ∀ j, (X j).fn x = true ∨ (X j).env.scope.names.lookup x = some .local := by first | exact fun _ => .inl rfl | exact fun _ => .inr rfl) :
    DS M xr K X W (.Assign [.Name x pos'] e pos) (sSet i f) := by
  obtain ⟨t, p, c⟩ := h
  exact ⟨_, fun j => ps_set (hN j) (hi j) (hx j) (p j) (hs j) (hf j), sr_set c⟩
/-! ### targets -/
/-- the slots but ts are as they were -/
def But (ts : List Nat) (σ σ' : St) : Prop := σ'.length = σ.length ∧ ∀ n, n ∉ ts → σ'[n]? = σ[n]?
theorem But.refl {ts : List Nat} {σ : St} : But ts σ σ := ⟨rfl, fun _ _ => rfl⟩
theorem But.trans {ts us : List Nat} {σ σ' σ'' : St} (a : But ts σ σ') (b : But us σ' σ'') : But (ts ++ us) σ σ'' := ⟨b.1.trans a.1, fun n hn => (b.2 n (fun h => hn (List.mem_append_right _ h))).trans (a.2 n (fun h => hn (List.mem_append_left _ h)))⟩
def GR (M : MI) (K : PySem.W.Frag) (ts : List Nat) (g : TG) (k : D → Z M.T → Option (Z M.T)) : Prop := ∀ (G : Gx) (σ : St) (H F : Hp) (z : Z M.T) (v : V) (x : D) (Q : St → Hp → Prop), G.K = K → Ok M G σ H F z → Da K F v x →
  (match k x z with | some z' => ∀ σ', But ts σ σ' → Ok M G σ' H F z' → Q σ' H | none => False) → g v σ H Q
def GRs (M : MI) (K : PySem.W.Frag) (ts : List Nat) (g : TGs) (k : List D → Z M.T → Option (Z M.T)) : Prop := ∀ (G : Gx) (σ : St) (H F : Hp) (z : Z M.T) (vs : List V) (xs : List D) (Q : St → Hp → Prop), G.K = K → Ok M G σ H F z → DaAll K F vs xs →
  (match k xs z with | some z' => ∀ σ', But ts σ σ' → Ok M G σ' H F z' → Q σ' H | none => False) → g vs σ H Q
def DG {ι : Type} (M : MI) (K : PySem.W.Frag) (X : ι → Cx) (ts : List Nat) (tg : Expr) (k : D → Z M.T → Option (Z M.T)) : Prop := ∃ g, (∀ j, PG (X j) tg g) ∧ GR M K ts g k
def DGs {ι : Type} (M : MI) (K : PySem.W.Frag) (X : ι → Cx) (ts : List Nat) (tg : List Expr) (k : List D → Z M.T → Option (Z M.T)) : Prop := ∃ g, (∀ j, PGs (X j) tg g) ∧ GRs M K ts g k
def kName (i : Nat) : D → Z M.T → Option (Z M.T) := fun x z => some { z with rho := z.rho.set i (some (.d x)) }
def ksNil : List D → Z M.T → Option (Z M.T) := fun xs z => match xs with
  | [] => some z
  | _ => none
def ksCons (k : D → Z M.T → Option (Z M.T)) (ks : List D → Z M.T → Option (Z M.T)) : List D → Z M.T → Option (Z M.T) := fun xs z => match xs with
  | x :: r => (k x z).bind fun z1 => ks r z1
  | [] => none
def kTup (n : Nat) (ks : List D → Z M.T → Option (Z M.T)) : D → Z M.T → Option (Z M.T) := fun x z => match x with
  | .tup xs => if xs.length = n then ks xs z else none
  | _ => none
theorem gr_name {i : Nat} : GR M K [i] (gName i) (kName i) := fun G σ H F z v x Q hK ok da h => h _ ⟨List.length_set, fun n hn => List.getElem?_set_ne (fun e => hn (by rw [← e]; exact List.mem_cons_self))⟩ (ok.set (s := .d x) (by subst hK; exact da) (fun _ e => by cases e))
theorem dg_name {i : Nat} {x : Str} {pos : Pos} (hN : ∀ j, (X j).N.Nodup) (hi : ∀ j, (X j).N[i]? = some x) (hx : ∀ j, Loc (X j).env.scope x) (hf : ∀ j, (X j).fn x = true ∨ (X j).env.scope.names.lookup x = some .local := by first | exact fun _ => .inl rfl | exact fun _ => .inr rfl) : DG M K X [i] (.Name x pos) (kName i) := ⟨_, fun j => pg_name (hN j) (hi j) (hx j) (hf j), gr_name⟩
theorem dgs_nil : DGs M K X [] [] ksNil := ⟨_, fun _ => pgs_nil, fun G σ H F z vs xs Q _ ok da h => by
  cases da with
  | nil => exact ⟨rfl, h σ But.refl ok⟩
  | cons _ _ => exact h.elim⟩
theorem dgs_cons {e : Expr} {es : List Expr} {k : D → Z M.T → Option (Z M.T)} {ks : List D → Z M.T → Option (Z M.T)} {ts us : List Nat} (h1 : DG M K X ts e k) (h2 : DGs M K X us es ks) (hs : ∀ j, (assignEach (e :: es) (X j).env).map (·.2) = assign e (X j).env :: (assignEach es (X j).env).map (·.2) := by intro _; rfl) : DGs M K X (ts ++ us) (e :: es) (ksCons k ks) := by
  obtain ⟨g, p, c⟩ := h1
  obtain ⟨g', p', c'⟩ := h2
  refine ⟨_, fun j => pgs_cons (p j) (p' j) (hs j), fun G σ H F z vs xs Q hK ok da h => ?_⟩
  cases da with
  | nil => exact h.elim
  | cons a b =>
    rename_i v vs d ds
    refine ⟨v, vs, rfl, c G σ H F z v d _ hK ok a ?_⟩
    unfold ksCons at h
    cases e : k d z with
    | none => simp only [e, Option.bind_none] at h
    | some z1 =>
      simp only [e, Option.bind_some] at h
      intro σ' b1 ok'
      refine c' G σ' H F z1 vs ds Q hK ok' b ?_
      cases e2 : ks ds z1 with
      | none => rw [e2] at h; exact h
      | some z2 => rw [e2] at h; exact fun σ2 b2 ok2 => h σ2 (b1.trans b2) ok2
theorem dg_tup {ts : List Nat} {es : List Expr} {k n : Nat} {ks : List D → Z M.T → Option (Z M.T)} {pos : Pos} (hK0 : ∀ j, (X j).K = K) (hc : ∀ j, (X j).calm = true) (h : DGs M K X ts es ks) (hn : ∀ j, (assignEach es (X j).env).length = n := by intro _; rfl) (hst : ∀ j, (assignEach es (X j).env).findIdx? (·.1) = none := by intro _; rfl) : DG M K X ts (.Tuple es k pos) (kTup n ks) := by
  obtain ⟨g, p, c⟩ := h
  refine ⟨gTup K n g, fun j => by rw [← hK0 j]; exact pg_tup (hc j) (p j) (hn j) (hst j), fun G σ H F z v x Q hK ok da h => ?_⟩
  cases x with
  | tup xs =>
    unfold kTup at h
    by_cases hl : xs.length = n
    · simp only [if_pos hl] at h
      cases da with
      | tup q r =>
        rename_i a vs
        exact ⟨a, vs, rfl, ok.sub.tup q, by rw [r.length]; exact hl, c G σ H F z vs xs Q hK ok r h⟩
    · simp only [if_neg hl] at h
  | _ => exact h.elim
def sAsg (f : Sm M S) (k : D → Z M.T → Option (Z M.T)) : Sm M Out := fun z => (escf f z).bind fun s z1 => match s with
  | .d x => Rs.opt ((k x z1).map fun z2 => (Out.nx, z2)) z1 |>.bind fun p _ => .ok p.1 p.2
  | _ => .bad
theorem ds_asg {ts : List Nat} {tg e : Expr} {f : Sm M S} {k : D → Z M.T → Option (Z M.T)} {pos : Pos} (h : DE M xr K X W e f) (hg : DG M K X ts tg k) (hs : ∀ j, swapsWithSole [tg] e pos.line (X j).env = pure false := by intro _; rfl) (hw : ∀ j, swappedStores [tg] e (X j).env = pure none := by intro _; rfl)
    (h1 : ∀ j, (assignEach [tg] (X j).env).map (·.2) = [assign tg (X j).env] := by intro _; rfl) : DS M xr K X W (.Assign [tg] e pos) (sAsg f k) := by
  obtain ⟨t, p, c⟩ := h
  obtain ⟨g, pg, cg⟩ := hg
  refine ⟨_, fun j => ps_asg (p j) (pg j) (hs j) (hw j) (h1 j), fun G σ H F z D hK hx ok hh => ?_⟩
  refine cmp_esc c G σ H F z _ hK hx ok (hits_bind hh fun s z1 v H1 F1 _ sm ok1 ev h2 => ?_)
  cases s with
  | d x =>
    refine cg G σ H1 F1 z1 v x D.nx hK ok1 (by rw [← hK]; exact ev) ?_
    cases e : k x z1 with
    | none => simp only [e] at h2; exact h2
    | some z2 =>
      simp only [e] at h2
      exact fun σ' _ ok' => h2 σ' H1 F1 (Same.refl _) ok'
  | _ => exact h2.elim
/-! ### the rest -/
def sRet (f : Sm M S) : Sm M Out := fun z => (f z).bind fun s z1 => match s with
  | .v i => (match z1.rho[i]? with
    | some (some (.l xs)) => .ok (.rt (.l xs)) z1
    | some (some (.d x)) => .ok (.rt (.d x)) z1
    | _ => .bad)
  | s => .ok (.rt s) z1
theorem Ok.ret {G : Gx} {σ : St} {H F : Hp} {z : Z M.T} (ok : Ok M G σ H F z) {v : V} {s : S} (h : SV G F H v s) : RetOk M G F H z.m v s := ⟨ok.sub, ok.mach, ok.msF, ok.msH, ok.fr, ok.tg, h⟩
theorem ds_ret {e : Expr} {f : Sm M S} {pos : Pos} (h : DE M xr K X W e f) : DS M xr K X W (.Return (some e) pos) (sRet f) := by
  obtain ⟨t, p, c⟩ := h
  refine ⟨_, fun j => ps_ret (p j), fun G σ H F z D hK hx ok hh => ?_⟩
  refine c G σ H F z _ hK hx ok (hits_bind hh fun s z1 v H1 F1 _ sm ok1 ev h2 => ?_)
  cases s with
  | d x => exact h2 v H1 F1 (Same.refl _) (ok1.ret (s := .d x) ev)
  | l xs =>
    obtain ⟨a, vs, rfl, q1, q2, q3, q4, q5, q6⟩ := ev
    exact h2 _ H1 F1 (Same.refl _) (ok1.ret (s := .l xs) ⟨a, vs, rfl, q1, q2, q3, q4, q5⟩)
  | m j => exact h2 v H1 F1 (Same.refl _) (ok1.ret (s := .m j) ev)
  | v i =>
    have ev' : σ[i]? = some (some v) := ev
    simp only at h2
    split at h2
    · rename_i xs hs
      obtain ⟨w, e, q⟩ := ok1.slot i _ hs
      rw [ev'] at e
      cases e
      exact h2 v H1 F1 (Same.refl _) (ok1.ret q)
    · rename_i x hs
      obtain ⟨w, e, q⟩ := ok1.slot i _ hs
      rw [ev'] at e
      cases e
      exact h2 v H1 F1 (Same.refl _) (ok1.ret q)
    · exact h2.elim
theorem ds_retN {pos : Pos} : DS M xr K X W (.Return none pos) (fun z => .ok (.rt (.d .non)) z) := ⟨_, fun _ => ps_retN, fun G σ H F z D _ _ ok h => h .non H F (Same.refl _) (ok.ret (s := .d .non) Da.non)⟩
def sExpr (f : Sm M S) : Sm M Out := fun z => (f z).bind fun _ z1 => .ok .nx z1
theorem ds_expr {e : Expr} {f : Sm M S} {pos : Pos} (h : DE M xr K X W e f) (hs : ∀ j, swapsWith e none pos.line (X j).env = pure false := by intro _; rfl) : DS M xr K X W (.Expr e pos) (sExpr f) := by
  obtain ⟨t, p, c⟩ := h
  refine ⟨_, fun j => ps_expr (p j) (hs j), fun G σ H F z D hK hx ok hh => ?_⟩
  exact c G σ H F z _ hK hx ok (hits_bind hh fun s z1 v H1 F1 _ sm ok1 ev h2 => h2 σ H1 F1 (Same.refl _) ok1)
def sIf (c : Sm M Bool) (f g : Sm M Out) : Sm M Out := fun z => (c z).bind fun b z1 => if b = true then f z1 else g z1
theorem ds_if {e : Expr} {a b : List Stmt} {c : Sm M Bool} {f g : Sm M Out} {pos : Pos} (hc : DT M xr K X W e c) (h : DSs M xr K X W a f) (h' : DSs M xr K X W b g) : DS M xr K X W (.If e a b pos) (sIf c f g) := by
  obtain ⟨t, p, c0⟩ := hc
  obtain ⟨t1, p1, c1⟩ := h
  obtain ⟨t2, p2, c2⟩ := h'
  refine ⟨_, fun j => ps_if (p j) (p1 j) (p2 j), fun G σ H F z D hK hx ok hh => ?_⟩
  refine c0 G σ H F z _ hK hx ok (hits_bind hh fun b z1 c H1 F1 _ sm ok1 e1 h1 => ?_)
  cases (show c = b from e1)
  cases b with
  | true => exact c1 G σ H1 F1 z1 D hK hx ok1 h1
  | false => exact c2 G σ H1 F1 z1 D hK hx ok1 h1
def sWhile (c : Sm M Bool) (b : Sm M Out) : Nat → Sm M Out
  | 0, _ => .bad
  | n + 1, z => (c z).bind fun t z1 => if t = true then (b z1).bind fun o z2 => (match o with
      | .nx => sWhile c b n z2
      | .ct => sWhile c b n z2
      | .bk => .ok .nx z2
      | .rt s => .ok (.rt s) z2) else .ok .nx z1
theorem ds_while {e : Expr} {body : List Stmt} {c : Sm M Bool} {f : Sm M Out} {pos : Pos} (n : Nat) (hp : ∀ j, PassesOwn (model (X j).prog (X j).w) (X j).A (X j).env (X j).xe) (hc : DT M xr K X W e c) (h : DSs M xr K X W body f) : DS M xr K X W (.While e body [] pos) (sWhile c f n) := by
  obtain ⟨t, p, c0⟩ := hc
  obtain ⟨t1, p1, c1⟩ := h
  refine ⟨_, fun j => ps_while (hp j) (p j) (p1 j), fun G σ H F z D hK hx ok hh => ?_⟩
  refine ⟨fun m σ H => ∃ F' z', Same F F' ∧ Ok M G σ H F' z' ∧ HitS M G W F' (sWhile c f m z') D, ⟨n, F, z, Same.refl _, ok, hh⟩, ?_⟩
  rintro m σ1 H1 ⟨F1, z1, s1, ok1, h1⟩
  cases m with
  | zero => exact h1.elim
  | succ m =>
    refine c0 G σ1 H1 F1 z1 _ hK hx ok1 (hits_bind h1 fun b z2 d H2 F2 _ sm ok2 e2 h2 => ?_)
    cases (show d = b from e2)
    cases b with
    | false => exact h2 σ1 H2 F2 (Same.refl _) ok2
    | true =>
      refine ⟨fun σ' H' => ∃ F' z', Same F F' ∧ Ok M G σ' H' F' z' ∧ HitS M G W F' (sWhile c f m z') D, fun σ' H' q => ⟨m, Nat.lt_succ_self m, q⟩, ?_⟩
      refine c1 G σ1 H2 F2 z2 _ hK hx ok2 ?_
      rw [if_pos rfl] at h2
      cases e : f z2 with
      | bad => rw [e] at h2; exact h2
      | ex x z3 => rw [e] at h2; exact h2
      | ok o z3 =>
        rw [e] at h2
        cases o with
        | nx => exact fun σ3 H3 F3 s3 ok3 => ⟨F3, z3, (s1.trans sm).trans s3, ok3, HitS.mono h2 s3⟩
        | ct => exact fun σ3 H3 F3 s3 ok3 => ⟨F3, z3, (s1.trans sm).trans s3, ok3, HitS.mono h2 s3⟩
        | bk => exact h2
        | rt q => exact h2
/-! ### for -/
def YD (K : PySem.W.Frag) (F : Hp) (ds : List D) : Nat → Hp → V → Hp → Prop := fun i H v H' => ∃ d, ds[i]? = some d ∧ ∀ F1, Same F F1 → SameX F1 H → (∀ a ps, F1 a = some (.tbl ps) → H a ≠ none) → ∃ F2, Same F1 F2 ∧ SameX F2 H' ∧ (∀ b o, H b = some o → H' b = some o ∧ F2 b = F1 b) ∧ (∀ a ps, F2 a = some (.tbl ps) → F1 a = some (.tbl ps)) ∧ Da K F2 v d
def Wk (K : PySem.W.Frag) (F : Hp) (J : It) (ds : List D) : Prop := Walk J ds.length (fun H => SameX F H) (YD K F ds)
def RelW {M : MI} (G : Gx) (_ : St) : List D → It → Hp → Hp → Z M.T → Prop := fun ds J F _ _ => Wk G.K F J ds
def DI {ι : Type} (M : MI) (xr : Str → Option Value) (K : PySem.W.Frag) (X : ι → Cx) (W : WX) (tg iter : Expr) (f : Sm M (List D)) : Prop := ∃ wi, (∀ j, PI (X j) tg iter wi) ∧ Cmp M K xr W wi RelW f
def forL (k : D → Z M.T → Option (Z M.T)) (b : Sm M Out) : List D → Sm M Out
  | [], z => .ok .nx z
  | d :: r, z => match k d z with
    | none => .bad
    | some z1 => (b z1).bind fun o z2 => match o with
      | .nx => forL k b r z2
      | .ct => forL k b r z2
      | .bk => .ok .nx z2
      | .rt s => .ok (.rt s) z2
def sFor (its : Sm M (List D)) (k : D → Z M.T → Option (Z M.T)) (b : Sm M Out) : Sm M Out := fun z => (its z).bind fun ds z1 => forL k b ds z1
theorem Ok.yd {G : Gx} {σ : St} {H H' F1 F2 : Hp} {z : Z M.T} (ok : Ok M G σ H F1 z) (s1 : Same F1 F2) (s2 : SameX F2 H') (k : ∀ b o, H b = some o → H' b = some o ∧ F2 b = F1 b) (kt : ∀ a ps, F2 a = some (.tbl ps) → F1 a = some (.tbl ps)) : Ok M G σ H' F2 z :=
  ok.step s1 (fun a ps e => ⟨kt a ps e, by
    cases q : H a with
    | none => exact ((ok.tg a ps (kt a ps e)).1 q).elim
    | some o => rw [(k a o q).1]⟩) s2 (fun a q => by
    obtain ⟨vs, e, e2, _⟩ := ok.ownH q
    obtain ⟨h1, h2⟩ := k a _ e
    exact ⟨by rw [h1, e], by rw [h2]; exact e2⟩) (fun a q => by
    cases e : H a with
    | none => exact (ok.msH a q e).elim
    | some o =>
      obtain ⟨h1, h2⟩ := k a _ e
      exact ⟨h1, by rw [h2]; exact ok.msF a q⟩) (fun b o q => by
    obtain ⟨h1, h2⟩ := ok.fr b o q
    obtain ⟨h3, h4⟩ := k b o h1
    exact ⟨h3, h4.trans h2⟩)
theorem ds_for {ts : List Nat} {tg iter : Expr} {body : List Stmt} {its : Sm M (List D)} {k : D → Z M.T → Option (Z M.T)} {f : Sm M Out} {pos : Pos} (hp : ∀ j, PassesOwn (model (X j).prog (X j).w) (X j).A (X j).env (X j).xe) (hc : ∀ j, (X j).calm = true) (hi : DI M xr K X W tg iter its) (hg : DG M K X ts tg k) (h : DSs M xr K X W body f)
    (hs : ∀ j x, foldedSetIterable iter (X j).env x = pure x := by intro _ _; rfl) : DS M xr K X W (.For tg iter body [] pos) (sFor its k f) := by
  obtain ⟨wi, pi, ci⟩ := hi
  obtain ⟨g, pg, cg⟩ := hg
  obtain ⟨t, p, c⟩ := h
  refine ⟨_, fun j => ps_for (hp j) (hc j) (pi j) (pg j) (p j) (hs j), fun G σ H F z D hK hx ok hh => ?_⟩
  refine ci G σ H F z _ hK hx ok (hits_bind hh fun ds z1 J H1 F1 _ sm ok1 w h1 => ?_)
  refine for_it (w : Wk G.K F1 J ds) (fun i σ' H' => ∃ F' z', Same F1 F' ∧ Ok M G σ' H' F' z' ∧ HitS M G W F' (forL k f (ds.drop i) z') D) ⟨F1, z1, Same.refl _, ok1, h1⟩ (fun i σ' H' _ ⟨F', z', s', ok', _⟩ => thenX s' ok'.sub) ?_ ?_
  · rintro i x σ2 H2 H3 hi ⟨F2, z2, s2, ok2, h2⟩ ⟨d, hd, q⟩
    obtain ⟨F3, s3, s4, kk, kt, da⟩ := q F2 s2 ok2.sub (fun a ps e => (ok2.tg a ps e).1)
    have ok3 := ok2.yd s3 s4 kk kt
    have ed : ds.drop i = d :: ds.drop (i + 1) := by
      rw [List.drop_eq_getElem_cons hi]
      have := List.getElem?_eq_getElem hi
      rw [hd] at this
      rw [← Option.some.inj this]
    rw [ed] at h2
    refine cg G σ2 H3 F3 z2 x d _ hK ok3 (by rw [← hK]; exact da) ?_
    unfold forL at h2
    cases e : k d z2 with
    | none => simp only [e] at h2; exact h2
    | some z3 =>
      simp only [e] at h2
      intro σ4 _ ok4
      refine c G σ4 H3 F3 z3 _ hK hx ok4 ?_
      cases e : f z3 with
      | bad => rw [e] at h2; exact h2
      | ex x z3 => rw [e] at h2; exact HitS.mono (F := F2) (r := .ex x z3) h2 s3
      | ok o z4 =>
        rw [e] at h2
        cases o with
        | nx => exact fun σ5 H5 F5 s5 ok5 => ⟨F5, z4, (s2.trans s3).trans s5, ok5, HitS.mono h2 (s3.trans s5)⟩
        | ct => exact fun σ5 H5 F5 s5 ok5 => ⟨F5, z4, (s2.trans s3).trans s5, ok5, HitS.mono h2 (s3.trans s5)⟩
        | bk => exact fun σ5 H5 F5 s5 ok5 => h2 σ5 H5 F5 (s3.trans s5) ok5
        | rt q => exact fun v H5 F5 s5 ok5 => h2 v H5 F5 (s3.trans s5) ok5
  · rintro σ2 H2 ⟨F2, z2, s2, ok2, h2⟩
    rw [List.drop_length] at h2
    exact h2 σ2 H2 F2 (Same.refl _) ok2
end
end G
namespace G
open PySem L2
/-! ### slots forgotten and restored -/
def wipeR (rho : List (Option S)) : List Nat → List (Option S)
  | [] => rho
  | v :: vs => (wipeR rho vs).set v none
def restR (rho0 rho : List (Option S)) : List Nat → List (Option S)
  | [] => rho
  | v :: vs => (restR rho0 rho vs).set v (rho0[v]?.getD none)
theorem wipeR_length (rho : List (Option S)) : ∀ vs, (wipeR rho vs).length = rho.length
  | [] => rfl
  | v :: vs => by unfold wipeR; rw [List.length_set, wipeR_length rho vs]
theorem restR_length (rho0 rho : List (Option S)) : ∀ vs, (restR rho0 rho vs).length = rho.length
  | [] => rfl
  | v :: vs => by unfold restR; rw [List.length_set, restR_length rho0 rho vs]
theorem wipeR_out (rho : List (Option S)) : ∀ (vs : List Nat) (n : Nat), n ∉ vs → (wipeR rho vs)[n]? = rho[n]?
  | [], _, _ => rfl
  | v :: vs, n, h => by
    unfold wipeR
    rw [List.getElem?_set_ne (fun e => h (by rw [← e]; exact List.mem_cons_self)), wipeR_out rho vs n (fun q => h (List.mem_cons_of_mem _ q))]
theorem wipeR_in (rho : List (Option S)) : ∀ (vs : List Nat) (n : Nat) (s : S), n ∈ vs → (wipeR rho vs)[n]? ≠ some (some s)
  | [], _, _, h => by cases h
  | v :: vs, n, s, h => by
    unfold wipeR
    by_cases e : n = v
    · subst e
      by_cases hl : n < (wipeR rho vs).length
      · rw [List.getElem?_set_self hl]
        intro q
        cases q
      · rw [List.getElem?_eq_none (by rw [List.length_set]; omega)]
        intro q
        cases q
    · rw [List.getElem?_set_ne (Ne.symm e)]
      exact wipeR_in rho vs n s ((List.mem_cons.mp h).resolve_left e)
theorem restR_out (rho0 rho : List (Option S)) : ∀ (vs : List Nat) (n : Nat), n ∉ vs → (restR rho0 rho vs)[n]? = rho[n]?
  | [], _, _ => rfl
  | v :: vs, n, h => by
    unfold restR
    rw [List.getElem?_set_ne (fun e => h (by rw [← e]; exact List.mem_cons_self)), restR_out rho0 rho vs n (fun q => h (List.mem_cons_of_mem _ q))]
theorem restR_in (rho0 rho : List (Option S)) : ∀ (vs : List Nat) (n : Nat) (s : S), n ∈ vs → (restR rho0 rho vs)[n]? = some (some s) → rho0[n]? = some (some s)
  | [], _, _, h, _ => by cases h
  | v :: vs, n, s, h, e1 => by
    unfold restR at e1
    by_cases e : n = v
    · subst e
      by_cases hl : n < (restR rho0 rho vs).length
      · rw [List.getElem?_set_self hl] at e1
        cases q : rho0[n]? with
        | none => rw [q] at e1; cases e1
        | some o => rw [q] at e1; exact e1
      · rw [List.getElem?_eq_none (by rw [List.length_set]; omega)] at e1
        cases e1
    · rw [List.getElem?_set_ne (Ne.symm e)] at e1
      exact restR_in rho0 rho vs n s ((List.mem_cons.mp h).resolve_left e) e1
theorem wipe_out (σ : St) : ∀ (vs : List Nat) (n : Nat), n ∉ vs → (wipe σ vs)[n]? = σ[n]?
  | [], _, _ => rfl
  | v :: vs, n, h => by
    unfold wipe
    rw [List.getElem?_set_ne (fun e => h (by rw [← e]; exact List.mem_cons_self)), wipe_out σ vs n (fun q => h (List.mem_cons_of_mem _ q))]
theorem wipe_in (σ : St) : ∀ (vs : List Nat) (n : Nat), n ∈ vs → n < σ.length → (wipe σ vs)[n]? = some none
  | [], _, h, _ => by cases h
  | v :: vs, n, h, hl => by
    unfold wipe
    by_cases e : n = v
    · subst e
      exact List.getElem?_set_self (by rw [wipe_length]; exact hl)
    · rw [List.getElem?_set_ne (Ne.symm e)]
      exact wipe_in σ vs n ((List.mem_cons.mp h).resolve_left e) hl
theorem wipe_but {σ σ' : St} {ts vs : List Nat} (b : But ts (wipe σ vs) σ') (h : ∀ n ∈ ts, n ∈ vs) : wipe σ' vs = wipe σ vs := by
  have hl : σ'.length = σ.length := b.1.trans (wipe_length σ vs)
  refine List.ext_getElem? fun n => ?_
  by_cases hn : n ∈ vs
  · by_cases q : n < σ.length
    · rw [wipe_in σ vs n hn q, wipe_in σ' vs n hn (by omega)]
    · rw [List.getElem?_eq_none (by rw [wipe_length]; omega), List.getElem?_eq_none (by rw [wipe_length]; omega)]
  · rw [wipe_out σ' vs n hn, b.2 n (fun q => hn (h n q)), wipe_out σ vs n hn]
section
variable {M : MI} {G : Gx} {W : WX} {σ : St} {H H' F F' : Hp} {z : Z M.T}
def wipeZ (z : Z M.T) (vs : List Nat) : Z M.T := { z with rho := wipeR z.rho vs }
theorem Ok.wipe (ok : Ok M G σ H F z) (vs : List Nat) : Ok M G (L2.wipe σ vs) H F (wipeZ z vs) where
  sub := ok.sub
  len := by
    show (wipeR z.rho vs).length = _
    rw [wipeR_length, wipe_length]
    exact ok.len
  slot := fun i s e => by
    have e' : (wipeR z.rho vs)[i]? = some (some s) := e
    by_cases h : i ∈ vs
    · exact (wipeR_in z.rho vs i s h e').elim
    · rw [wipeR_out _ _ _ h] at e'
      obtain ⟨v, h1, h2⟩ := ok.slot i s e'
      exact ⟨v, by rw [wipe_out _ _ _ h]; exact h1, h2⟩
  dist := fun i j xs ys v e1 e2 e3 e4 => by
    have e1' : (wipeR z.rho vs)[i]? = some (some (.l xs)) := e1
    have e2' : (wipeR z.rho vs)[j]? = some (some (.l ys)) := e2
    by_cases h : i ∈ vs
    · exact (wipeR_in z.rho vs i _ h e1').elim
    · by_cases h' : j ∈ vs
      · exact (wipeR_in z.rho vs j _ h' e2').elim
      · rw [wipeR_out _ _ _ h] at e1'
        rw [wipeR_out _ _ _ h'] at e2'
        rw [wipe_out _ _ _ h] at e3
        rw [wipe_out _ _ _ h'] at e4
        exact ok.dist i j xs ys v e1' e2' e3 e4
  mach := ok.mach
  msF := ok.msF
  msP := ok.msP
  msH := ok.msH
  fr := ok.fr
  tg := ok.tg
def noOwn (rho : List (Option S)) (vs : List Nat) : Bool := vs.all fun i => match rho[i]? with
  | some (some (.l _)) => false
  | _ => true
theorem Ok.rest {z1 : Z M.T} {H1 F1 : Hp} (ok : Ok M G σ H F z) {vs : List Nat} (hn : noOwn z.rho vs = true) (sm : Same F F1) (ok1 : Ok M G (L2.wipe σ vs) H1 F1 z1) : Ok M G σ H1 F1 { z1 with rho := restR z.rho z1.rho vs } := by
  have no : ∀ n ∈ vs, ∀ xs, z.rho[n]? ≠ some (some (.l xs)) := fun n hm xs e => by
    have q := List.all_eq_true.mp hn n hm
    rw [e] at q
    cases q
  refine ⟨ok1.sub, ?_, fun i s e => ?_, fun i j xs ys v e1 e2 e3 e4 => ?_, ok1.mach, ok1.msF, ok1.msP, ok1.msH, ok1.fr, ok1.tg⟩
  · show (restR z.rho z1.rho vs).length = _
    rw [restR_length, ok1.len, wipe_length]
  · have e' : (restR z.rho z1.rho vs)[i]? = some (some s) := e
    by_cases h : i ∈ vs
    · have q := restR_in z.rho z1.rho vs i s h e'
      obtain ⟨v, h1, h2⟩ := ok.slot i s q
      refine ⟨v, h1, ?_⟩
      cases s with
      | d x => exact Da.mono sm h2
      | l xs => exact (no i h xs q).elim
      | v _ => exact h2
      | m j => exact h2
    · rw [restR_out _ _ _ _ h] at e'
      obtain ⟨v, h1, h2⟩ := ok1.slot i s e'
      rw [wipe_out _ _ _ h] at h1
      exact ⟨v, h1, h2⟩
  · have e1' : (restR z.rho z1.rho vs)[i]? = some (some (.l xs)) := e1
    have e2' : (restR z.rho z1.rho vs)[j]? = some (some (.l ys)) := e2
    by_cases h : i ∈ vs
    · exact (no i h xs (restR_in z.rho z1.rho vs i _ h e1')).elim
    · by_cases h' : j ∈ vs
      · exact (no j h' ys (restR_in z.rho z1.rho vs j _ h' e2')).elim
      · rw [restR_out _ _ _ _ h] at e1'
        rw [restR_out _ _ _ _ h'] at e2'
        exact ok1.dist i j xs ys v e1' e2' (by rw [wipe_out _ _ _ h]; exact e3) (by rw [wipe_out _ _ _ h']; exact e4)
/-- a list under way is guarded -/
def Gx.prot (G : Gx) (D : Addr) (vs : List V) : Gx := { G with P := upd G.P D (.lst vs), Fp := fun b => if b = D then none else G.Fp b }
theorem Ok.prot {D : Addr} {vs : List V} (ok : Ok M G σ H F z) (hD : H D = some (.lst vs)) (hF : F D = none) (hm : D ∉ G.ms) (ho : ¬ Owned σ z D) : Ok M (G.prot D vs) σ H F z := by
  refine ⟨ok.sub, ok.len, fun i s e => ?_, ok.dist, ok.mach, ok.msF, fun a ha => ?_, ok.msH, fun b o q => ?_, fun a ps e => ⟨(ok.tg a ps e).1, (upd_ne (ne_of_none e hF)).trans (ok.tg a ps e).2⟩⟩
  · obtain ⟨v, h1, h2⟩ := ok.slot i s e
    refine ⟨v, h1, ?_⟩
    cases s with
    | d x => exact h2
    | l xs =>
      obtain ⟨a, ws, rfl, q1, q2, q3, q4, q5⟩ := h2
      have n : a ≠ D := fun e2 => ho (e2 ▸ ⟨i, xs, e, h1⟩)
      exact ⟨a, ws, rfl, q1, q2, q3, (upd_ne n).trans q4, q5⟩
    | v _ => exact h2
    | m j => exact h2
  · have n : a ≠ D := fun e => hm (e ▸ ha)
    exact (upd_ne n).trans (ok.msP a ha)
  · have q' : upd G.P D (.lst vs) b = some o := q
    show H b = some o ∧ F b = (if b = D then none else G.Fp b)
    by_cases e : b = D
    · subst e
      rw [upd_same] at q'
      cases q'
      rw [if_pos rfl]
      exact ⟨hD, hF⟩
    · rw [upd_ne e] at q'
      rw [if_neg e]
      exact ok.fr b o q'
theorem Ok.unprot {D : Addr} {vs : List V} (ok : Ok M (G.prot D vs) σ H F z) (hP : G.P D = none) : Ok M G σ H F z ∧ H D = some (.lst vs) ∧ F D = none ∧ ¬ Owned σ z D := by
  have hd := ok.fr D (.lst vs) upd_same
  have hF : F D = none := hd.2.trans (if_pos rfl)
  have no : ¬ Owned σ z D := fun q => by
    obtain ⟨_, _, _, e, _⟩ := ok.ownH q
    have e' : upd G.P D (.lst vs) D = none := e
    rw [upd_same] at e'
    cases e'
  refine ⟨⟨ok.sub, ok.len, fun i s e => ?_, ok.dist, ok.mach, ok.msF, fun a ha => ?_, ok.msH, fun b o q => ?_, fun a ps e => ⟨(ok.tg a ps e).1, (upd_ne (ne_of_none e hF)).symm.trans (ok.tg a ps e).2⟩⟩, hd.1, hF, no⟩
  · obtain ⟨v, h1, h2⟩ := ok.slot i s e
    refine ⟨v, h1, ?_⟩
    cases s with
    | d x => exact h2
    | l xs =>
      obtain ⟨a, ws, rfl, q1, q2, q3, q4, q5⟩ := h2
      have n : a ≠ D := fun e2 => no (e2 ▸ ⟨i, xs, e, h1⟩)
      have q4' : upd G.P D (.lst vs) a = none := q4
      rw [upd_ne n] at q4'
      exact ⟨a, ws, rfl, q1, q2, q3, q4', q5⟩
    | v _ => exact h2
    | m j => exact h2
  · have q : upd G.P D (.lst vs) a = none := ok.msP a ha
    by_cases e : a = D
    · rw [e]; exact hP
    · rw [upd_ne e] at q
      exact q
  · have n : b ≠ D := fun e => by rw [e, hP] at q; cases q
    have q' : (G.prot D vs).P b = some o := (upd_ne n).trans q
    obtain ⟨h1, h2⟩ := ok.fr b o q'
    have h2' : F b = (if b = D then none else G.Fp b) := h2
    rw [if_neg n] at h2'
    exact ⟨h1, h2'⟩
/-- the guarded list itself is changed -/
theorem Ok.updD {D : Addr} {o o' : HO} (ok : Ok M G σ H F z) (hD : H D = some o) (hF : F D = none) (hm : D ∉ G.ms) (hP : G.P D = none) (ho : ¬ Owned σ z D) : Ok M G σ (upd H D o') F z :=
  ok.step (Same.refl F) (tgk_new hF) (same_updR ok.sub hF) (fun a q => by
    have n : a ≠ D := fun e => ho (e ▸ q)
    exact ⟨upd_ne n, (ok.ownH q).choose_spec.2.1⟩) (fun a q => by
    have n : a ≠ D := fun e => hm (e ▸ q)
    exact ⟨upd_ne n, ok.msF a q⟩) (fun b u q => by
    have n : b ≠ D := fun e => by rw [e, hP] at q; cases q
    obtain ⟨h1, h2⟩ := ok.fr b u q
    exact ⟨(upd_ne n).trans h1, h2⟩)

/-! ### comprehensions -/
def nox {α ζ : Type} (r : Rs α ζ) : Rs α ζ := match r with
  | .ex _ _ => .bad
  | r => r
def lcL (k : D → Z M.T → Option (Z M.T)) (t : Sm M Bool) (e : Sm M S) (vs : List Nat) : List D → List D → Z M.T → Rs (List D) (Z M.T)
  | [], acc, z => .ok acc z
  | d :: r, acc, z => match k d z with
    | none => .bad
    | some z1 => (nox (t z1)).bind fun b z2 => if b = true then (nox (escf e z2)).bind fun s z3 => (match s with
        | .d y => if acc.length < lim then lcL k t e vs r (acc ++ [y]) (wipeZ z3 vs) else .bad
        | _ => .bad) else lcL k t e vs r acc (wipeZ z2 vs)
def eLc (its : Sm M (List D)) (k : D → Z M.T → Option (Z M.T)) (t : Sm M Bool) (e : Sm M S) (vs : List Nat) : Sm M S := fun z => (its z).bind fun ds z1 => if noOwn z1.rho vs = true then
    (lcL k t e vs ds [] (wipeZ z1 vs)).bind fun acc z2 => .ok (.l acc) { z2 with rho := restR z1.rho z2.rho vs }
  else .bad
abbrev W0 : WX := fun _ _ _ _ => False
theorem cmp_lc {K : PySem.W.Frag} {xr : Str → Option Value} {wi : TI} {g : TG} {tt : TT} {te : TE} {vs ts : List Nat} {its : Sm M (List D)} {k : D → Z M.T → Option (Z M.T)} {t : Sm M Bool} {e : Sm M S} (hv : ∀ n ∈ ts, n ∈ vs) (ci : Cmp M K xr W wi RelW its) (cg : GR M K ts g k)
    (ct : Cmp M K xr W0 tt RelB t) (ce : Cmp M K xr W0 te RelE e) : Cmp M K xr W (tLc wi g tt te vs) RelE (eLc its k t e vs) := by
  intro G σ H F z Q hK hx ok hh
  refine ci G σ H F z _ hK hx ok (hit_bind hh fun ds z1 J H1 F1 _ sm ok1 w h1 => ?_)
  intro L hL
  have hn : noOwn z1.rho vs = true := by
    by_cases q : noOwn z1.rho vs = true
    · exact q
    · rw [if_neg q] at h1; exact h1.elim
  rw [if_pos hn] at h1
  have okw : Ok M G (L2.wipe σ vs) H1 F1 (wipeZ z1 vs) := ok1.wipe vs
  have hP : G.P L = none := ok1.freshP hL
  have hm : L ∉ G.ms := ok1.freshM hL
  refine lc_it (w : Wk G.K F1 J ds) (fun i H' => ∃ F' z' acc avs, Same F1 F' ∧ Ok M G (L2.wipe σ vs) H' F' z' ∧ H' L = some (.lst avs) ∧ DaAll G.K F' avs acc ∧ F' L = none ∧ ¬ Owned (L2.wipe σ vs) z' L ∧
      HitG M G W σ F' (RelE G σ) ((lcL k t e vs (ds.drop i) acc z').bind fun acc z2 => .ok (.l acc) { z2 with rho := restR z1.rho z2.rho vs }) Q)
    ⟨F1, wipeZ z1 vs, [], [], Same.refl _, okw.new hL _, upd_same, .nil, ok1.freshF hL, okw.freshO hL, h1⟩ (fun i H' _ ⟨F', z', _, _, s', ok', _⟩ => thenX s' ok'.sub) ?_ ?_
  · rintro i x H2 H3 hi ⟨F2, z2, acc, avs, s2, ok2, hl2, da2, hf2, no2, h2⟩ ⟨d, hd, q⟩
    obtain ⟨F3, s3, s4, kk, kt, da⟩ := q F2 s2 ok2.sub (fun a ps e => (ok2.tg a ps e).1)
    have ok3 := ok2.yd s3 s4 kk kt
    have hl3 : H3 L = some (.lst avs) := (kk L _ hl2).1
    have hf3 : F3 L = none := (kk L _ hl2).2.trans hf2
    have ed : ds.drop i = d :: ds.drop (i + 1) := by
      rw [List.drop_eq_getElem_cons hi]
      have := List.getElem?_eq_getElem hi
      rw [hd] at this
      rw [← Option.some.inj this]
    rw [ed] at h2
    have okp := ok3.prot hl3 hf3 hm no2
    refine cg (G.prot L avs) _ H3 F3 z2 x d _ hK okp (by rw [← hK]; exact da) ?_
    unfold lcL at h2
    cases e1 : k d z2 with
    | none => simp only [e1] at h2; exact h2.elim
    | some z3 =>
      simp only [e1] at h2
      intro σ4 b4 ok4
      have ew : L2.wipe σ4 vs = L2.wipe σ vs := wipe_but b4 hv
      refine ⟨ew, ?_⟩
      refine ct (G.prot L avs) σ4 H3 F3 z3 _ hK hx ok4 ?_
      cases e2 : t z3 with
      | bad => simp only [e2, nox, Rs.bind] at h2; exact h2
      | ex x zz => simp only [e2, nox, Rs.bind] at h2; exact h2.elim
      | ok b z4 =>
        simp only [e2, nox, Rs.bind] at h2
        intro b' H5 F5 s5 ok5 eb
        cases (show b' = b from eb)
        cases b with
        | false =>
          rw [if_neg Bool.false_ne_true] at h2
          rw [if_neg Bool.false_ne_true]
          obtain ⟨q1, q2, q3, q4⟩ := ok5.unprot hP
          have ok6 := q1.wipe vs
          rw [ew] at ok6
          refine ⟨F5, wipeZ z4 vs, acc, avs, (s2.trans s3).trans s5, ok6, q2, da2.mono (s3.trans s5), q3, ?_, HitG.mono h2 (s3.trans s5)⟩
          rintro ⟨j, xs, o1, o2⟩
          have o1' : (wipeR z4.rho vs)[j]? = some (some (.l xs)) := o1
          by_cases qj : j ∈ vs
          · exact wipeR_in _ _ _ _ qj o1'
          · rw [wipeR_out _ _ _ qj] at o1'
            rw [← ew, wipe_out _ _ _ qj] at o2
            exact q4 ⟨j, xs, o1', o2⟩
        | true =>
          rw [if_pos rfl] at h2
          rw [if_pos rfl]
          refine cmp_esc ce (G.prot L avs) σ4 H5 F5 z4 _ hK hx ok5 ?_
          cases e3 : escf e z4 with
          | bad => simp only [e3, nox, Rs.bind] at h2; exact h2
          | ex x zz => simp only [e3, nox, Rs.bind] at h2; exact h2.elim
          | ok s z5 =>
            simp only [e3, nox, Rs.bind] at h2
            intro v H6 F6 s6 ok6 ev
            cases s with
            | d y =>
              simp only at h2
              have hlim : acc.length < lim := by
                by_cases q : acc.length < lim
                · exact q
                · rw [if_neg q] at h2; exact h2.elim
              rw [if_pos hlim] at h2
              obtain ⟨q1, q2, q3, q4⟩ := ok6.unprot hP
              have s26 := (s3.trans s5).trans s6
              refine ⟨avs, q2, by rw [da2.length]; exact Nat.lt_trans hlim lim_line, F6, wipeZ z5 vs, acc ++ [y], avs ++ [v], s2.trans s26, ?_, upd_same, (da2.mono s26).append (.cons ev .nil), q3, ?_, HitG.mono h2 s26⟩
              · have ok7 := (q1.updD (o' := .lst (avs ++ [v])) q2 q3 hm hP q4).wipe vs
                rw [ew] at ok7
                exact ok7
              · rintro ⟨j, xs, o1, o2⟩
                have o1' : (wipeR z5.rho vs)[j]? = some (some (.l xs)) := o1
                by_cases qj : j ∈ vs
                · exact wipeR_in _ _ _ _ qj o1'
                · rw [wipeR_out _ _ _ qj] at o1'
                  rw [← ew, wipe_out _ _ _ qj] at o2
                  exact q4 ⟨j, xs, o1', o2⟩
            | _ => exact h2.elim
  · rintro H2 ⟨F2, z2, acc, avs, s2, ok2, hl2, da2, hf2, no2, h2⟩
    rw [List.drop_length] at h2
    refine h2 (.ref L) H2 F2 (Same.refl _) (ok1.rest hn s2 ok2) ⟨L, avs, rfl, hl2, da2, hf2, hP, hm, ?_⟩
    rintro ⟨j, xs, o1, o2⟩
    have o1' : (restR z1.rho z2.rho vs)[j]? = some (some (.l xs)) := o1
    by_cases qj : j ∈ vs
    · have q := restR_in _ _ _ _ _ qj o1'
      have q2 := List.all_eq_true.mp hn j qj
      rw [q] at q2
      cases q2
    · rw [restR_out _ _ _ _ qj] at o1'
      exact no2 ⟨j, xs, o1', by rw [wipe_out _ _ _ qj]; exact o2⟩
end
section
variable {ι : Type} {M : MI} {xr : Str → Option Value} {K : PySem.W.Frag} {X : ι → Cx} {W : WX}
structure BP where
  s : Shared
  H : Hp
  C : Addr
  cl : List (Str × Addr)
  fp : List Addr
abbrev Blk {ι : Type} (X : ι → Cx) (scope : Scope) : ι × BP → Cx := fun p => (X p.1).blk p.2.s p.2.H scope (compEnvC scope p.2.cl p.2.C (X p.1).env) p.2.fp
def DTs {ι : Type} (M : MI) (xr : Str → Option Value) (K : PySem.W.Frag) (X : ι → Cx) (W : WX) (es : List Expr) (f : Sm M Bool) : Prop := ∃ t, (∀ j, PTs (X j) es t) ∧ Cmp M K xr W t RelB f
theorem dts_nil : DTs M xr K X W [] (fun z => .ok true z) := ⟨_, fun _ => pts_nil, fun G σ H F z Q _ _ ok h => h true H F (Same.refl _) ok rfl⟩
theorem dts_one {e : Expr} {f : Sm M Bool} (h : DT M xr K X W e f) : DTs M xr K X W [e] f := by
  obtain ⟨t, p, c⟩ := h
  exact ⟨_, fun j => pts_one (p j), c⟩
end
end G
/-! Promises of defs that are asked only where no repr is under way. -/
namespace G
open PySem L2 PySem.Spec PyProof.Rows
structure FnG (P : Program) (w : World) (K : PySem.W.Frag) (mg : Str → Option Value) (base : Heap) (CX : CXT) (n : Nat) (f : Addr) (fd : FuncData) (ps : List Str) (sp : Sp) : Prop where
  len : ∀ ws H Q E, sp ws H Q E → ws.length = ps.length
  run : ∀ (B : Around) (out : List Env) (s : Shared) (H : Hp) (args : Args) (us : List Value) (ws : List V) (Q : VK) (E : XK), Room n B → B.guards = some [] → Env0 P w K mg base B out s H → BindsTo s fd args (ps.zip us) → Vals ws us → sp ws H Q E → codeAny (model P w) B (.call (.ref f) args) (CR CX out P w H s Q E) s
theorem fnG {CX : CXT} {P : Program} {w : World} {K : PySem.W.Frag} {mg : Str → Option Value} {base : Heap} {n : Nat} {f : Addr} {nm qual : Str} {pa : Arguments} {bd : List Stmt} {sc : Scope} {dV kV doc pm cdv ct oc : Value} {an od : Option Addr}
    {osl : Array (Option Value)} {N ps : List Str} {sp : Sp} (lk : K.lookup f = some ⟨oc, od, .func (PySem.W.fnOf nm qual pa bd sc dV kV doc pm an cdv ct), osl⟩) (hc : PySem.W.codeIn K cdv qual = true) (Sc : FnScope N ps sc) (len : ∀ ws H Q E, sp ws H Q E → ws.length = ps.length)
    (body : ∀ (B : Around) (out : List Env) (s : Shared) (H : Hp) (ws : List V) (Q : VK) (E : XK), Room n (B.deeper (envOfC qual sc s.heap.objs.size f cdv)) → B.guards = some [] → sp ws H Q E → ∃ t, PSs (cxOf CX P w K mg base N qual sc f cdv B out s H E) bd t ∧ t { nx := fun _ H' => Q .non H', rt := Q } (start N ws) H) :
    FnG P w K mg base CX (n + 1) f (PySem.W.fnOf nm qual pa bd sc dV kV doc pm an cdv ct) ps sp := by
  constructor
  · exact len
  intro B out s H args us ws Q E hr hg e0 hb rv hsp
  have inK : K.In s.heap := e0.mod.kin.keeps fun c o e => (e0.bs c o e).1
  have nl : s.heap.NoLimit := e0.mod.nolimit.keeps fun c o e => (e0.bs c o e).1
  have kinds : ∀ y ∈ ps.zip us, sc.names.lookup y.1 = some .local ∨ (sc.names.lookup y.1 = some .cell ∧ ((cellsFrom (s.heap.objs.size + 1) sc.names []).lookup y.1).isSome = true) := by
    rintro ⟨m, u⟩ hy
    rcases Sc.par m (List.of_mem_zip hy).1 with q | q
    · exact Or.inl q
    · exact Or.inr ⟨q, PySem.W.cellsFrom_some _ _ _ (.inl q)⟩
  apply codeAny_call_function hr.depth (inK _ _ lk) rfl Sc.co Sc.gen rfl (PySem.W.codeRec_of inK hc)
  apply hb
  apply wpAny_newFunctionEnv_cells Sc.kind kinds
  intro env he s1 x
  subst he
  refine And.intro (nl.keeps x.toInCall.keep) (codeAny_func ?_)
  obtain ⟨t, pt, ht⟩ := body B out s H ws Q E (hr.deeper _) hg hsp
  have I0 : Inv (cxOf CX P w K mg base N qual sc f cdv B out s H E) [] (start N ws) H s1 := inv_start Sc hr.hd e0 (len _ _ _ _ hsp) rv x
  refine wpAny_mono (pt.run [] s1 (start N ws) H _ I0 ht) ?_ (fun e s' hs => hs)
  intro fl s' hs
  have done : ∀ {σ1 : L2.St} {H1 : Hp} {v : V} {u : Value}, Inv (cxOf CX P w K mg base N qual sc f cdv B out s H E) [] σ1 H1 s' → RelV v u → Q v H1 → CE out P w H s Q u s' := fun {σ1 H1 v u} J r q => ⟨v, H1, J.os, J.bare, J.base, J.hok, r, q⟩
  match fl, hs with
  | .ret u, ⟨v, σ1, H1, J, r, q⟩ => exact done J r q
  | .next, ⟨σ1, H1, J, q⟩ => exact done (v := V.non) (u := Value.none) J rfl q
  | .brk, ⟨_, _, _, q⟩ => exact q.elim
  | .cont, ⟨_, _, _, q⟩ => exact q.elim
section
variable {X : Cx} {CX : CXT} {n : Nat} {f : Addr} {fd : FuncData} {ps : List Str} {sp : Sp} {dvs : List V} {ds : List Value} {E : L2.St → XK} {x : Str} {p pos : Pos} {e : Expr} {es : List Expr} {t : TA}
theorem run_fnG {pins : List (Addr × Obj)} {σ : L2.St} {H : Hp} {s : Shared} {Q : VK} {us : List Value} {ws : List V} (F : FnG X.prog X.w X.K X.mg X.base CX n f fd ps sp) (hr : Room n X.A) (hg : X.A.guards = some []) (hb : Binds X.K fd ps ds) (hd : Vals dvs ds) (hx : PassesAt CX X σ (E σ)) (I : Inv X pins σ H s) (r : Vals ws us) (h : sp (ws ++ dvs) H Q (E σ)) :
    wpAny (model X.prog X.w) X.A (call (.ref f) us) (EP X pins σ Q) X.xe s := by
  have rr : Vals (ws ++ dvs) (us ++ ds) := r.append hd
  have ll : (us ++ ds).length = ps.length := rr.length.symm.trans (F.len _ _ _ _ h)
  apply wpAny_call
  apply codeAny_mono (F.run X.A X.stack s H ⟨us, []⟩ (us ++ ds) (ws ++ dvs) Q (E σ) hr hg I.env0 (hb s us I.kIn ll) rr h)
  intro rs s' hq
  match rs, hq with
  | .error e, hq => exact hx pins H s e s' I hq
  | .ok (.ret u), hq => exact I.after hq
  | .ok .next, hq => exact hq.elim
  | .ok .brk, hq => exact hq.elim
  | .ok .cont, hq => exact hq.elim
theorem pe_callG (F : FnG X.prog X.w X.K X.mg X.base CX n f fd ps sp) (hr : Room n X.A) (hgu : X.A.guards = some []) (hg : Gl X x) (hm : X.mg x = some (.ref f)) (hk : PySem.W.keepIn X.K (.ref f) = true) (hb : Binds X.K fd ps ds) (hd : Vals dvs ds) (hx : ∀ σ, PassesAt CX X σ (E σ)) (ha : PA X (e :: es) t)
    (hdb : (x == ("__debug__" : Str)) = false) (he : starEach (e :: es) X.env = (false, eval e X.env) :: starEach es X.env) (hpl : (backTo pos (starEach es X.env)).any (·.1) = false) : PE X (.Call (.Name x p) (e :: es) [] pos) (fun σ H Q => t σ H fun ws H1 => sp (ws ++ dvs) H1 Q (E σ)) := by
  constructor
  intro pins s σ H Q I h
  apply wpAny_Call_Name_kw
  apply ld_glob I hg hm _ hdb
  apply PySem.W.callWith_K (h₀ := X.base) I.ok.mod.kin hk _ he hpl
  exact thn (ha.run pos pins s σ H _ I h) fun us s1 ⟨ws, H1, I1, r, q⟩ => ⟨I1.kIn, run_fnG F hr hgu hb hd (hx σ) I1 r q⟩
theorem pe_call0G (F : FnG X.prog X.w X.K X.mg X.base CX n f fd ps sp) (hr : Room n X.A) (hgu : X.A.guards = some []) (hg : Gl X x) (hm : X.mg x = some (.ref f)) (hk : PySem.W.keepIn X.K (.ref f) = true) (hb : Binds X.K fd ps ds) (hd : Vals dvs ds) (hx : ∀ σ, PassesAt CX X σ (E σ)) (hdb : (x == ("__debug__" : Str)) = false) : PE X (.Call (.Name x p) [] [] pos) (fun σ H Q => sp dvs H Q (E σ)) := by
  constructor
  intro pins s σ H Q I h
  apply wpAny_Call_Name_kw
  apply ld_glob I hg hm _ hdb
  exact PySem.W.callWith_K0 I.kIn hk (run_fnG (us := []) (ws := []) (E := E) F hr hgu hb hd (hx σ) I .nil h)
end
end G
namespace G
open PySem L2 PySem.Spec PyProof.Rows
/-- the law's own call, where its promise is asked at the caller alone -/
theorem lawG {P : Program} {w : World} {K : PySem.W.Frag} {mg mb : Str → Option Value} {CX : CXT} {n : Nat} {fa a : Addr} {fd : FuncData} {x : Str} {sp : Sp} {s1 : Shared} {us : List Value} {ns : List Int} (inK : K.In s1.heap) (gs : s1.heap.Ns mainGlobals mg) (bs : s1.heap.Ns builtinsNs mb)
    (boot : ∀ x : Str, x ≠ "__name__" → mb x = bootBuiltins x) (nl : s1.heap.NoLimit) (ge : s1.gens = #[]) (oa : s1.heap.get? a = some { cls := .type "list", data := .seq us.toArray }) (hi : IntsAre us ns) (hl : ns.length ≤ sizeLine) (hr : Room n callerA)
    (F : ∀ bh : Heap, K.In bh → bh.Ns mainGlobals mg → FnG P w K mg bh CX n fa fd [x] sp) (hbd : ∀ (s : Shared) (u : Value), BindsTo s fd ⟨[u], []⟩ [(x, u)])
    (hsp : ∀ H : Hp, Only H → SqL K H a (ns.map V.int) → sp [.ref a] H (fun v _ => v = .bl true) fun _ _ _ => False) (noX : ∀ H e s', CX [] H s1 (fun _ _ _ => False) e s' → False) :
    codeAny (model P w) callerA (.call (.ref fa) ⟨[.ref a], []⟩) (fun r s' => r = .ok (.ret (.bool true)) ∧ OldK s1.heap s'.heap ∧ s'.os = s1.os ∧ AllBare s'.gens) s1 := by
  have vals := vals_ints hi
  have lens := hi.length
  have main : ∀ H : Hp, Only H → SqL K H a (ns.map V.int) → HOk P w H s1.heap → (∀ c, H c ≠ none → c = a) → (H a ≠ none → K.lookup a = none) → codeAny (model P w) callerA (.call (.ref fa) ⟨[.ref a], []⟩) (fun r s' => r = .ok (.ret (.bool true)) ∧ OldK s1.heap s'.heap ∧ s'.os = s1.os ∧ AllBare s'.gens) s1 := by
    intro H only sq hok at1 notK
    have keep : ∀ {c : Addr} {o : Obj}, s1.heap.get? c = some o → H c = none → (hidT s1.heap H).get? c = some o := fun e z => hidT_get e z
    have noDict : ∀ {c : Addr} {o : Obj} {es : Array DictEntry} {ep : Nat}, s1.heap.get? c = some o → o.data = .dict es ep → H c = none := by
      intro c o es ep e d
      rcases hq : H c with _ | u
      · rfl
      · have hc : c = a := at1 c (by rw [hq]; exact Option.some_ne_none u)
        rw [hc, oa] at e
        cases e
        exact Data.noConfusion (show Data.seq us.toArray _ = Data.dict es ep from d)
    have nsOf : ∀ {c : Addr} {m : Str → Option Value}, s1.heap.Ns c m → (hidT s1.heap H).Ns c m := fun ⟨o, es, ep, e, d, r⟩ => ⟨o, es, ep, keep e (noDict e d), d, r⟩
    have inB : K.In (hidT s1.heap H) := by
      intro c o e
      refine keep (inK c o e) ?_
      rcases hq : H c with _ | u
      · rfl
      · have hc : c = a := at1 c (by rw [hq]; exact Option.some_ne_none u)
        rw [hc, notK (by rw [← hc, hq]; exact Option.some_ne_none u)] at e
        cases e
    have md : Mod K mg (hidT s1.heap H) := ⟨inB, nsOf gs, ⟨mb, nsOf bs, boot⟩, by obtain ⟨mc, q1, q2⟩ := nl; exact ⟨mc, nsOf q1, q2⟩⟩
    have env : Env0 P w K mg (hidT s1.heap H) callerA [] s1 H := ⟨rfl, md, fun c o e => of_hidT e, Nat.le_of_eq (hidT_size _ _), trivial, fun c hc => (List.not_mem_nil (show c ∈ ([] : List Addr) from hc)).elim, hok, .of_eq ge⟩
    apply codeAny_mono ((F _ inB (nsOf gs)).run callerA [] s1 H ⟨[.ref a], []⟩ [.ref a] [.ref a] _ _ hr rfl env (hbd s1 (.ref a)) (.cons rfl .nil) (hsp H only sq))
    intro r s' h
    match r, h with
    | .error e, h => exact (noX H e s' h).elim
    | .ok .next, h => exact h.elim
    | .ok .brk, h => exact h.elim
    | .ok .cont, h => exact h.elim
    | .ok (.ret u), h =>
      obtain ⟨v, H', os, bare, un, hok', rv, q⟩ := h
      cases (show v = .bl true from q)
      cases (show u = Value.bool true from rv)
      refine ⟨rfl, OldK.of_keep ?_, os, bare⟩
      intro c o e
      rcases hq : H c with _ | u
      · exact un.keep c o e hq (fun z => (List.not_mem_nil (show c ∈ ([] : List Addr) from z)).elim) (List.not_mem_nil)
      · rcases only c with z | ⟨ob, xs, z⟩
        · exact absurd (hq.symm.trans z) (Option.some_ne_none u)
        · obtain ⟨q1, _⟩ := hok c _ z
          obtain ⟨q2, _⟩ := hok' c _ (un.frzs c ob _ z)
          have : o = ob := Option.some.inj (e.symm.trans q1)
          rw [this]
          exact q2
  rcases hk : K.lookup a with _ | o
  · refine main (fun c => if c = a then some (.frz { cls := .type "list", data := .seq us.toArray } (.lst (ns.map V.int))) else none) ?_ (.inl (.inr ⟨{ cls := .type "list", data := .seq us.toArray }, if_pos rfl⟩)) ?_ ?_ (fun _ => hk)
    · intro c
      by_cases hc : c = a
      · exact Or.inr ⟨_, _, if_pos hc⟩
      · exact Or.inl (if_neg hc)
    · intro c u z
      by_cases hc : c = a
      · cases (if_pos hc).symm.trans z
        rw [hc]
        exact ⟨oa, by rw [List.length_map]; exact hl, us, _, vals, oa⟩
      · cases (if_neg hc).symm.trans z
    · intro c z
      by_cases hc : c = a
      · exact hc
      · exact absurd (if_neg hc) z
  · have e := inK a o hk
    rw [oa] at e
    cases e
    exact main (fun _ => none) (fun _ => .inl rfl) (.inr ⟨_, us.toArray, _, hk, rfl, rfl, rfl, by rw [List.size_toArray, lens]; exact hl, by simpa using vals⟩) (fun c u z => by cases (show (none : Option HO) = some u from z)) (fun c z => absurd rfl z) (fun z => absurd rfl z)
theorem walkG {l : PySem.W.OpenLaw} {m n : Nat} {q : Program} {loose : List Str} {XP : (Str → Option Value) → Heap → Prop} {YP : World → Heap → Prop} {d : DefRec} {K : Params → PySem.W.Frag} {CX : World → CXT} {sp : World → Sp} {x : Str} (hm : l.most = some m) (hm2 : m ≤ sizeLine) (hdf : d.params.defaults = []) (hr : Room n callerA) (hY : ∀ (w : World) (h : Heap), YP w h → (K w.params).In h)
    (F : ∀ (w : World) (mg : Str → Option Value) (fa : Addr) (h : Heap), (K w.params).In h → h.Ns mainGlobals mg → mg d.name = some (.ref fa) → ∃ fd : FuncData, (∀ (s : Shared) (u : Value), BindsTo s fd ⟨[u], []⟩ [(x, u)]) ∧ ∀ bh : Heap, (K w.params).In bh → bh.Ns mainGlobals mg → FnG l.prog w (K w.params) mg bh (CX w) n fa fd [x] (sp w))
    (hsp : ∀ (w : World) (H : Hp) (a : Addr) (ns : List Int), ns.length ≤ m → (∀ z ∈ ns, Builtin.Int.intBits z ≤ 1048576) → Only H → SqL (K w.params) H a (ns.map V.int) → sp w [.ref a] H (fun v _ => v = .bl true) fun _ _ _ => False)
    (noX : ∀ (w : World) (H : Hp) (s : Shared) (e : Value) (s' : Shared), CX w [] H s (fun _ _ _ => False) e s' → False) : PySem.W.WalkO q loose XP YP l.row.toRowW d [] (fun f vs => PySem.call f vs) := by
  apply Att.attach_callB hm hdf
  intro w s0 s1 mg mb fa o pm cd doc a us ns gr Y ho hd hcd hmg oa hi hlen hbits hg
  have inK := hY w _ Y
  obtain ⟨fd, hb, hF⟩ := F w mg fa _ inK gr.T.g hmg
  exact lawG inK gr.T.g gr.T.b gr.T.builtins gr.T.nolimit hg oa hi (Nat.le_trans hlen hm2) hr hF hb (fun H hO hS => hsp w H a ns hlen hbits hO hS) (fun H e s' => noX w H s1 e s')
end G
namespace G
open PySem L2
section
variable {ι : Type} {M : MI} {xr : Str → Option Value} {K : PySem.W.Frag} {X : ι → Cx} {W : WX}
/-! ### comprehensions, the rules -/
theorem de_lc {elt tg iter : Expr} {ifs : List Expr} {scope : Scope} {own : List (Str × Nat)} {pos : Pos} {ts : List Nat} {its : Sm M (List D)} {k : D → Z M.T → Option (Z M.T)} {t : Sm M Bool} {e : Sm M S} (hc : ∀ j, (X j).calm = true) (hN : ∀ j, (X j).N.Nodup) (ok : ∀ j, BlkOk (X j).N (X j).env.scope scope own)
    (hi : DI M xr K X W tg iter its) (hg : DG M K (Blk X scope) ts tg k) (ht : DTs M xr K (Blk X scope) W0 ifs t) (he : DE M xr K (Blk X scope) W0 elt e) (hv : ∀ n ∈ ts, n ∈ own.map (·.2) := by decide) (hs : ∀ j x, foldedSetIterable iter (X j).env x = pure x := by intro _ _; rfl) :
    DE M xr K X W (.ListComp elt [⟨tg, iter, ifs, 0⟩] scope pos) (eLc its k t e (own.map (·.2))) := by
  obtain ⟨wi, pi, ci⟩ := hi
  obtain ⟨g, pg, cg⟩ := hg
  obtain ⟨tt, pt, ct⟩ := ht
  obtain ⟨te, pe, ce⟩ := he
  exact ⟨_, fun j => pe_lc (hc j) (hN j) (pi j) (ok j) (fun s H C cl fp => pg (j, ⟨s, H, C, cl, fp⟩)) (fun s H C cl fp => pt (j, ⟨s, H, C, cl, fp⟩)) (fun s H C cl fp => pe (j, ⟨s, H, C, cl, fp⟩)) (hs j), cmp_lc hv ci cg ct ce⟩
theorem ds_setLc {i : Nat} {y : Str} {py : Pos} {elt tg iter : Expr} {ifs : List Expr} {scope : Scope} {own : List (Str × Nat)} {pos spos : Pos} {ts : List Nat} {its : Sm M (List D)} {k : D → Z M.T → Option (Z M.T)} {t : Sm M Bool} {e : Sm M S} (hc : ∀ j, (X j).calm = true) (hN : ∀ j, (X j).N.Nodup) (hy : ∀ j, (X j).N[i]? = some y) (hyl : ∀ j, (X j).env.scope.names.lookup y = some .local)
    (hsw : ∀ j, swapsWith (.ListComp elt [⟨tg, iter, ifs, 0⟩] scope pos) (some (.Name y py)) spos.line (X j).env = pure true) (ok : ∀ j, BlkOk (X j).N (X j).env.scope scope own)
    (hi : DI M xr K X W tg iter its) (hg : DG M K (Blk X scope) ts tg k) (ht : DTs M xr K (Blk X scope) W0 ifs t) (he : DE M xr K (Blk X scope) W0 elt e) (hv : ∀ n ∈ ts, n ∈ own.map (·.2) := by decide) (hs : ∀ j x, foldedSetIterable iter (X j).env x = pure x := by intro _ _; rfl) :
    DS M xr K X W (.Assign [.Name y py] (.ListComp elt [⟨tg, iter, ifs, 0⟩] scope pos) spos) (sSet i (eLc its k t e (own.map (·.2)))) := by
  obtain ⟨wi, pi, ci⟩ := hi
  obtain ⟨g, pg, cg⟩ := hg
  obtain ⟨tt, pt, ct⟩ := ht
  obtain ⟨te, pe, ce⟩ := he
  exact ⟨_, fun j => ps_setLc (hc j) (hN j) (hy j) (hyl j) (hsw j) (pi j) (ok j) (fun s H C cl fp => pg (j, ⟨s, H, C, cl, fp⟩)) (fun s H C cl fp => pt (j, ⟨s, H, C, cl, fp⟩)) (fun s H C cl fp => pe (j, ⟨s, H, C, cl, fp⟩)) (hs j), sr_set (cmp_lc hv ci cg ct ce)⟩

/-! ### a slot's own list, changed -/
theorem Ok.setL {G : Gx} {σ : St} {H F : Hp} {z : Z M.T} (ok : Ok M G σ H F z) {i : Nat} {xs ys : List D} {a : Addr} {ws : List V} (h : z.rho[i]? = some (some (.l xs))) (ha : σ[i]? = some (some (.ref a))) (hd : DaAll G.K F ws ys) : Ok M G σ (upd H a (.lst ws)) F { z with rho := z.rho.set i (some (.l ys)) } := by
  obtain ⟨v, e, b, vs, rfl, h1, h2, h3, h4, h5⟩ := ok.slot i _ h
  rw [ha] at e
  cases e
  have hl : i < z.rho.length := (List.getElem?_eq_some_iff.mp h).1
  have old : ∀ j s, (z.rho.set i (some (S.l ys)))[j]? = some (some s) → (j = i ∧ s = .l ys) ∨ (j ≠ i ∧ z.rho[j]? = some (some s)) := fun j s q => by
    by_cases hj : j = i
    · subst hj
      rw [List.getElem?_set_self hl] at q
      cases q
      exact .inl ⟨rfl, rfl⟩
    · rw [List.getElem?_set_ne (Ne.symm hj)] at q
      exact .inr ⟨hj, q⟩
  refine ⟨same_updR ok.sub h3, by simp [ok.len], fun j s q => ?_, fun j k as bs v e1 e2 e3 e4 => ?_, M.mono (Same.refl F) (tgk_new h3) (fun c hc => upd_ne (fun e => h5 (e ▸ hc))) ok.mach, ok.msF, ok.msP, fun c hc => ?_, fun c o q => ?_, fun c ps e => ⟨by rw [upd_ne (ne_of_none e h3)]; exact (ok.tg c ps e).1, (ok.tg c ps e).2⟩⟩
  · rcases old j s q with ⟨rfl, rfl⟩ | ⟨hj, q⟩
    · exact ⟨.ref a, ha, a, ws, rfl, upd_same, hd, h3, h4, h5⟩
    · obtain ⟨v, e1, e2⟩ := ok.slot j s q
      refine ⟨v, e1, ?_⟩
      cases s with
      | d x => exact e2
      | l as =>
        obtain ⟨c, vs', rfl, q1, q2, q3, q4, q5⟩ := e2
        have n : c ≠ a := fun e => hj (ok.dist j i as xs _ q h e1 (by rw [e]; exact ha))
        exact ⟨c, vs', rfl, (upd_ne n).trans q1, q2, q3, q4, q5⟩
      | v _ => exact e2
      | m j => exact e2
  · have r : ∀ n cs, (z.rho.set i (some (S.l ys)))[n]? = some (some (S.l cs)) → ∃ ds, z.rho[n]? = some (some (S.l ds)) := fun n cs q => by
      rcases old n _ q with ⟨rfl, _⟩ | ⟨_, q⟩
      · exact ⟨xs, h⟩
      · exact ⟨_, q⟩
    obtain ⟨as', e1'⟩ := r j as e1
    obtain ⟨bs', e2'⟩ := r k bs e2
    exact ok.dist j k as' bs' v e1' e2' e3 e4
  · show upd H a (.lst ws) c ≠ none
    have n : c ≠ a := fun e => h5 (e ▸ hc)
    rw [upd_ne n]
    exact ok.msH c hc
  · have n : c ≠ a := fun e => by rw [e, h4] at q; cases q
    obtain ⟨q1, q2⟩ := ok.fr c o q
    exact ⟨(upd_ne n).trans q1, q2⟩
def ownAt {T : Type} (z : Z T) (i : Nat) : Option (List D) := match z.rho[i]? with
  | some (some (.l xs)) => some xs
  | _ => none
theorem ownAt_some {T : Type} {z : Z T} {i : Nat} {xs : List D} (h : ownAt z i = some xs) : z.rho[i]? = some (some (.l xs)) := by
  unfold ownAt at h
  split at h
  · rename_i ys e
    cases h
    exact e
  · cases h
def eApp (i : Nat) (g : Sm M S) : Sm M S := fun z => match ownAt z i with
  | none => .bad
  | some _ => (escf g z).bind fun s z1 => match ownAt z1 i, s with
    | some xs, .d y => if xs.length < lim then .ok (.d .non) { z1 with rho := z1.rho.set i (some (.l (xs ++ [y]))) } else .bad
    | _, _ => .bad
def eExt (i : Nat) (g : Sm M S) : Sm M S := fun z => match ownAt z i with
  | none => .bad
  | some _ => (opd g z).bind fun s z1 => match ownAt z1 i, rd z1 s with
    | some xs, some (.lst ys) => if xs.length + ys.length ≤ lim then .ok (.d .non) { z1 with rho := z1.rho.set i (some (.l (xs ++ ys))) } else .bad
    | _, _ => .bad
def ePop (i : Nat) : Sm M S := fun z => match ownAt z i with
  | none => .bad
  | some xs => match xs[xs.length - 1]? with
    | some y => .ok (.d y) { z with rho := z.rho.set i (some (.l xs.dropLast)) }
    | none => .bad
theorem tyV_own {K : PySem.W.Frag} {H : Hp} {a : Addr} {xs : List V} (h : H a = some (.lst xs)) : tyV K "list" (.ref a) H := .inl ⟨rfl, _, SqL.of h⟩
theorem Ok.at {G : Gx} {σ : St} {H F : Hp} {z : Z M.T} (ok : Ok M G σ H F z) {i : Nat} {xs : List D} (h : ownAt z i = some xs) : ∃ a vs, σ[i]? = some (some (.ref a)) ∧ H a = some (.lst vs) ∧ DaAll G.K F vs xs := by
  obtain ⟨v, e, a, vs, rfl, h1, h2, _⟩ := ok.slot i _ (ownAt_some h)
  exact ⟨a, vs, e, h1, h2⟩
theorem de_append {i : Nat} {x : Str} {pn apos cpos : Pos} {e : Expr} {g : Sm M S} (hK : ∀ j, (X j).K = K) (hN : ∀ j, (X j).N[i]? = some x) (hv : ∀ j, Vis (X j).env.scope x) (hd : (x == ("__debug__" : Str)) = false) (hcd : (x == ("__classdict__" : Str)) = false) (h : DE M xr K X W e g)
    (hbase : ∀ j, attributeBase (.Name x pn) "append" (X j).env (eval (.Name x pn) (X j).env) = eval (.Name x pn) (X j).env := by intro _; rfl)
    (hfew : ∀ j, ((backTo cpos (starEach [e] (X j).env)).all (fun x => !x.1) && (backToKw cpos (keywordEach [] (X j).env)).all (fun x => x.1.isSome) && decide (([e] : List Expr).length + ([] : List Keyword).length + (if ([] : List Keyword).isEmpty then 0 else 1) < 30)) = true := by intro _; rfl)
    (hline : (apos.endLine == cpos.line) = true := by rfl) (hs : ∀ j, starEach [e] (X j).env = (false, eval e (X j).env) :: starEach [] (X j).env := by intro _; rfl) (hplain : ∀ j, (backTo cpos (starEach [] (X j).env)).any (·.1) = false := by intro _; rfl) :
    DE M xr K X W (.Call (.Attribute (.Name x pn) "append" apos) [e] [] cpos) (eApp i g) := by
  obtain ⟨t, p, c⟩ := h
  refine ⟨tBM K "list" rAppend (tVar i) (tCons t tNil), fun j => ?_, fun G σ H F z Q hGK hx ok hh => ?_⟩
  · rw [← hK j]
    exact pe_bm PySem.F.plainAttrs_list PySem.F.slot_list_append PySem.F.type_list_append mt_append (pe_var (hN j) (hv j) hd hcd) (pa_cons (p j) pa_nil (hs j)) (hbase j) (hfew j) hline (hs j) (hplain j)
  · unfold eApp at hh
    cases e0 : ownAt z i with
    | none => simp only [e0] at hh; exact hh.elim
    | some ys =>
      simp only [e0] at hh
      obtain ⟨a, vs, hσ, ha, _⟩ := ok.at e0
      refine ⟨.ref a, hσ, tyV_own ha, ?_⟩
      refine cmp_esc c G σ H F z _ hGK hx ok (hit_bind hh fun s z1 v H1 F1 _ sm ok1 ev h1 => ?_)
      cases e1 : ownAt z1 i with
      | none => simp only [e1] at h1; exact h1.elim
      | some xs =>
        simp only [e1] at h1
        cases s with
        | d y =>
          simp only at h1
          by_cases hl : xs.length < lim
          · rw [if_pos hl] at h1
            obtain ⟨b, ws, hσ1, hb, hdw⟩ := ok1.at e1
            rw [hσ] at hσ1
            cases hσ1
            refine ⟨a, ws, v, rfl, rfl, hb, by rw [hdw.length]; exact Nat.lt_trans hl lim_line, ?_⟩
            exact h1 .non _ F1 (Same.refl _) (ok1.setL (ownAt_some e1) hσ (hdw.append (.cons ev .nil))) Da.non
          · rw [if_neg hl] at h1; exact h1.elim
        | _ => exact h1.elim
theorem Rv.lst {K : PySem.W.Frag} {F H : Hp} (s : SameX F H) {v : V} {xs : List D} (h : Rv K F H v (.lst xs)) : ∃ a vs, v = .ref a ∧ H a = some (.lst vs) ∧ DaAll K F vs xs := by
  rcases h with h | ⟨a, vs, ys, rfl, e, h1, h2⟩
  · cases h with
    | lst q r => exact ⟨_, _, rfl, s.lst q, r⟩
  · cases e
    exact ⟨a, vs, rfl, h1, h2⟩
theorem de_extend {i : Nat} {x : Str} {pn apos cpos : Pos} {e : Expr} {g : Sm M S} (hK : ∀ j, (X j).K = K) (hN : ∀ j, (X j).N[i]? = some x) (hv : ∀ j, Vis (X j).env.scope x) (hd : (x == ("__debug__" : Str)) = false) (hcd : (x == ("__classdict__" : Str)) = false) (h : DE M xr K X W e g)
    (hbase : ∀ j, attributeBase (.Name x pn) "extend" (X j).env (eval (.Name x pn) (X j).env) = eval (.Name x pn) (X j).env := by intro _; rfl)
    (hfew : ∀ j, ((backTo cpos (starEach [e] (X j).env)).all (fun x => !x.1) && (backToKw cpos (keywordEach [] (X j).env)).all (fun x => x.1.isSome) && decide (([e] : List Expr).length + ([] : List Keyword).length + (if ([] : List Keyword).isEmpty then 0 else 1) < 30)) = true := by intro _; rfl)
    (hline : (apos.endLine == cpos.line) = true := by rfl) (hs : ∀ j, starEach [e] (X j).env = (false, eval e (X j).env) :: starEach [] (X j).env := by intro _; rfl) (hplain : ∀ j, (backTo cpos (starEach [] (X j).env)).any (·.1) = false := by intro _; rfl) :
    DE M xr K X W (.Call (.Attribute (.Name x pn) "extend" apos) [e] [] cpos) (eExt i g) := by
  obtain ⟨t, p, c⟩ := h
  refine ⟨tBM K "list" rExtend (tVar i) (tCons t tNil), fun j => ?_, fun G σ H F z Q hGK hx ok hh => ?_⟩
  · rw [← hK j]
    exact pe_bm PySem.F.plainAttrs_list PySem.F.slot_list_extend PySem.F.type_list_extend mt_extend (pe_var (hN j) (hv j) hd hcd) (pa_cons (p j) pa_nil (hs j)) (hbase j) (hfew j) hline (hs j) (hplain j)
  · unfold eExt at hh
    cases e0 : ownAt z i with
    | none => simp only [e0] at hh; exact hh.elim
    | some ys =>
      simp only [e0] at hh
      obtain ⟨a, vs, hσ, ha, _⟩ := ok.at e0
      refine ⟨.ref a, hσ, tyV_own ha, ?_⟩
      refine cmp_opd c G σ H F z _ hGK hx ok (hit_bind hh fun s z1 v H1 F1 _ sm ok1 ev h1 => ?_)
      cases e1 : ownAt z1 i with
      | none => simp only [e1] at h1; exact h1.elim
      | some xs =>
        cases e2 : rd z1 s with
        | none => simp only [e1, e2] at h1; exact h1.elim
        | some y =>
          cases y with
          | lst zs =>
            simp only [e1, e2] at h1
            by_cases hl : xs.length + zs.length ≤ lim
            · rw [if_pos hl] at h1
              obtain ⟨b, ws, hσ1, hb, hdw⟩ := ok1.at e1
              rw [hσ] at hσ1
              cases hσ1
              obtain ⟨c2, us, rfl, hc2, hdu⟩ := (EO.rv ok1 ev e2).lst ok1.sub
              refine ⟨a, c2, ws, us, rfl, rfl, hb, hc2, by rw [hdw.length, hdu.length]; exact Nat.le_trans hl (Nat.le_of_lt lim_line), ?_⟩
              exact h1 .non _ F1 (Same.refl _) (ok1.setL (ownAt_some e1) hσ (hdw.append hdu)) Da.non
            · rw [if_neg hl] at h1; exact h1.elim
          | _ => simp only [e1, e2] at h1; exact h1.elim
theorem de_pop {i : Nat} {x : Str} {pn apos cpos : Pos} (hK : ∀ j, (X j).K = K) (hN : ∀ j, (X j).N[i]? = some x) (hv : ∀ j, Vis (X j).env.scope x) (hd : (x == ("__debug__" : Str)) = false) (hcd : (x == ("__classdict__" : Str)) = false)
    (hbase : ∀ j, attributeBase (.Name x pn) "pop" (X j).env (eval (.Name x pn) (X j).env) = eval (.Name x pn) (X j).env := by intro _; rfl) (hline : (apos.endLine == cpos.line) = true := by rfl) :
    DE M xr K X W (.Call (.Attribute (.Name x pn) "pop" apos) [] [] cpos) (ePop i) := by
  refine ⟨tBM0 K "list" rPop (tVar i), fun j => ?_, fun G σ H F z Q hGK hx ok hh => ?_⟩
  · rw [← hK j]
    exact pe_bm0 PySem.F.plainAttrs_list PySem.F.slot_list_pop PySem.F.type_list_pop mt_pop (pe_var (hN j) (hv j) hd hcd) (hbase j) hline
  · unfold ePop at hh
    cases e0 : ownAt z i with
    | none => simp only [e0] at hh; exact hh.elim
    | some xs =>
      simp only [e0] at hh
      obtain ⟨a, vs, hσ, ha, hda⟩ := ok.at e0
      cases e1 : xs[xs.length - 1]? with
      | none => simp only [e1] at hh; exact hh.elim
      | some y =>
        simp only [e1] at hh
        obtain ⟨v, hv1, hv2⟩ := hda.get e1
        refine ⟨.ref a, hσ, tyV_own ha, a, vs, v, rfl, rfl, ha, by rw [hda.length]; exact hv1, ?_⟩
        exact hh v _ F (Same.refl _) (ok.setL (ownAt_some e0) hσ hda.dropLast) hv2

/-! ### calls of the text's own defs -/
def AV (K : PySem.W.Frag) (F : Hp) (ms : List Addr) (v : V) : S → Prop
  | .d x => Da K F v x
  | .m j => ∃ a, ms[j]? = some a ∧ v = .ref a
  | _ => False
structure RetC (M : MI) (K : PySem.W.Frag) (ms : List Addr) (H F H' F' : Hp) (t : M.T) : Prop where
  sub : SameX F' H'
  mach : M.ok K F' H' ms t
  msx : ∀ a ∈ ms, F' a = none ∧ H' a ≠ none
  fr : ∀ b o, H b = some o → b ∉ ms → (∀ ps, F b ≠ some (.tbl ps)) → H' b = some o ∧ F' b = F b
  tg : ∀ a ps, F' a = some (.tbl ps) → H' a ≠ none ∧ (F a = some (.tbl ps) ∨ H a = none)
def RetV (K : PySem.W.Frag) (ms : List Addr) (H H' F' : Hp) (v : V) : S → Prop
  | .d x => Da K F' v x
  | .l xs => ∃ a vs, v = .ref a ∧ H' a = some (.lst vs) ∧ DaAll K F' vs xs ∧ F' a = none ∧ H a = none ∧ a ∉ ms
  | .m j => ∃ a, ms[j]? = some a ∧ v = .ref a
  | .v _ => False
def spM (M : MI) (K : PySem.W.Frag) (xr : Str → Option Value) (n : Nat) (mir : List S → M.T → Rs S M.T) : Sp := fun vs H Q E => vs.length = n ∧ ∃ (ms : List Addr) (F : Hp) (args : List S) (t : M.T), SameX F H ∧ M.ok K F H ms t ∧ (∀ a ∈ ms, F a = none ∧ H a ≠ none) ∧ (∀ a ps, F a = some (.tbl ps) → H a ≠ none) ∧ Paired (AV K F ms) vs args ∧
  match mir args t with
  | .ok s t' => ∀ v H' F', Same F F' → RetC M K ms H F H' F' t' → RetV K ms H H' F' v s → Q v H'
  | .ex x t' => ∀ cls d H' F', Same F F' → RetC M K ms H F H' F' t' → XOk ⟨K, xr, ms, H, F⟩ F' H' x cls d → E cls d H'
  | .bad => False
def okArg : S → Bool
  | .d _ => true
  | .m _ => true
  | _ => false
def eCall (c : List S → M.T → Rs S M.T) (g : Sm M (List S)) : Sm M S := fun z => (g z).bind fun ss z1 => if ss.all okArg = true then (match c ss z1.m with
  | .ok s t => .ok s { z1 with m := t }
  | .ex x t => .ex x { z1 with m := t }
  | .bad => .bad) else .bad
theorem paired_av {G : Gx} {σ : St} {F : Hp} : ∀ {vs : List V} {ss : List S}, Paired (fun v s => EO G σ F v s) vs ss → ss.all okArg = true → Paired (AV G.K F G.ms) vs ss
  | _, _, .nil, _ => .nil
  | _, s :: ss, .cons a b, h => by
    rw [List.all_cons, Bool.and_eq_true] at h
    refine .cons ?_ (paired_av b h.2)
    cases s with
    | d x => exact a
    | m j => exact a
    | l _ => cases h.1
    | v _ => cases h.1
theorem Ok.call {G : Gx} {σ : St} {H H' F F' : Hp} {z : Z M.T} {t : M.T} (ok : Ok M G σ H F z) (sm : Same F F') (r : RetC M G.K G.ms H F H' F' t) : Ok M G σ H' F' { z with m := t } where
  sub := r.sub
  len := ok.len
  slot := fun i s e => by
    obtain ⟨v, h1, h2⟩ := ok.slot i s e
    refine ⟨v, h1, ?_⟩
    cases s with
    | d x => exact Da.mono sm h2
    | l xs =>
      obtain ⟨a, vs, rfl, h3, h4, h5, h6, h7⟩ := h2
      obtain ⟨q1, q2⟩ := r.fr a _ h3 h7 (fun ps e => by rw [h5] at e; cases e)
      exact ⟨a, vs, rfl, q1, h4.mono sm, q2.trans h5, h6, h7⟩
    | v _ => exact h2
    | m j => exact h2
  dist := ok.dist
  mach := r.mach
  msF := fun a ha => (r.msx a ha).1
  msP := ok.msP
  msH := fun a ha => (r.msx a ha).2
  fr := fun b o q => by
    obtain ⟨h1, h2⟩ := ok.fr b o q
    have n : b ∉ G.ms := fun hb => by rw [ok.msP b hb] at q; cases q
    obtain ⟨h3, h4⟩ := r.fr b o h1 n (fun ps e => by rw [(ok.tg b ps e).2] at q; cases q)
    exact ⟨h3, h4.trans h2⟩
  tg := fun a ps e => by
    obtain ⟨h1, h2⟩ := r.tg a ps e
    refine ⟨h1, ?_⟩
    rcases h2 with h2 | h2
    · exact (ok.tg a ps h2).2
    · exact ok.freshP h2
theorem cmp_call {n : Nat} {t : TA} {g : Sm M (List S)} {c : List S → M.T → Rs S M.T} (cg : Cmp M K xr W t RelA g) (hn : ∀ z ss z1, g z = .ok ss z1 → ss.length = n) : Cmp M K xr W (tCallS (spM M K xr n c) (WE W) t) RelE (eCall c g) := by
  intro G σ H F z Q hK hx ok hh
  refine cg G σ H F z _ hK hx ok (hit_bind hh fun ss z1 vs H1 F1 eg sm ok1 ea h1 => ?_)
  by_cases hd : ss.all okArg = true
  · rw [if_pos hd] at h1
    have hv := paired_av ea hd
    refine ⟨hv.length.trans (hn z ss z1 eg), G.ms, F1, ss, z1.m, ok1.sub, by rw [← hK]; exact ok1.mach, fun a ha => ⟨ok1.msF a ha, ok1.msH a ha⟩, fun a ps e => (ok1.tg a ps e).1, by rw [← hK]; exact hv, ?_⟩
    subst hK hx
    cases e : c ss z1.m with
    | bad => rw [e] at h1; exact h1
    | ex x t' =>
      rw [e] at h1
      exact fun cls d H' F' s' r xo => h1 cls d H' F' s' (ok1.call s' r) xo
    | ok s t' =>
      rw [e] at h1
      intro v H' F' s' r rv
      refine h1 v H' F' s' (ok1.call s' r) ?_
      cases s with
      | d x => exact rv
      | m j => exact rv
      | v _ => exact rv.elim
      | l xs =>
        obtain ⟨a, us, rfl, q1, q2, q3, q4, q5⟩ := rv
        have hP : G.P a = none := ok1.freshP q4
        refine ⟨a, us, rfl, q1, q2, q3, hP, q5, fun ⟨i, ys, o1, o2⟩ => ?_⟩
        exact ok1.freshO q4 ⟨i, ys, o1, o2⟩
  · rw [if_neg hd] at h1; exact h1.elim
theorem len_nil {z : Z M.T} {ss : List S} {z1 : Z M.T} (h : (aNil : Sm M (List S)) z = .ok ss z1) : ss.length = 0 := by
  cases h
  rfl
theorem len_cons {f : Sm M S} {g : Sm M (List S)} {n : Nat} (hg : ∀ z ss z1, g z = .ok ss z1 → ss.length = n) : ∀ z ss z1, aCons f g z = .ok ss z1 → ss.length = n + 1 := fun z ss z1 h => by
  unfold aCons at h
  cases e : f z with
  | bad => rw [e] at h; cases h
  | ex x zz => rw [e] at h; cases h
  | ok s z2 =>
    rw [e] at h
    simp only [Rs.bind_ok] at h
    cases e2 : g z2 with
    | bad => rw [e2] at h; cases h
    | ex x zz => rw [e2] at h; cases h
    | ok ss' z3 =>
      rw [e2] at h
      cases h
      rw [List.length_cons, hg z2 ss' _ e2]
theorem pe_callF {X : Cx} {CX : CXT} {n : Nat} {f : Addr} {fd : FuncData} {ps : List Str} {sp : Sp} {E : St → XK} {x : Str} {p pos : Pos} {e : Expr} {es : List Expr} {t : TA} (F : FnG X.prog X.w X.K X.mg X.base CX n f fd ps sp) (hr : Room n X.A) (hgu : X.A.guards = some []) (hg : Gl X x) (hm : X.mg x = some (.ref f)) (hk : PySem.W.keepIn X.K (.ref f) = true) (hb : Binds X.K fd ps []) (hx : ∀ σ, PassesAt CX X σ (E σ)) (ha : PA X (e :: es) t)
    (hdb : (x == ("__debug__" : Str)) = false) (he : starEach (e :: es) X.env = (false, eval e X.env) :: starEach es X.env) (hpl : (backTo pos (starEach es X.env)).any (·.1) = false) : PE X (.Call (.Name x p) (e :: es) [] pos) (tCallS sp E t) := by
  have q := pe_callG (p := p) F hr hgu hg hm hk hb .nil hx ha hdb he hpl
  simp only [List.append_nil] at q
  exact q
theorem de_call {CX : CXT} {n k : Nat} {x : Str} {f : Addr} {fd : FuncData} {ps : List Str} {e : Expr} {es : List Expr} {g : Sm M (List S)} {c : List S → M.T → Rs S M.T} {p pos : Pos} (hF : ∀ j, FnG (X j).prog (X j).w (X j).K (X j).mg (X j).base CX k f fd ps (spM M K xr n c)) (hr : ∀ j, Room k (X j).A) (hgu : ∀ j, (X j).A.guards = some []) (hg : ∀ j, Gl (X j) x)
    (hm : ∀ j, (X j).mg x = some (.ref f)) (hk : ∀ j, PySem.W.keepIn (X j).K (.ref f) = true) (hb : ∀ j, Binds (X j).K fd ps []) (hx : ∀ j σ, PassesAt CX (X j) σ (WE W σ)) (ha : DA M xr K X W (e :: es) g) (hn : ∀ z ss z1, g z = .ok ss z1 → ss.length = n)
    (hdb : (x == ("__debug__" : Str)) = false := by decide) (he : ∀ j, starEach (e :: es) (X j).env = (false, eval e (X j).env) :: starEach es (X j).env := by intro _; rfl) (hpl : ∀ j, (backTo pos (starEach es (X j).env)).any (·.1) = false := by intro _; rfl) :
    DE M xr K X W (.Call (.Name x p) (e :: es) [] pos) (eCall c g) := by
  obtain ⟨t, pa, ca⟩ := ha
  exact ⟨_, fun j => pe_callF (hF j) (hr j) (hgu j) (hg j) (hm j) (hk j) (hb j) (hx j) (pa j) hdb (he j) (hpl j), cmp_call ca hn⟩
/-- defaults that fill up -/
def aDef (dd : List D) (g : Sm M (List S)) : Sm M (List S) := fun z => (g z).bind fun ss z1 => .ok (ss ++ dd.map S.d) z1
theorem paired_app {α β : Type} {R : α → β → Prop} : ∀ {as as' : List α} {bs bs' : List β}, Paired R as bs → Paired R as' bs' → Paired R (as ++ as') (bs ++ bs')
  | _, _, _, _, .nil, h => h
  | _, _, _, _, .cons r t, h => .cons r (paired_app t h)
theorem paired_dfl {G : Gx} {σ : St} {F : Hp} {v : V} {d : D} (h : Da G.K F v d) : Paired (fun v s => EO G σ F v s) [v] [S.d d] := .cons h .nil
theorem de_callD {CX : CXT} {n k : Nat} {x : Str} {f : Addr} {fd : FuncData} {ps : List Str} {e : Expr} {es : List Expr} {g : Sm M (List S)} {c : List S → M.T → Rs S M.T} {p pos : Pos} {dv : V} {dd : D} {ds : List Value} (hdd : ∀ F, Da K F dv dd) (hds : Vals [dv] ds) (hF : ∀ j, FnG (X j).prog (X j).w (X j).K (X j).mg (X j).base CX k f fd ps (spM M K xr n c)) (hr : ∀ j, Room k (X j).A) (hgu : ∀ j, (X j).A.guards = some []) (hg : ∀ j, Gl (X j) x)
    (hm : ∀ j, (X j).mg x = some (.ref f)) (hk : ∀ j, PySem.W.keepIn (X j).K (.ref f) = true) (hb : ∀ j, Binds (X j).K fd ps ds) (hx : ∀ j σ, PassesAt CX (X j) σ (WE W σ)) (ha : DA M xr K X W (e :: es) g) (hn : ∀ z ss z1, g z = .ok ss z1 → ss.length + 1 = n)
    (hdb : (x == ("__debug__" : Str)) = false := by decide) (he : ∀ j, starEach (e :: es) (X j).env = (false, eval e (X j).env) :: starEach es (X j).env := by intro _; rfl) (hpl : ∀ j, (backTo pos (starEach es (X j).env)).any (·.1) = false := by intro _; rfl) :
    DE M xr K X W (.Call (.Name x p) (e :: es) [] pos) (eCall c (aDef [dd] g)) := by
  obtain ⟨t, pa, ca⟩ := ha
  have cd : Cmp M K xr W (fun σ H Q => t σ H fun ws H1 => Q (ws ++ [dv]) H1) RelA (aDef [dd] g) := by
    intro G σ H F z Q hK hx ok hh
    refine ca G σ H F z _ hK hx ok (hit_bind hh fun ss z1 vs H1 F1 eg sm ok1 ea h1 => ?_)
    exact h1 _ H1 F1 (Same.refl _) ok1 (paired_app ea (paired_dfl (by rw [hK]; exact hdd F1)))
  refine ⟨_, fun j => pe_callG (E := WE W) (hF j) (hr j) (hgu j) (hg j) (hm j) (hk j) (hb j) hds (hx j) (pa j) hdb (he j) (hpl j), cmp_call cd (fun z ss z1 h => ?_)⟩
  unfold aDef at h
  cases eg : g z with
  | ok a z2 =>
    rw [eg] at h
    cases h
    rw [List.length_append, ← hn z a _ eg]
    rfl
  | ex _ _ => rw [eg] at h; cases h
  | bad => rw [eg] at h; cases h
theorem de_call0 {CX : CXT} {k : Nat} {x : Str} {f : Addr} {fd : FuncData} {ps : List Str} {c : List S → M.T → Rs S M.T} {p pos : Pos} (hF : ∀ j, FnG (X j).prog (X j).w (X j).K (X j).mg (X j).base CX k f fd ps (spM M K xr 0 c)) (hr : ∀ j, Room k (X j).A) (hgu : ∀ j, (X j).A.guards = some []) (hg : ∀ j, Gl (X j) x)
    (hm : ∀ j, (X j).mg x = some (.ref f)) (hk : ∀ j, PySem.W.keepIn (X j).K (.ref f) = true) (hb : ∀ j, Binds (X j).K fd ps []) (hx : ∀ j σ, PassesAt CX (X j) σ (WE W σ))
    (hdb : (x == ("__debug__" : Str)) = false := by decide) :
    DE M xr K X W (.Call (.Name x p) [] [] pos) (eCall c aNil) := by
  refine ⟨tCallS (spM M K xr 0 c) (WE W) tNil, fun j => ?_, cmp_call (fun G σ H F z Q _ _ ok h => h [] H F (Same.refl _) ok .nil) (fun _ _ _ h => len_nil h)⟩
  exact pe_call0G (hF j) (hr j) (hgu j) (hg j) (hm j) (hk j) (hb j) .nil (hx j) hdb
end
/-! ### a def -/
def fnM {M : MI} (n : Nat) (b : Sm M Out) : List S → M.T → Rs S M.T := fun args t => match b { rho := args.map some ++ List.replicate (n - args.length) none, m := t } with
  | .ok (.rt s) z => .ok s z.m
  | .ok .nx z => .ok (.d .non) z.m
  | .ok _ _ => .bad
  | .ex x z => .ex x z.m
  | .bad => .bad
theorem paired_get {α β : Type} {R : α → β → Prop} : ∀ {as : List α} {bs : List β} {i : Nat} {b : β}, Paired R as bs → bs[i]? = some b → ∃ a, as[i]? = some a ∧ R a b
  | _, _, _, _, .nil, e => by simp at e
  | _, _, 0, _, .cons r _, e => by simp at e; subst e; exact ⟨_, rfl, r⟩
  | _, _, i + 1, _, .cons _ t, e => by
    obtain ⟨a, h1, h2⟩ := paired_get (i := i) t (by simpa using e)
    exact ⟨a, by simpa using h1, h2⟩
open Classical in
/-- what a call must leave as it is -/
noncomputable def prP (ms : List Addr) (H F : Hp) : Hp := fun b => if b ∈ ms ∨ ∃ ps, F b = some (.tbl ps) then none else H b
theorem prP_in {ms : List Addr} {H F : Hp} {b : Addr} (h : b ∈ ms ∨ ∃ ps, F b = some (.tbl ps)) : prP ms H F b = none := if_pos h
theorem prP_out {ms : List Addr} {H F : Hp} {b : Addr} (h : ¬ (b ∈ ms ∨ ∃ ps, F b = some (.tbl ps))) : prP ms H F b = H b := if_neg h
theorem prP_of {ms : List Addr} {H F : Hp} {b : Addr} {o : HO} (h : prP ms H F b = some o) : ¬ (b ∈ ms ∨ ∃ ps, F b = some (.tbl ps)) ∧ H b = some o := by
  by_cases q : b ∈ ms ∨ ∃ ps, F b = some (.tbl ps)
  · rw [prP_in q] at h; cases h
  · rw [prP_out q] at h; exact ⟨q, h⟩
theorem start_ok {M : MI} {K : PySem.W.Frag} {xr : Str → Option Value} {N : List Str} {vs : List V} {H F : Hp} {ms : List Addr} {args : List S} {t : M.T} (sub : SameX F H) (mach : M.ok K F H ms t) (msx : ∀ a ∈ ms, F a = none ∧ H a ≠ none) (tgx : ∀ a ps, F a = some (.tbl ps) → H a ≠ none) (hv : Paired (AV K F ms) vs args) :
    Ok M ⟨K, xr, ms, prP ms H F, F⟩ (L2.start N vs) H F { rho := args.map some ++ List.replicate (N.length - args.length) none, m := t } := by
  have hl : vs.length = args.length := hv.length
  have key : ∀ (i : Nat) (s : S), (args.map some ++ List.replicate (N.length - args.length) none)[i]? = some (some s) → args[i]? = some s := fun i s e => by
    by_cases h : i < args.length
    · rw [List.getElem?_append_left (by simpa using h), List.getElem?_map] at e
      cases q : args[i]? with
      | none => rw [q] at e; cases e
      | some s' => rw [q] at e; cases e; rfl
    · rw [List.getElem?_append_right (by simpa using h), List.getElem?_replicate] at e
      split at e
      · cases e
      · cases e
  refine ⟨sub, ?_, fun i s e => ?_, fun i j xs ys v e1 _ _ _ => ?_, mach, fun a ha => (msx a ha).1, fun a ha => prP_in (.inl ha), fun a ha => (msx a ha).2, fun b o q => ⟨(prP_of q).2, rfl⟩, fun a ps e => ⟨tgx a ps e, prP_in (.inr ⟨ps, e⟩)⟩⟩
  · unfold L2.start
    simp [hl]
  · obtain ⟨v, h1, h2⟩ := paired_get hv (key i s e)
    refine ⟨v, ?_, ?_⟩
    · unfold L2.start
      have hi : i < vs.length := (List.getElem?_eq_some_iff.mp h1).1
      rw [List.getElem?_append_left (by simpa using hi), List.getElem?_map, h1]
      rfl
    · cases s with
      | d x => exact h2
      | l xs => exact h2.elim
      | v _ => exact h2.elim
      | m j => exact h2
  · obtain ⟨v, h1, h2⟩ := paired_get hv (key i _ e1)
    exact h2.elim
theorem fr_out {M : MI} {K : PySem.W.Frag} {xr : Str → Option Value} {ms : List Addr} {H F H' F' : Hp} (h : ∀ b o, (⟨K, xr, ms, prP ms H F, F⟩ : Gx).P b = some o → H' b = some o ∧ F' b = F b) : ∀ b o, H b = some o → b ∉ ms → (∀ ps, F b ≠ some (.tbl ps)) → H' b = some o ∧ F' b = F b := fun b o q n n2 => h b o (by show prP ms H F b = some o; rw [prP_out (fun e => e.elim n fun ⟨ps, e⟩ => n2 ps e)]; exact q)
theorem tg_out {M : MI} {K : PySem.W.Frag} {xr : Str → Option Value} {ms : List Addr} {H F H' F' : Hp} (sm : Same F F') (msx : ∀ a ∈ ms, F' a = none) (h : ∀ a ps, F' a = some (.tbl ps) → H' a ≠ none ∧ (⟨K, xr, ms, prP ms H F, F⟩ : Gx).P a = none) : ∀ a ps, F' a = some (.tbl ps) → H' a ≠ none ∧ (F a = some (.tbl ps) ∨ H a = none) := fun a ps e => by
  obtain ⟨h1, h2⟩ := h a ps e
  refine ⟨h1, ?_⟩
  have h2' : prP ms H F a = none := h2
  by_cases q : a ∈ ms ∨ ∃ ps, F a = some (.tbl ps)
  · rcases q with q | ⟨ps', q⟩
    · rw [msx a q] at e; cases e
    · have := sm a _ q
      rw [e] at this
      cases this
      exact .inl q
  · rw [prP_out q] at h2'
    exact .inr h2'
/-- .. where its code object is known: its body's mirror is its promise -/
theorem okMC {M : MI} {P : Program} {w : World} {K : PySem.W.Frag} {mg : Str → Option Value} {base : Heap} {xr : Str → Option Value} {x qual : Str} {st : Stmt} {f : Addr} {fd : FuncData} {dvs : List V} {N ps : List Str} {k : Nat} {b : Sm M Out} (Fn : FunD K x qual (defArgs st) (defBody st) (defScope st) dvs [] f fd) (Sc : FnScope N ps (defScope st))
    (hb : ∀ (cdv : Value), fd.code = cdv → ∀ (A : Around) (outer : List Env) (s : Shared) (H : Hp) (E : XK), Room k (A.deeper (PyProof.Rows.envOfC qual (defScope st) s.heap.objs.size f cdv)) → A.guards = some [] →
      DSs M xr K (fun _ : Unit => cxOf (L2.CX P w) P w K mg base N qual (defScope st) f cdv A outer s H E) (fun cls d _ H => E cls d H) (defBody st) b) :
    FnG P w K mg base (L2.CX P w) (k + 1) f fd ps (spM M K xr ps.length (fnM N.length b)) := by
  obtain ⟨oc, od, dV, kV, doc, pm, an, cdv, ct, osl, rfl, lk, hcd, _, _⟩ := Fn.ex
  refine fnG lk hcd Sc (fun vs H Q E h => h.1) (fun A outer s H vs Q E hr hgu h => ?_)
  obtain ⟨hl, ms, F, args, t, sub, mach, msx, tgx, hv, h⟩ := h
  obtain ⟨tb, p, c⟩   := hb cdv rfl A outer s H E hr hgu
  refine ⟨tb, p (), ?_⟩
  have ok := start_ok (xr := xr) (N := N) sub mach msx tgx hv
  refine c _ _ H F _ _ rfl rfl ok ?_
  unfold fnM at h
  cases e : b { rho := args.map some ++ List.replicate (N.length - args.length) none, m := t } with
  | bad => rw [e] at h; exact h
  | ex x z =>
    rw [e] at h
    exact fun cls d σ H' F' s' ok' xo => h cls d H' F' s' ⟨ok'.sub, ok'.mach, fun a ha => ⟨ok'.msF a ha, ok'.msH a ha⟩, fr_out (M := M) ok'.fr, tg_out (M := M) s' ok'.msF ok'.tg⟩ xo
  | ok o z =>
    rw [e] at h
    cases o with
    | bk => exact h.elim
    | ct => exact h.elim
    | nx => exact fun σ H' F' s' ok' => h .non H' F' s' ⟨ok'.sub, ok'.mach, fun a ha => ⟨ok'.msF a ha, ok'.msH a ha⟩, fr_out (M := M) ok'.fr, tg_out (M := M) s' ok'.msF ok'.tg⟩ Da.non
    | rt q =>
      intro v H' F' s' r
      refine h v H' F' s' ⟨r.sub, r.mach, fun a ha => ⟨r.msF a ha, r.msH a ha⟩, fr_out (M := M) r.fr, tg_out (M := M) s' r.msF r.tg⟩ ?_
      have val := r.val
      cases q with
      | d x => exact val
      | m j => exact val
      | v _ => exact val.elim
      | l xs =>
        obtain ⟨a, vs', rfl, q1, q2, q3, q4, q5⟩ := val
        have q4' : prP ms H F a = none := q4
        have q5' : a ∉ ms := q5
        rw [prP_out (fun e => e.elim q5' fun ⟨ps, e⟩ => by have := s' a _ e; rw [q3] at this; cases this)] at q4'
        exact ⟨a, vs', rfl, q1, q2, q3, q4', q5'⟩
/-- THE RULE for a def: its body's mirror is its promise -/
theorem okM {M : MI} {P : Program} {w : World} {K : PySem.W.Frag} {mg : Str → Option Value} {base : Heap} {xr : Str → Option Value} {x qual : Str} {st : Stmt} {f : Addr} {fd : FuncData} {dvs : List V} {N ps : List Str} {k : Nat} {b : Sm M Out} (Fn : FunD K x qual (defArgs st) (defBody st) (defScope st) dvs [] f fd) (Sc : FnScope N ps (defScope st))
    (hb : ∀ (cdv : Value) (A : Around) (outer : List Env) (s : Shared) (H : Hp) (E : XK), Room k (A.deeper (PyProof.Rows.envOfC qual (defScope st) s.heap.objs.size f cdv)) → A.guards = some [] →
      DSs M xr K (fun _ : Unit => cxOf (L2.CX P w) P w K mg base N qual (defScope st) f cdv A outer s H E) (fun cls d _ H => E cls d H) (defBody st) b) :
    FnG P w K mg base (L2.CX P w) (k + 1) f fd ps (spM M K xr ps.length (fnM N.length b)) := okMC Fn Sc fun cdv _ => hb cdv
end G
namespace G
open PySem L2
/-! ### what is read -/
section
variable {K : PySem.W.Frag} {F H : Hp} {v : V}
theorem Rv.da {x : D} (h : Rv K F H v x) (hn : ∀ xs, x ≠ .lst xs) : Da K F v x := by
  rcases h with h | ⟨a, vs, xs, _, e, _⟩
  · exact h
  · exact (hn xs e).elim
theorem Rv.int {i : Int} (h : Rv K F H v (.int i)) : v = .int i := by cases h.da (fun _ e => by cases e); rfl
theorem Rv.str {i : Str} (h : Rv K F H v (.str i)) : v = .str i := by cases h.da (fun _ e => by cases e); rfl
theorem Rv.bl {i : Bool} (h : Rv K F H v (.bl i)) : v = .bl i := by cases h.da (fun _ e => by cases e); rfl
theorem Rv.non (h : Rv K F H v .non) : v = .non := by cases h.da (fun _ e => by cases e); rfl
theorem Rv.tup (s : SameX F H) {xs : List D} (h : Rv K F H v (.tup xs)) : ∃ a vs, v = .ref a ∧ SqT K H a vs ∧ DaAll K F vs xs := by
  cases h.da (fun _ e => by cases e) with
  | tup q r => exact ⟨_, _, rfl, s.tup q, r⟩
theorem Rv.scr (s : SameX F H) {ns : List Int} (h : Rv K F H v (.scr ns)) : ∃ a, v = .ref a ∧ SqL K H a (ns.map V.int) := by
  cases h.da (fun _ e => by cases e) with
  | scr q => exact ⟨_, rfl, s.seq q⟩
theorem Rv.emp (s : SameX F H) (h : Rv K F H v .emp) : ∃ a, v = .ref a ∧ H a = some (.dK []) := by
  cases h.da (fun _ e => by cases e) with
  | emp q => exact ⟨_, rfl, s.emp q⟩
end
/-! ### ints -/
def dI (C : Int → Int → Bool) (g : Int → Int → D) : D → D → Option R := fun a b => match a, b with
  | .int i, .int j => if C i j = true then some (.d (g i j)) else none
  | _, _ => none
theorem op2_I {K : PySem.W.Frag} {Cp : Int → Int → Prop} {C : Int → Int → Bool} {g : Int → Int → V} {g' : Int → Int → D} (hC : ∀ i j, C i j = true → Cp i j) (hg : ∀ F i j, Da K F (g i j) (g' i j)) : Op2 K (rI Cp g) (dI C g') := by
  intro F H x y a b Q s ha hb h
  cases a with
  | int i =>
    cases b with
    | int j =>
      unfold dI at h
      by_cases hc : C i j = true
      · simp only [if_pos hc] at h
        exact ⟨i, j, ha.int, hb.int, hC i j hc, h _ (hg F i j)⟩
      · simp only [if_neg hc] at h
        exact h.elim
    | _ => exact h.elim
  | _ => exact h.elim
theorem op2_I0 {K : PySem.W.Frag} {g : Int → Int → V} {g' : Int → Int → D} (hg : ∀ F i j, Da K F (g i j) (g' i j)) : Op2 K (rI0 g) (dI (fun _ _ => true) g') := by
  intro F H x y a b Q s ha hb h
  cases a with
  | int i =>
    cases b with
    | int j => exact ⟨i, j, ha.int, hb.int, h _ (hg F i j)⟩
    | _ => exact h.elim
  | _ => exact h.elim
def dSub := dI (fun _ _ => true) fun i j => .int (i - j)
def dMul := dI (fun i j => decide ((-(2 ^ 64) < i ∧ i < 2 ^ 64) ∨ (-(2 ^ 64) < j ∧ j < 2 ^ 64))) fun i j => .int (i * j)
def dFdiv := dI (fun _ j => decide (0 < j ∧ j < 1073741824)) fun i j => .int (i / j)
def dMod := dI (fun _ j => decide (0 < j)) fun i j => .int (i % j)
def dPow := dI (fun i j => decide (0 ≤ j ∧ j ≤ 1000000 ∧ i.natAbs < 2 ^ 64)) fun i j => .int (i ^ j.toNat)
def dShl := dI (fun i j => decide (0 ≤ j ∧ j ≤ 1000000 ∧ i.natAbs < 2 ^ 64)) fun i j => .int (i * 2 ^ j.toNat)
def dShr := dI (fun _ j => decide (0 ≤ j)) fun i j => .int (i / 2 ^ j.toNat)
def dLt := dI (fun _ _ => true) fun i j => .bl (decide (i < j))
def dLe := dI (fun _ _ => true) fun i j => .bl (decide (i ≤ j))
def dGt := dI (fun _ _ => true) fun i j => .bl (decide (j < i))
def dGe := dI (fun _ _ => true) fun i j => .bl (decide (j ≤ i))
def dNeg : D → Option R := fun a => match a with
  | .int i => some (.d (.int (-i)))
  | _ => none
/-! ### + -/
def dAdd : D → D → Option R := fun a b => match a, b with
  | .int i, .int j => some (.d (.int (i + j)))
  | .str x, .str y => if x.length + y.length ≤ lim then some (.d (.str (x ++ y))) else none
  | .lst xs, .lst ys => if xs.length + ys.length ≤ lim then some (.l (xs ++ ys)) else none
  | .tup xs, .tup ys => if xs.length + ys.length ≤ lim then some (.t (xs ++ ys)) else none
  | _, _ => none
theorem limLe {n : Nat} (h : n ≤ lim) : n ≤ sizeLine := Nat.le_trans h (Nat.le_of_lt lim_line)
def rAddAll (K : PySem.W.Frag) : R2 := fun x y H Q => (rI0 fun i j => .int (i + j)) x y H Q ∨ (∃ i j, x = .str i ∧ y = .str j ∧ i.length + j.length ≤ sizeLine ∧ Q (.str (i ++ j)) H) ∨ rCat x y H Q ∨ rCatA K x y H Q
theorem opAdd {X : Cx} : OpR X (binaryOp .Add) (rAddAll X.K) := op_add.or (op_add_str.or (op_cat.or op_catA))
theorem op2_add {K : PySem.W.Frag} : Op2 K (rAddAll K) dAdd := by
  intro F H x y a b Q s ha hb h
  unfold dAdd at h
  split at h
  · exact .inl ⟨_, _, ha.int, hb.int, h _ (.int _)⟩
  · rename_i i j
    by_cases hl : i.length + j.length ≤ lim
    · rw [if_pos hl] at h
      exact .inr (.inl ⟨_, _, ha.str, hb.str, limLe hl, h _ (.str _)⟩)
    · rw [if_neg hl] at h; exact h.elim
  · rename_i xs ys
    by_cases hl : xs.length + ys.length ≤ lim
    · rw [if_pos hl] at h
      obtain ⟨a, vs, rfl, h1, h2⟩ := ha.lst s
      obtain ⟨b, ws, rfl, h3, h4⟩ := hb.lst s
      exact .inr (.inr (.inl ⟨a, b, vs, ws, rfl, rfl, h1, h3, by rw [h2.length, h4.length]; exact limLe hl, fun p hp => h p _ hp (h2.append h4)⟩))
    · rw [if_neg hl] at h; exact h.elim
  · rename_i xs ys
    by_cases hl : xs.length + ys.length ≤ lim
    · rw [if_pos hl] at h
      obtain ⟨a, vs, rfl, h1, h2⟩ := ha.tup s
      obtain ⟨b, ws, rfl, h3, h4⟩ := hb.tup s
      refine .inr (.inr (.inr ⟨a, b, vs, ws, rfl, rfl, h1, h3, by rw [h2.length, h4.length]; exact limLe hl, fun e => ?_, fun _ e => ?_, fun _ _ p hp => h.2 p _ hp (h2.append h4)⟩))
      · subst e
        cases h2
        exact h.1 _ (hb.da (fun _ e => by cases e))
      · subst e
        cases h4
        rw [List.append_nil] at h
        exact h.1 _ (ha.da (fun _ e => by cases e))
    · rw [if_neg hl] at h; exact h.elim
  · exact h.elim
/-! ### ==, != -/
mutual
def toPy : D → PyData
  | .non => .none
  | .bl b => .bool b
  | .int i => .int i
  | .str x => .str x
  | .tup xs => .tuple (toPys xs)
  | .lst xs => .list (toPys xs)
  | .scr ns => .list (ns.map PyData.int)
  | .emp => .str ⟨#[4294967295]⟩
  | .exc _ _ => .str ⟨#[4294967295]⟩
  | .o _ => .str ⟨#[4294967295]⟩
def toPys : List D → List PyData
  | [] => []
  | x :: r => toPy x :: toPys r
end
theorem dp_ints {K : PySem.W.Frag} {H : Hp} : ∀ ns : List Int, DpAll K H (ns.map V.int) (ns.map PyData.int)
  | [] => .nil
  | n :: r => .cons (.int n) (dp_ints r)
mutual
def lay : D → Bool
  | .str x => PyData.strOk x
  | .tup xs => lays xs
  | .lst xs => lays xs
  | .emp => false
  | .exc _ _ => false
  | .o _ => false
  | _ => true
def lays : List D → Bool
  | [] => true
  | x :: r => lay x && lays r
end
mutual
theorem Da.dp {K : PySem.W.Frag} {F H : Hp} (s : SameX F H) : ∀ {v : V} {d : D}, Da K F v d → lay d = true → Dp K H v (toPy d)
  | _, _, .non, _ => .non
  | _, _, .bl b, _ => .bl b
  | _, _, .int i, _ => .int i
  | _, _, .str x, _ => .str x
  | _, _, .tup q r, l => .tup (s.tup q) (DaAll.dp s r (by rwa [lay] at l))
  | _, _, .lst q r, l => .lst (SqL.of (s.lst q)) (DaAll.dp s r (by rwa [lay] at l))
  | _, _, .scr q, _ => .lst (s.seq q) (dp_ints _)
  | _, _, .emp q, l => by rw [lay] at l; cases l
  | _, _, .exc _ _, l => by rw [lay] at l; cases l
  | _, _, .o _, l => by rw [lay] at l; cases l
theorem DaAll.dp {K : PySem.W.Frag} {F H : Hp} (s : SameX F H) : ∀ {vs : List V} {ds : List D}, DaAll K F vs ds → lays ds = true → DpAll K H vs (toPys ds)
  | _, _, .nil, _ => .nil
  | _, _, .cons a b, l => by
    rw [lays, Bool.and_eq_true] at l
    exact .cons (Da.dp s a l.1) (DaAll.dp s b l.2)
end
theorem Rv.dp {K : PySem.W.Frag} {F H : Hp} (s : SameX F H) {v : V} {d : D} (h : Rv K F H v d) (l : lay d = true) : Dp K H v (toPy d) := by
  rcases h with h | ⟨a, vs, xs, rfl, rfl, h1, h2⟩
  · exact h.dp s l
  · exact .lst (SqL.of h1) (h2.dp s (by rwa [lay] at l))
mutual
def dep : D → Nat
  | .tup xs => deps xs + 1
  | .lst xs => deps xs + 1
  | .scr _ => 1
  | _ => 0
def deps : List D → Nat
  | [] => 0
  | x :: r => max (dep x) (deps r)
end
theorem lay_ints : ∀ ns : List Int, PyData.canLayAll0 (ns.map PyData.int) = true
  | [] => rfl
  | n :: r => by rw [List.map_cons, PyData.canLayAll0, lay_ints r, PyData.canLay0]; rfl
theorem dep_ints : ∀ ns : List Int, PyData.depthAll (ns.map PyData.int) = 0
  | [] => rfl
  | n :: r => by rw [List.map_cons, PyData.depthAll, dep_ints r, PyData.depth]; rfl
mutual
theorem canLay_toPy : ∀ d : D, (toPy d).canLay0 = lay d
  | .non => by simp [toPy, lay, PyData.canLay0]
  | .bl _ => by simp [toPy, lay, PyData.canLay0]
  | .int _ => by simp [toPy, lay, PyData.canLay0]
  | .str _ => by simp [toPy, lay, PyData.canLay0]
  | .tup xs => by rw [toPy, lay, PyData.canLay0, canLays_toPy xs]
  | .lst xs => by rw [toPy, lay, PyData.canLay0, canLays_toPy xs]
  | .scr ns => by rw [toPy, lay, PyData.canLay0, lay_ints]; all_goals (intros; simp_all)
  | .emp => by rw [toPy, lay, PyData.canLay0]; decide +kernel
  | .exc _ _ => by rw [toPy, lay, PyData.canLay0]; decide +kernel
  | .o _ => by rw [toPy, lay, PyData.canLay0]; decide +kernel
theorem canLays_toPy : ∀ ds : List D, PyData.canLayAll0 (toPys ds) = lays ds
  | [] => by simp [toPys, lays, PyData.canLayAll0]
  | d :: r => by rw [toPys, lays, PyData.canLayAll0, canLay_toPy d, canLays_toPy r]
end
mutual
theorem depth_toPy : ∀ d : D, (toPy d).depth = dep d
  | .non => by simp [toPy, dep, PyData.depth]
  | .bl _ => by simp [toPy, dep, PyData.depth]
  | .int _ => by simp [toPy, dep, PyData.depth]
  | .str _ => by simp [toPy, dep, PyData.depth]
  | .tup xs => by rw [toPy, dep, PyData.depth, depths_toPy xs]
  | .lst xs => by rw [toPy, dep, PyData.depth, depths_toPy xs]
  | .scr ns => by rw [toPy, dep, PyData.depth, dep_ints]
  | .emp => by simp [toPy, dep, PyData.depth]
  | .exc _ _ => by simp [toPy, dep, PyData.depth]
  | .o _ => by simp [toPy, dep, PyData.depth]
theorem depths_toPy : ∀ ds : List D, PyData.depthAll (toPys ds) = deps ds
  | [] => by simp [toPys, deps, PyData.depthAll]
  | d :: r => by rw [toPys, deps, PyData.depthAll, depth_toPy d, depths_toPy r]
end
def eqD (a b : D) : Bool := PyData.eqv (toPy a) (toPy b)
def eqOk (a b : D) : Bool := lay a && (lay b && decide (min (dep a) (dep b) ≤ 300))
def dEq : D → D → Option R := fun a b => if eqOk a b = true then some (.d (.bl (eqD a b))) else none
def dNe : D → D → Option R := fun a b => if eqOk a b = true then some (.d (.bl (!eqD a b))) else none
def rEqW (K : PySem.W.Frag) : R2 := fun x y H Q => ∃ d e, Dp K H x d ∧ Dp K H y e ∧ d.canLay0 = true ∧ e.canLay0 = true ∧ min d.depth e.depth ≤ 300 ∧ Q (.bl (PyData.eqv d e)) H
def rNeW (K : PySem.W.Frag) : R2 := fun x y H Q => ∃ d e, Dp K H x d ∧ Dp K H y e ∧ d.canLay0 = true ∧ e.canLay0 = true ∧ min d.depth e.depth ≤ 300 ∧ Q (.bl (!PyData.eqv d e)) H
theorem op_eqW {X : Cx} (hu : X.A.units + 300 < cLine) : OpR X (compareOp .Eq) (rEqW X.K) := by
  intro pins s σ H x y v u Q I rx ry h
  obtain ⟨d, e, hd, he, sd, se, hm, q⟩ := h
  obtain ⟨as, r1⟩ := Dp.reads I d x v hd rx
  obtain ⟨bs, r2⟩ := Dp.reads I e y u he ry
  exact SeqAt.compareEq_reads r1 r2 sd se (by omega) ⟨.bl _, H, I, rfl, q⟩
theorem op_neW {X : Cx} (hu : X.A.units + 300 < cLine) : OpR X (compareOp .NotEq) (rNeW X.K) := by
  intro pins s σ H x y v u Q I rx ry h
  obtain ⟨d, e, hd, he, sd, se, hm, q⟩ := h
  obtain ⟨as, r1⟩ := Dp.reads I d x v hd rx
  obtain ⟨bs, r2⟩ := Dp.reads I e y u he ry
  exact SeqAt.compareNe_reads r1 r2 sd se (by omega) ⟨.bl _, H, I, rfl, q⟩
theorem eqOk_of {a b : D} (h : eqOk a b = true) : (toPy a).canLay0 = true ∧ (toPy b).canLay0 = true ∧ min (toPy a).depth (toPy b).depth ≤ 300 := by
  unfold eqOk at h
  rw [Bool.and_eq_true, Bool.and_eq_true] at h
  rw [canLay_toPy, canLay_toPy, depth_toPy, depth_toPy]
  exact ⟨h.1, h.2.1, of_decide_eq_true h.2.2⟩
theorem op2_eq {K : PySem.W.Frag} : Op2 K (rEqW K) dEq := by
  intro F H x y a b Q s ha hb h
  unfold dEq at h
  by_cases hs : eqOk a b = true
  · rw [if_pos hs] at h
    obtain ⟨q1, q2, q3⟩ := eqOk_of hs
    exact ⟨_, _, ha.dp s (by rw [← canLay_toPy]; exact q1), hb.dp s (by rw [← canLay_toPy]; exact q2), q1, q2, q3, h _ (.bl _)⟩
  · rw [if_neg hs] at h; exact h.elim
theorem op2_ne {K : PySem.W.Frag} : Op2 K (rNeW K) dNe := by
  intro F H x y a b Q s ha hb h
  unfold dNe at h
  by_cases hs : eqOk a b = true
  · rw [if_pos hs] at h
    obtain ⟨q1, q2, q3⟩ := eqOk_of hs
    exact ⟨_, _, ha.dp s (by rw [← canLay_toPy]; exact q1), hb.dp s (by rw [← canLay_toPy]; exact q2), q1, q2, q3, h _ (.bl _)⟩
  · rw [if_neg hs] at h; exact h.elim
/-! ### is -/
def dIs : D → D → Option R := fun a b => match a, b with
  | .non, .non => some (.d (.bl true))
  | _, .non => some (.d (.bl false))
  | .bl x, .bl y => some (.d (.bl (decide (x = y))))
  | _, _ => none
def dIsNot : D → D → Option R := fun a b => match a, b with
  | .non, .non => some (.d (.bl false))
  | _, .non => some (.d (.bl true))
  | .bl x, .bl y => some (.d (.bl (!decide (x = y))))
  | _, _ => none
def rIsAll : R2 := fun x y H Q => (y = .non ∧ Q (.bl (decide (x = .non))) H) ∨ (∃ a b, x = .bl a ∧ y = .bl b ∧ Q (.bl (decide (a = b))) H)
def rIsNotAll : R2 := fun x y H Q => (y = .non ∧ Q (.bl (!decide (x = .non))) H) ∨ (∃ a b, x = .bl a ∧ y = .bl b ∧ Q (.bl (!decide (a = b))) H)
theorem opIs {X : Cx} : OpR X (compareOp .Is) rIsAll := op_isN.or op_is_bl
theorem opIsNot {X : Cx} : OpR X (compareOp .IsNot) rIsNotAll := op_notN.or op_isnot_bl
theorem Rv.notNon {K : PySem.W.Frag} {F H : Hp} {v : V} {d : D} (h : Rv K F H v d) (hd : d ≠ .non) : v ≠ .non := by
  rcases h with h | ⟨a, vs, xs, rfl, _, _, _⟩
  · cases h with
    | non => exact (hd rfl).elim
    | bl _ => intro e; cases e
    | int _ => intro e; cases e
    | str _ => intro e; cases e
    | tup _ _ => intro e; cases e
    | lst _ _ => intro e; cases e
    | scr _ => intro e; cases e
    | emp _ => intro e; cases e
    | exc _ _ => intro e; cases e
    | o _ => intro e; cases e
  · intro e; cases e
theorem op2_is {K : PySem.W.Frag} : Op2 K rIsAll dIs := by
  intro F H x y a b Q s ha hb h
  unfold dIs at h
  split at h
  · refine .inl ⟨hb.non, ?_⟩
    rw [ha.non]
    exact h _ (.bl true)
  · rename_i hn
    refine .inl ⟨hb.non, ?_⟩
    rw [decide_eq_false (ha.notNon hn)]
    exact h _ (.bl false)
  · exact .inr ⟨_, _, ha.bl, hb.bl, h _ (.bl _)⟩
  · exact h.elim
theorem op2_isNot {K : PySem.W.Frag} : Op2 K rIsNotAll dIsNot := by
  intro F H x y a b Q s ha hb h
  unfold dIsNot at h
  split at h
  · refine .inl ⟨hb.non, ?_⟩
    rw [ha.non]
    exact h _ (.bl false)
  · rename_i hn
    refine .inl ⟨hb.non, ?_⟩
    rw [decide_eq_false (ha.notNon hn)]
    exact h _ (.bl true)
  · exact .inr ⟨_, _, ha.bl, hb.bl, h _ (.bl _)⟩
  · exact h.elim
/-! ### in, not in -/
def flatD : D → Bool
  | .non => true
  | .bl _ => true
  | .int _ => true
  | .str _ => true
  | _ => false
def eqF : D → D → Bool
  | .non, .non => true
  | .bl a, .bl b => a == b
  | .bl a, .int b => (if a then 1 else 0) == b
  | .int a, .bl b => a == (if b then 1 else 0)
  | .int a, .int b => a == b
  | .str a, .str b => a == b
  | _, _ => false
def inD (x : D) (xs : List D) : Bool := xs.any fun y => eqF y x
def dInB : D → D → Option Bool := fun a b => match b with
  | .tup xs => if flatD a = true ∧ xs.all flatD = true then some (inD a xs) else none
  | .lst xs => if flatD a = true ∧ xs.all flatD = true then some (inD a xs) else none
  | .str z => (match a with
    | .str c => if c.cps.size = 1 then some (decide (c.cps.getD 0 0 ∈ z.cps.toList)) else none
    | _ => none)
  | _ => none
def dIn : D → D → Option R := fun a b => (dInB a b).map fun k => .d (.bl k)
def dNotIn : D → D → Option R := fun a b => (dInB a b).map fun k => .d (.bl (!k))
theorem da_flat {K : PySem.W.Frag} {F : Hp} {v : V} {d : D} (h : Da K F v d) (hf : flatD d = true) : flatV v = true := by
  cases h with
  | non => rfl
  | bl _ => rfl
  | int _ => rfl
  | str _ => rfl
  | tup _ _ => cases hf
  | lst _ _ => cases hf
  | scr _ => cases hf
  | emp _ => cases hf
  | exc _ _ => cases hf
  | o _ => cases hf
theorem da_eqF {K : PySem.W.Frag} {F : Hp} {v u : V} {d e : D} (h : Da K F v d) (h' : Da K F u e) (hf : flatD d = true) (hf' : flatD e = true) : eqV v u = eqF d e := by
  cases h with
  | non => cases h' <;> first | rfl | cases hf'
  | bl _ => cases h' <;> first | rfl | cases hf'
  | int _ => cases h' <;> first | rfl | cases hf'
  | str _ => cases h' <;> first | rfl | cases hf'
  | tup _ _ => cases hf
  | lst _ _ => cases hf
  | scr _ => cases hf
  | emp _ => cases hf
  | exc _ _ => cases hf
  | o _ => cases hf
theorem daAll_flat {K : PySem.W.Frag} {F : Hp} : ∀ {vs : List V} {ds : List D}, DaAll K F vs ds → ds.all flatD = true → vs.all flatV = true
  | _, _, .nil, _ => rfl
  | _, _, .cons a b, h => by
    rw [List.all_cons, Bool.and_eq_true] at h
    rw [List.all_cons, da_flat a h.1, daAll_flat b h.2]
    rfl
theorem daAll_in {K : PySem.W.Frag} {F : Hp} {x : V} {d : D} (hx : Da K F x d) (hf : flatD d = true) : ∀ {vs : List V} {ds : List D}, DaAll K F vs ds → ds.all flatD = true → inV x vs = inD d ds
  | _, _, .nil, _ => rfl
  | _, _, .cons a b, h => by
    rw [List.all_cons, Bool.and_eq_true] at h
    have ih := daAll_in hx hf b h.2
    unfold inV inD at ih ⊢
    rw [List.any_cons, List.any_cons, ih, da_eqF a hx h.1 hf]
theorem Rv.flat {K : PySem.W.Frag} {F H : Hp} {v : V} {d : D} (h : Rv K F H v d) (hf : flatD d = true) : Da K F v d := h.da (fun _ e => by rw [e] at hf; cases hf)
def rInAll (K : PySem.W.Frag) : R2 := fun x y H Q => rIn K false x y H Q ∨ ∃ (c : Nat) (z : Str), x = .str ⟨#[c]⟩ ∧ y = .str z ∧ Q (.bl (decide (c ∈ z.cps.toList))) H
def rNotInAll (K : PySem.W.Frag) : R2 := fun x y H Q => rIn K true x y H Q ∨ ∃ (c : Nat) (z : Str), x = .str ⟨#[c]⟩ ∧ y = .str z ∧ Q (.bl (!decide (c ∈ z.cps.toList))) H
theorem opIn {X : Cx} : OpR X (compareOp .In) (rInAll X.K) := op_in_seq.or op_in_sign
theorem opNotIn {X : Cx} : OpR X (compareOp .NotIn) (rNotInAll X.K) := op_notIn_seq.or op_notIn_sign
theorem one_sign {c : Str} (h : c.cps.size = 1) : c = ⟨#[c.cps.getD 0 0]⟩ := by
  obtain ⟨⟨l⟩⟩ := c
  match l, h with
  | [x], _ => rfl
theorem in_all {K : PySem.W.Frag} {neg : Bool} {F H : Hp} {x y : V} {a b : D} {Q : VK} {k : Bool} (s : SameX F H) (ha : Rv K F H x a) (hb : Rv K F H y b) (e : dInB a b = some k) (h : ∀ u, Da K F u (.bl (if neg then !k else k)) → Q u H) :
    rIn K neg x y H Q ∨ ∃ (c : Nat) (z : Str), x = .str ⟨#[c]⟩ ∧ y = .str z ∧ Q (.bl (if neg then !decide (c ∈ z.cps.toList) else decide (c ∈ z.cps.toList))) H := by
  unfold dInB at e
  split at e
  · rename_i xs
    by_cases hc : flatD a = true ∧ xs.all flatD = true
    · rw [if_pos hc] at e
      cases e
      obtain ⟨p, vs, rfl, h1, h2⟩ := hb.tup s
      have da := ha.flat hc.1
      refine .inl ⟨p, vs, rfl, .inr h1, da_flat da hc.1, daAll_flat h2 hc.2, ?_⟩
      rw [daAll_in da hc.1 h2 hc.2]
      exact h _ (.bl _)
    · rw [if_neg hc] at e; cases e
  · rename_i xs
    by_cases hc : flatD a = true ∧ xs.all flatD = true
    · rw [if_pos hc] at e
      cases e
      obtain ⟨p, vs, rfl, h1, h2⟩ := hb.lst s
      have da := ha.flat hc.1
      refine .inl ⟨p, vs, rfl, .inl (SqL.of h1), da_flat da hc.1, daAll_flat h2 hc.2, ?_⟩
      rw [daAll_in da hc.1 h2 hc.2]
      exact h _ (.bl _)
    · rw [if_neg hc] at e; cases e
  · rename_i z
    split at e
    · rename_i c
      by_cases hc : c.cps.size = 1
      · rw [if_pos hc] at e
        cases e
        refine .inr ⟨c.cps.getD 0 0, z, ?_, hb.str, h _ (.bl _)⟩
        rw [← one_sign hc]
        exact ha.str
      · rw [if_neg hc] at e; cases e
    · cases e
  · cases e
theorem op2_in {K : PySem.W.Frag} : Op2 K (rInAll K) dIn := by
  intro F H x y a b Q s ha hb h
  unfold dIn at h
  cases e : dInB a b with
  | none => rw [e] at h; exact h.elim
  | some k =>
    rw [e] at h
    exact in_all (neg := false) s ha hb e h
theorem op2_notIn {K : PySem.W.Frag} : Op2 K (rNotInAll K) dNotIn := by
  intro F H x y a b Q s ha hb h
  unfold dNotIn at h
  cases e : dInB a b with
  | none => rw [e] at h; exact h.elim
  | some k =>
    rw [e] at h
    exact in_all (neg := true) s ha hb e h
/-! ### subscripts, slices -/
theorem atI_da {K : PySem.W.Frag} {F : Hp} {vs : List V} {ds : List D} {i : Int} {d : D} (h : DaAll K F vs ds) (e : atI ds i = some d) : ∃ v, atI vs i = some v ∧ Da K F v d := by
  unfold atI at e ⊢
  rw [h.length]
  cases q : ixN ds.length i with
  | none => rw [q] at e; cases e
  | some j =>
    rw [q] at e
    exact h.get e
def dIx : D → D → Option R := fun a b => match a, b with
  | .tup xs, .int i => (atI xs i).map .d
  | .lst xs, .int i => (atI xs i).map .d
  | .scr ns, .int i => (atI ns i).map fun n => .d (.int n)
  | .str z, .int i => if z.length ≤ lim then (atI z.cps.toList i).map fun c => .d (.str ⟨#[c]⟩) else none
  | _, _ => none
theorem atI_map {α β : Type} (f : α → β) (xs : List α) (i : Int) : atI (xs.map f) i = (atI xs i).map f := by
  unfold atI
  rw [List.length_map]
  cases ixN xs.length i with
  | none => rfl
  | some j => exact List.getElem?_map
theorem op2_ix {K : PySem.W.Frag} : Op2 K (rIx K) dIx := by
  intro F H x y a b Q s ha hb h
  unfold dIx at h
  split at h
  · rename_i xs i
    cases e : atI xs i with
    | none => rw [e] at h; exact h.elim
    | some d =>
      rw [e] at h
      obtain ⟨p, vs, rfl, h1, h2⟩ := ha.tup s
      obtain ⟨v, h3, h4⟩ := atI_da h2 e
      exact .inr (.inl ⟨p, vs, i, v, rfl, hb.int, h1, h3, h _ h4⟩)
  · rename_i xs i
    cases e : atI xs i with
    | none => rw [e] at h; exact h.elim
    | some d =>
      rw [e] at h
      obtain ⟨p, vs, rfl, h1, h2⟩ := ha.lst s
      obtain ⟨v, h3, h4⟩ := atI_da h2 e
      exact .inl ⟨p, vs, i, v, rfl, hb.int, SqL.of h1, h3, h _ h4⟩
  · rename_i ns i
    cases e : atI ns i with
    | none => rw [e] at h; exact h.elim
    | some n =>
      rw [e] at h
      obtain ⟨p, rfl, h1⟩ := ha.scr s
      exact .inl ⟨p, _, i, .int n, rfl, hb.int, h1, by rw [atI_map, e]; rfl, h _ (.int n)⟩
  · rename_i z i
    by_cases hl : z.length ≤ lim
    · rw [if_pos hl] at h
      cases e : atI z.cps.toList i with
      | none => rw [e] at h; exact h.elim
      | some c =>
        rw [e] at h
        exact .inr (.inr ⟨z, i, c, ha.str, hb.int, limLe hl, e, h _ (.str _)⟩)
    · rw [if_neg hl] at h; exact h.elim
  · exact h.elim
def cutD {α : Type} (xs : List α) (lo hi : Option Int) : List α := (xs.drop (HT.sIx xs.length 0 lo)).take (HT.sIx xs.length xs.length hi - HT.sIx xs.length 0 lo)
theorem cut_da {K : PySem.W.Frag} {F : Hp} {vs : List V} {ds : List D} (h : DaAll K F vs ds) (lo hi : Option Int) : DaAll K F (cutV vs lo hi) (cutD ds lo hi) := by
  unfold cutV cutD
  rw [h.length]
  exact (h.drop _).take _
theorem cutV_ints (ns : List Int) (lo hi : Option Int) : cutV (ns.map V.int) lo hi = (cutD ns lo hi).map V.int := by
  unfold cutV cutD
  rw [List.length_map, List.map_take, List.map_drop]
def dSl : D → Option Int → Option Int → Option R := fun a lo hi => match a with
  | .tup xs => some (.t (cutD xs lo hi))
  | .lst xs => some (.l (cutD xs lo hi))
  | .scr ns => some (.l ((cutD ns lo hi).map D.int))
  | .str z => if z.length ≤ lim then some (.d (.str (cutS z lo hi))) else none
  | _ => none
def rSlAll (K : PySem.W.Frag) : V → Option Int → Option Int → Hp → VK → Prop := fun x lo hi H Q => rSlA K x lo hi H Q ∨ rSlL K x lo hi H Q ∨ rSlS x lo hi H Q
theorem slAll {X : Cx} : SlR X (rSlAll X.K) := sl_tupA.or (sl_list.or sl_str)
theorem ops_sl {K : PySem.W.Frag} : OpS K (rSlAll K) dSl := by
  intro F H x a lo hi Q s ha h
  unfold dSl at h
  split at h
  · rename_i xs
    obtain ⟨p, vs, rfl, h1, h2⟩ := ha.tup s
    refine .inl ⟨p, vs, rfl, h1, fun e => ?_, fun _ p hp => h.2 p _ hp (cut_da h2 lo hi)⟩
    have q : cutD xs lo hi = xs := by
      unfold cutD
      rw [← h2.length, e.1, e.2, List.drop_zero, Nat.sub_zero, h2.length, List.take_length]
    rw [q] at h
    exact h.1 _ (ha.da (fun _ e => by cases e))
  · obtain ⟨p, vs, rfl, h1, h2⟩ := ha.lst s
    exact .inr (.inl ⟨p, vs, rfl, SqL.of h1, fun p hp => h p _ hp (cut_da h2 lo hi)⟩)
  · rename_i ns
    obtain ⟨p, rfl, h1⟩ := ha.scr s
    refine .inr (.inl ⟨p, _, rfl, h1, fun p hp => h p _ hp ?_⟩)
    rw [cutV_ints]
    exact DaAll.ints _
  · rename_i z
    by_cases hl : z.length ≤ lim
    · rw [if_pos hl] at h
      exact .inr (.inr ⟨z, ha.str, limLe hl, h _ (.str _)⟩)
    · rw [if_neg hl] at h; exact h.elim
  · exact h.elim
end G
namespace G
open PySem L2
/-! ### built-in functions -/
def intsOf : List D → Option (List Int)
  | [] => some []
  | .int i :: r => (intsOf r).map (i :: ·)
  | _ :: _ => none
def blsOf : List D → Option (List Bool)
  | [] => some []
  | .bl i :: r => (blsOf r).map (i :: ·)
  | _ :: _ => none
theorem da_ints {K : PySem.W.Frag} {F : Hp} : ∀ {vs : List V} {ds : List D} {ns : List Int}, DaAll K F vs ds → intsOf ds = some ns → vs = ns.map V.int
  | _, _, _, .nil, e => by cases e; rfl
  | _, _, ns, .cons a b, e => by
    cases a with
    | int i =>
      rename_i ds
      unfold intsOf at e
      cases q : intsOf ds with
      | none => rw [q] at e; cases e
      | some ms =>
        rw [q] at e
        cases e
        rw [da_ints b q]
        rfl
    | _ => cases e
theorem da_bls {K : PySem.W.Frag} {F : Hp} : ∀ {vs : List V} {ds : List D} {ns : List Bool}, DaAll K F vs ds → blsOf ds = some ns → vs = ns.map V.bl
  | _, _, _, .nil, e => by cases e; rfl
  | _, _, ns, .cons a b, e => by
    cases a with
    | bl i =>
      rename_i ds
      unfold blsOf at e
      cases q : blsOf ds with
      | none => rw [q] at e; cases e
      | some ms =>
        rw [q] at e
        cases e
        rw [da_bls b q]
        rfl
    | _ => cases e
def maxL : List Int → Int
  | [] => 0
  | [x] => x
  | x :: r => if maxL r > x then maxL r else x
def minL : List Int → Int
  | [] => 0
  | [x] => x
  | x :: r => if minL r < x then minL r else x
theorem maxL_is : ∀ {ns : List Int}, ns ≠ [] → maxL ns ∈ ns ∧ ∀ y ∈ ns, y ≤ maxL ns
  | [], h => (h rfl).elim
  | [x], _ => ⟨List.mem_singleton.mpr rfl, fun y hy => by rw [List.mem_singleton.mp hy]; exact Int.le_refl _⟩
  | x :: y :: r, _ => by
    obtain ⟨h1, h2⟩ := maxL_is (ns := y :: r) (by intro e; cases e)
    show (if maxL (y :: r) > x then maxL (y :: r) else x) ∈ _ ∧ ∀ u ∈ _, u ≤ (if maxL (y :: r) > x then maxL (y :: r) else x)
    by_cases hc : maxL (y :: r) > x
    · rw [if_pos hc]
      exact ⟨List.mem_cons_of_mem _ h1, fun u hu => by
        rcases List.mem_cons.mp hu with rfl | hu
        · exact Int.le_of_lt hc
        · exact h2 u hu⟩
    · rw [if_neg hc]
      exact ⟨List.mem_cons_self, fun u hu => by
        rcases List.mem_cons.mp hu with rfl | hu
        · exact Int.le_refl _
        · exact Int.le_trans (h2 u hu) (Int.not_lt.mp hc)⟩
theorem minL_is : ∀ {ns : List Int}, ns ≠ [] → minL ns ∈ ns ∧ ∀ y ∈ ns, minL ns ≤ y
  | [], h => (h rfl).elim
  | [x], _ => ⟨List.mem_singleton.mpr rfl, fun y hy => by rw [List.mem_singleton.mp hy]; exact Int.le_refl _⟩
  | x :: y :: r, _ => by
    obtain ⟨h1, h2⟩ := minL_is (ns := y :: r) (by intro e; cases e)
    show (if minL (y :: r) < x then minL (y :: r) else x) ∈ _ ∧ ∀ u ∈ _, (if minL (y :: r) < x then minL (y :: r) else x) ≤ u
    by_cases hc : minL (y :: r) < x
    · rw [if_pos hc]
      exact ⟨List.mem_cons_of_mem _ h1, fun u hu => by
        rcases List.mem_cons.mp hu with rfl | hu
        · exact Int.le_of_lt hc
        · exact h2 u hu⟩
    · rw [if_neg hc]
      exact ⟨List.mem_cons_self, fun u hu => by
        rcases List.mem_cons.mp hu with rfl | hu
        · exact Int.le_refl _
        · exact Int.le_trans (Int.not_lt.mp hc) (h2 u hu)⟩
def fLen : List D → Option R := fun as => match as with
  | [.tup xs] => some (.d (.int xs.length))
  | [.lst xs] => some (.d (.int xs.length))
  | [.scr xs] => some (.d (.int xs.length))
  | [.str z] => if z.length ≤ lim then some (.d (.int z.length)) else none
  | _ => none
def fMax : List D → Option R := fun as => match as with
  | [.int i, .int j] => some (.d (.int (if j > i then j else i)))
  | [.lst xs] => (match intsOf xs with
    | some (n :: ns) => some (.d (.int (maxL (n :: ns))))
    | _ => none)
  | _ => none
def fMin : List D → Option R := fun as => match as with
  | [.int i, .int j] => some (.d (.int (if j < i then j else i)))
  | [.lst xs] => (match intsOf xs with
    | some (n :: ns) => some (.d (.int (minL (n :: ns))))
    | _ => none)
  | _ => none
def fSum : List D → Option R := fun as => match as with
  | [.lst xs] => (intsOf xs).map fun ns => .d (.int ns.sum)
  | _ => none
def fAll : List D → Option R := fun as => match as with
  | [.lst xs] => (blsOf xs).map fun ns => .d (.bl (ns.all id))
  | _ => none
def fAny : List D → Option R := fun as => match as with
  | [.lst xs] => (blsOf xs).map fun ns => .d (.bl (ns.any id))
  | _ => none
def fInt : List D → Option R := fun as => match as with
  | [.int i] => some (.d (.int i))
  | [.bl k] => some (.d (.int (if k then 1 else 0)))
  | _ => none
def fStr : List D → Option R := fun as => match as with
  | [.int i] => if i.natAbs.log2 < 1920 then some (.d (.str (toString i))) else none
  | _ => none
def fList : List D → Option R := fun as => match as with
  | [.tup xs] => some (.l xs)
  | [.lst xs] => some (.l xs)
  | [.scr ns] => some (.l (ns.map D.int))
  | _ => none
def fTuple : List D → Option R := fun as => match as with
  | [.tup xs] => some (.t xs)
  | [.lst xs] => some (.t xs)
  | _ => none
section
variable {K : PySem.W.Frag}
def rLenAll (K : PySem.W.Frag) : List V → Hp → VK → Prop := fun xs H Q => (∃ p ys, xs = [.ref p] ∧ (SqL K H p ys ∨ SqT K H p ys) ∧ Q (.int ys.length) H) ∨ ∃ z, xs = [.str z] ∧ z.length ≤ sizeLine ∧ Q (.int z.length) H
theorem lenAll {X : Cx} : CallR X (.builtin "len") (rLenAll X.K) := call_len_seq.or call_len_str
theorem p1 {P : V → D → Prop} {xs : List V} {a : D} (h : Paired P xs [a]) : ∃ x, xs = [x] ∧ P x a := by
  cases h with
  | cons r t => cases t; exact ⟨_, rfl, r⟩
theorem p2 {P : V → D → Prop} {xs : List V} {a b : D} (h : Paired P xs [a, b]) : ∃ x y, xs = [x, y] ∧ P x a ∧ P y b := by
  cases h with
  | cons r t =>
    obtain ⟨y, rfl, q⟩ := p1 t
    exact ⟨_, _, rfl, r, q⟩
theorem opn_len : OpN K (rLenAll K) fLen := by
  intro F H xs as Q s hp h
  unfold fLen at h
  split at h
  · obtain ⟨x, rfl, r⟩ := p1 hp
    obtain ⟨a, vs, rfl, h1, h2⟩ := r.tup s
    exact .inl ⟨a, vs, rfl, .inr h1, by rw [h2.length]; exact h _ (.int _)⟩
  · obtain ⟨x, rfl, r⟩ := p1 hp
    obtain ⟨a, vs, rfl, h1, h2⟩ := r.lst s
    exact .inl ⟨a, vs, rfl, .inl (SqL.of h1), by rw [h2.length]; exact h _ (.int _)⟩
  · obtain ⟨x, rfl, r⟩ := p1 hp
    obtain ⟨a, rfl, h1⟩ := r.scr s
    exact .inl ⟨a, _, rfl, .inl h1, by rw [List.length_map]; exact h _ (.int _)⟩
  · rename_i z
    obtain ⟨x, rfl, r⟩ := p1 hp
    by_cases hl : z.length ≤ lim
    · rw [if_pos hl] at h
      exact .inr ⟨z, by rw [r.str], limLe hl, h _ (.int _)⟩
    · rw [if_neg hl] at h; exact h.elim
  · exact h.elim
def rMaxAll (K : PySem.W.Frag) : List V → Hp → VK → Prop := fun xs H Q => (∃ i j, xs = [.int i, .int j] ∧ Q (.int (if j > i then j else i)) H) ∨ rMax K xs H Q
def rMinAll (K : PySem.W.Frag) : List V → Hp → VK → Prop := fun xs H Q => (∃ i j, xs = [.int i, .int j] ∧ Q (.int (if j < i then j else i)) H) ∨ rMin K xs H Q
theorem maxAll {X : Cx} (hc : X.calm = true) : CallR X (.builtin "max") (rMaxAll X.K) := (call_max2 hc).or (cr_max hc)
theorem minAll {X : Cx} (hc : X.calm = true) : CallR X (.builtin "min") (rMinAll X.K) := (call_min2 hc).or (cr_min hc)
theorem opn_max : OpN K (rMaxAll K) fMax := by
  intro F H xs as Q s hp h
  unfold fMax at h
  split at h
  · obtain ⟨x, y, rfl, r1, r2⟩ := p2 hp
    exact .inl ⟨_, _, by rw [r1.int, r2.int], h _ (.int _)⟩
  · rename_i ds
    obtain ⟨x, rfl, r⟩ := p1 hp
    obtain ⟨a, vs, rfl, h1, h2⟩ := r.lst s
    split at h
    · rename_i n ns e
      have q := da_ints h2 e
      subst q
      refine .inr ⟨a, n :: ns, rfl, SqL.of h1, Nat.succ_pos _, fun m hm hy => ?_⟩
      obtain ⟨g1, g2⟩ := maxL_is (ns := n :: ns) (by intro e; cases e)
      have em : m = maxL (n :: ns) := Int.le_antisymm (g2 m hm) (hy _ g1)
      rw [em]
      exact h _ (.int _)
    · exact h.elim
  · exact h.elim
theorem opn_min : OpN K (rMinAll K) fMin := by
  intro F H xs as Q s hp h
  unfold fMin at h
  split at h
  · obtain ⟨x, y, rfl, r1, r2⟩ := p2 hp
    exact .inl ⟨_, _, by rw [r1.int, r2.int], h _ (.int _)⟩
  · rename_i ds
    obtain ⟨x, rfl, r⟩ := p1 hp
    obtain ⟨a, vs, rfl, h1, h2⟩ := r.lst s
    split at h
    · rename_i n ns e
      have q := da_ints h2 e
      subst q
      refine .inr ⟨a, n :: ns, rfl, SqL.of h1, Nat.succ_pos _, fun m hm hy => ?_⟩
      obtain ⟨g1, g2⟩ := minL_is (ns := n :: ns) (by intro e; cases e)
      have em : m = minL (n :: ns) := Int.le_antisymm (hy _ g1) (g2 m hm)
      rw [em]
      exact h _ (.int _)
    · exact h.elim
  · exact h.elim
theorem opn_sum : OpN K (rSum K) fSum := by
  intro F H xs as Q s hp h
  unfold fSum at h
  split at h
  · rename_i ds
    obtain ⟨x, rfl, r⟩ := p1 hp
    obtain ⟨a, vs, rfl, h1, h2⟩ := r.lst s
    cases e : intsOf ds with
    | none => rw [e] at h; exact h.elim
    | some ns =>
      rw [e] at h
      have q := da_ints h2 e
      subst q
      exact ⟨a, ns, rfl, SqL.of h1, h _ (.int _)⟩
  · exact h.elim
theorem opn_all : OpN K (rAll K) fAll := by
  intro F H xs as Q s hp h
  unfold fAll at h
  split at h
  · rename_i ds
    obtain ⟨x, rfl, r⟩ := p1 hp
    obtain ⟨a, vs, rfl, h1, h2⟩ := r.lst s
    cases e : blsOf ds with
    | none => rw [e] at h; exact h.elim
    | some ns =>
      rw [e] at h
      have q := da_bls h2 e
      subst q
      exact ⟨a, ns, rfl, SqL.of h1, h _ (.bl _)⟩
  · exact h.elim
theorem opn_any : OpN K (rAny K) fAny := by
  intro F H xs as Q s hp h
  unfold fAny at h
  split at h
  · rename_i ds
    obtain ⟨x, rfl, r⟩ := p1 hp
    obtain ⟨a, vs, rfl, h1, h2⟩ := r.lst s
    cases e : blsOf ds with
    | none => rw [e] at h; exact h.elim
    | some ns =>
      rw [e] at h
      have q := da_bls h2 e
      subst q
      exact ⟨a, ns, rfl, SqL.of h1, h _ (.bl _)⟩
  · exact h.elim
def rInt1 : List V → Hp → VK → Prop := fun xs H Q => (∃ i, xs = [.int i] ∧ Q (.int i) H) ∨ ∃ k, xs = [.bl k] ∧ Q (.int (if k then 1 else 0)) H
theorem opn_int : OpN K rInt1 fInt := by
  intro F H xs as Q s hp h
  unfold fInt at h
  split at h
  · obtain ⟨x, rfl, r⟩ := p1 hp
    exact .inl ⟨_, by rw [r.int], h _ (.int _)⟩
  · obtain ⟨x, rfl, r⟩ := p1 hp
    exact .inr ⟨_, by rw [r.bl], h _ (.int _)⟩
  · exact h.elim
def rStr1 : List V → Hp → VK → Prop := fun xs H Q => ∃ i, xs = [.int i] ∧ i.natAbs.log2 < 1920 ∧ Q (.str (toString i)) H
theorem opn_str : OpN K rStr1 fStr := by
  intro F H xs as Q s hp h
  unfold fStr at h
  split at h
  · rename_i i
    obtain ⟨x, rfl, r⟩ := p1 hp
    by_cases hl : i.natAbs.log2 < 1920
    · rw [if_pos hl] at h
      exact ⟨i, by rw [r.int], hl, h _ (.str _)⟩
    · rw [if_neg hl] at h; exact h.elim
  · exact h.elim
def rListOf (K : PySem.W.Frag) : List V → Hp → VK → Prop := fun xs H Q => ∃ p ys, xs = [.ref p] ∧ (SqL K H p ys ∨ SqT K H p ys) ∧ ∀ l, H l = none → Q (.ref l) (upd H l (.lst ys))
theorem opn_list : OpN K (rListOf K) fList := by
  intro F H xs as Q s hp h
  unfold fList at h
  split at h
  · obtain ⟨x, rfl, r⟩ := p1 hp
    obtain ⟨a, vs, rfl, h1, h2⟩ := r.tup s
    exact ⟨a, vs, rfl, .inr h1, fun l hl => h l vs hl h2⟩
  · obtain ⟨x, rfl, r⟩ := p1 hp
    obtain ⟨a, vs, rfl, h1, h2⟩ := r.lst s
    exact ⟨a, vs, rfl, .inl (SqL.of h1), fun l hl => h l vs hl h2⟩
  · obtain ⟨x, rfl, r⟩ := p1 hp
    obtain ⟨a, rfl, h1⟩ := r.scr s
    exact ⟨a, _, rfl, .inl h1, fun l hl => h l _ hl (DaAll.ints _)⟩
  · exact h.elim
def rTupleOf (K : PySem.W.Frag) : List V → Hp → VK → Prop := fun xs H Q => ∃ p ys, xs = [.ref p] ∧ ((SqL K H p ys ∧ ∀ l, H l = none → Q (.ref l) (upd H l (.tup ys))) ∨ (SqT K H p ys ∧ Q (.ref p) H))
theorem opn_tuple : OpN K (rTupleOf K) fTuple := by
  intro F H xs as Q s hp h
  unfold fTuple at h
  split at h
  · obtain ⟨x, rfl, r⟩ := p1 hp
    obtain ⟨a, vs, rfl, h1, h2⟩ := r.tup s
    exact ⟨a, vs, rfl, .inr ⟨h1, h.1 _ (r.da (fun _ e => by cases e))⟩⟩
  · obtain ⟨x, rfl, r⟩ := p1 hp
    obtain ⟨a, vs, rfl, h1, h2⟩ := r.lst s
    exact ⟨a, vs, rfl, .inl ⟨SqL.of h1, fun l hl => h.2 l vs hl h2⟩⟩
  · exact h.elim
end
/-! ### isinstance(x, T), T a built-in class -/
def tyD : D → String
  | .non => "NoneType"
  | .bl _ => "bool"
  | .int _ => "int"
  | .str _ => "str"
  | .tup _ => "tuple"
  | .lst _ => "list"
  | .scr _ => "list"
  | .emp => "dict"
  | .exc _ _ => "object"
  | .o _ => "object"
/-- values whose class is a built-in one, by tyD -/
def notScr : D → Bool
  | .scr _ => false
  | .exc _ _ => false
  | .o _ => false
  | _ => true
def dIsi (T : String) : D → Option R := fun a => (kitB (tyD a) T).map fun b => .d (.bl b)
theorem Rv.ty {K : PySem.W.Frag} {F H : Hp} {v : V} {d : D} (s : SameX F H) (h : Rv K F H v d) (hs : notScr d = true) : TyX K H v (.type (tyD d)) := by
  cases d with
  | non => rw [h.non]; exact .base .non
  | bl b => rw [h.bl]; exact .base (.bl b)
  | int i => rw [h.int]; exact .base (.int i)
  | str x => rw [h.str]; exact .base (.str x)
  | tup xs =>
    obtain ⟨a, vs, rfl, h1, h2⟩ := h.tup s
    rcases h1 with (h1 | ⟨o, h1⟩) | ⟨o, its, n, h1, h2, _⟩
    · exact .base (.tup h1)
    · exact .fTuple h1
    · exact .kTuple h1 h2
  | lst xs =>
    obtain ⟨a, vs, rfl, h1, h2⟩ := h.lst s
    exact .base (.lst h1)
  | scr ns => cases hs
  | exc _ _ => cases hs
  | o _ => cases hs
  | emp =>
    obtain ⟨a, rfl, h1⟩ := h.emp s
    exact .base (.dK h1)
end G
namespace G
open PySem L2
section
variable {ι : Type} {M : MI} {xr : Str → Option Value} {K : PySem.W.Frag} {X : ι → Cx} {W : WX} {a b : Expr} {f f' : Sm M S} {pos : Pos}
/-- what every place of a def's text has: its written part, calm, no name twice -/
structure Pl (K : PySem.W.Frag) (X : ι → Cx) (N : List Str) (mg : Str → Option Value) : Prop where
  k : ∀ j, (X j).K = K
  c : ∀ j, (X j).calm = true
  n : ∀ j, (X j).N = N
  nd : N.Nodup
  g : ∀ j, (X j).mg = mg
  u : ∀ j, (X j).A.units + 300 < cLine
variable {N : List Str} {mg : Str → Option Value}
theorem Pl.nds (p : Pl K X N mg) : ∀ j, (X j).N.Nodup := fun j => by rw [p.n j]; exact p.nd
theorem Pl.blk (p : Pl K X N mg) (scope : Scope) : Pl K (Blk X scope) N mg := ⟨fun q => p.k q.1, fun q => p.c q.1, fun q => p.n q.1, p.nd, fun q => p.g q.1, fun q => p.u q.1⟩
theorem de_add (p : Pl K X N mg) (ha : DE M xr K X W a f) (hb : DE M xr K X W b f') : DE M xr K X W (.BinOp a .Add b pos) (eBin dAdd f f') := de_bin (fun j => by rw [← p.k j]; exact opAdd) op2_add ha hb
theorem de_sub (ha : DE M xr K X W a f) (hb : DE M xr K X W b f') : DE M xr K X W (.BinOp a .Sub b pos) (eBin dSub f f') := de_bin (fun j => op_sub) (op2_I0 fun _ _ _ => .int _) ha hb
theorem de_mul (ha : DE M xr K X W a f) (hb : DE M xr K X W b f') : DE M xr K X W (.BinOp a .Mult b pos) (eBin dMul f f') := de_bin (fun j => op_mul) (op2_I (fun i j h => show (-(2 ^ 64) < i ∧ i < 2 ^ 64) ∨ (-(2 ^ 64) < j ∧ j < 2 ^ 64) from of_decide_eq_true h) fun _ _ _ => .int _) ha hb
theorem de_fdiv (ha : DE M xr K X W a f) (hb : DE M xr K X W b f') : DE M xr K X W (.BinOp a .FloorDiv b pos) (eBin dFdiv f f') := de_bin (fun j => op_fdiv) (op2_I (fun i j h => show 0 < j ∧ j < 1073741824 from of_decide_eq_true h) fun _ _ _ => .int _) ha hb
theorem de_mod (ha : DE M xr K X W a f) (hb : DE M xr K X W b f') : DE M xr K X W (.BinOp a .Mod b pos) (eBin dMod f f') := de_bin (fun j => op_mod) (op2_I (fun _ _ h => of_decide_eq_true h) fun _ _ _ => .int _) ha hb
theorem de_pow (ha : DE M xr K X W a f) (hb : DE M xr K X W b f') : DE M xr K X W (.BinOp a .Pow b pos) (eBin dPow f f') := de_bin (fun j => op_pow) (op2_I (fun i j h => show 0 ≤ j ∧ j ≤ 1000000 ∧ i.natAbs < 2 ^ 64 from of_decide_eq_true h) fun _ _ _ => .int _) ha hb
theorem de_shl (ha : DE M xr K X W a f) (hb : DE M xr K X W b f') : DE M xr K X W (.BinOp a .LShift b pos) (eBin dShl f f') := de_bin (fun j => op_shl) (op2_I (fun i j h => show 0 ≤ j ∧ j ≤ 1000000 ∧ i.natAbs < 2 ^ 64 from of_decide_eq_true h) fun _ _ _ => .int _) ha hb
theorem de_shr (ha : DE M xr K X W a f) (hb : DE M xr K X W b f') : DE M xr K X W (.BinOp a .RShift b pos) (eBin dShr f f') := de_bin (fun j => op_shr) (op2_I (fun _ _ h => of_decide_eq_true h) fun _ _ _ => .int _) ha hb
theorem op1_neg : Op1 K (rU fun i => .int (-i)) dNeg := by
  intro F H x a Q s ha h
  cases a with
  | int i => exact ⟨i, ha.int, h _ (.int _)⟩
  | _ => exact h.elim
theorem de_neg (ha : DE M xr K X W a f) : DE M xr K X W (.UnaryOp .USub a pos) (eUn dNeg f) := de_un (fun j => un_neg) op1_neg ha
/-- comparisons: a relation by its operator, with what it computes -/
inductive Cp (K : PySem.W.Frag) (X : ι → Cx) : CmpOp → (D → D → Option R) → Prop
  | mk {op : CmpOp} {g : D → D → Option R} (r : R2) (ho : ∀ j, OpR (X j) (compareOp op) r) (hd : Op2 K r g) : Cp K X op g
theorem Cp.de {op : CmpOp} {g : D → D → Option R} (c : Cp K X op g) (ha : DE M xr K X W a f) (hb : DE M xr K X W b f') (hm : behindInMarks op b = false) : DE M xr K X W (.Compare a [op] [b] pos) (eBin g f f') := by
  cases c with
  | mk r ho hd => exact de_cmp ho hd ha hb hm
theorem Cp.dt {op : CmpOp} {g : D → D → Option R} (c : Cp K X op g) (ha : DE M xr K X W a f) (hb : DE M xr K X W b f') (hm : behindInMarks op b = false) : DT M xr K X W (.Compare a [op] [b] pos) (tOf (eBin g f f')) := by
  cases c with
  | mk r ho hd => exact dt_cmp ho hd ha hb hm
theorem cp_lt : Cp K X .Lt dLt := ⟨_, fun j => op_lt, op2_I0 fun _ _ _ => .bl _⟩
theorem cp_le : Cp K X .LtE dLe := ⟨_, fun j => op_le, op2_I0 fun _ _ _ => .bl _⟩
theorem cp_gt : Cp K X .Gt dGt := ⟨_, fun j => op_gt, op2_I0 fun _ _ _ => .bl _⟩
theorem cp_ge : Cp K X .GtE dGe := ⟨_, fun j => op_ge, op2_I0 fun _ _ _ => .bl _⟩
theorem cp_eq (p : Pl K X N mg) : Cp K X .Eq dEq := ⟨rEqW K, fun j => by rw [← p.k j]; exact op_eqW (p.u j), op2_eq⟩
theorem cp_ne (p : Pl K X N mg) : Cp K X .NotEq dNe := ⟨rNeW K, fun j => by rw [← p.k j]; exact op_neW (p.u j), op2_ne⟩
theorem cp_is : Cp K X .Is dIs := ⟨_, fun j => opIs, op2_is⟩
theorem cp_isNot : Cp K X .IsNot dIsNot := ⟨_, fun j => opIsNot, op2_isNot⟩
theorem cp_in (p : Pl K X N mg) : Cp K X .In dIn := ⟨rInAll K, fun j => by rw [← p.k j]; exact opIn, op2_in⟩
theorem cp_notIn (p : Pl K X N mg) : Cp K X .NotIn dNotIn := ⟨rNotInAll K, fun j => by rw [← p.k j]; exact opNotIn, op2_notIn⟩
/-- a < b < c -/
def eChain (g g' : D → D → Option R) (f f' f'' : Sm M S) : Sm M S := fun z => (opd f z).bind fun s z1 => (opd f' z1).bind fun s' z2 => (fin ((rd z2 s).bind fun x => (rd z2 s').bind fun y => g x y) z2).bind fun r z3 => match r with
  | .d (.bl true) => (opd f'' z3).bind fun s'' z4 => fin ((rd z4 s').bind fun x => (rd z4 s'').bind fun y => g' x y) z4
  | .d (.bl false) => .ok (.d (.bl false)) z3
  | _ => .bad
theorem de_ixA (p : Pl K X N mg) (ha : DE M xr K X W a f) (hb : DE M xr K X W b f') (hs : PlainIx b := by exact fun _ _ => rfl) : DE M xr K X W (.Subscript a b pos) (eBin dIx f f') := de_ix (fun j => by rw [← p.k j]; exact ix_seq) op2_ix ha hb hs
theorem de_sl {lo hi : Option Expr} {fl fh : Sm M (Option Int)} {p2 : Pos} (p : Pl K X N mg) (h : DE M xr K X W a f) (hl : DO M xr K X W lo fl) (hh : DO M xr K X W hi fh) : DE M xr K X W (.Subscript a (.Slice lo hi none p2) pos) (eSl dSl f fl fh) := de_slice (fun j => by rw [← p.k j]; exact slAll) ops_sl h hl hh
/-! built-in functions by name: x is not the text's own -/
inductive Fb (K : PySem.W.Frag) (X : ι → Cx) : Str → (List D → Option R) → Prop
  | fn {x : Str} {g : List D → Option R} (id : String) (r : List V → Hp → VK → Prop) (hc : ∀ j, CallR (X j) (.builtin id) r) (hd : OpN K r g) (hv : bootBuiltins x = some (.builtin id)) (hn : x ≠ "__name__") (hb : (x == ("__debug__" : Str)) = false) : Fb K X x g
  | ty {x : Str} {g : List D → Option R} (T : String) (r : List V → Hp → VK → Prop) (hc : ∀ j, CallR (X j) (.type T) r) (hd : OpN K r g) (hv : bootBuiltins x = some (.type T)) (hn : x ≠ "__name__") (hb : (x == ("__debug__" : Str)) = false) : Fb K X x g
theorem Fb.de {x : Str} {g : List D → Option R} (c : Fb K X x g) {e : Expr} {es : List Expr} {h : Sm M (List S)} {pp : Pos} (p : Pl K X N mg) (hm : mg x = none) (ha : DA M xr K X W (e :: es) h) (hg : ∀ j, Gl (X j) x := by intro _; rfl)
    (he : ∀ j, starEach (e :: es) (X j).env = (false, eval e (X j).env) :: starEach es (X j).env := by intro _; rfl) (hpl : ∀ j, (backTo pos (starEach es (X j).env)).any (·.1) = false := by intro _; rfl) : DE M xr K X W (.Call (.Name x pp) (e :: es) [] pos) (eFn g h) := by
  cases c with
  | fn id r hc hd hv hn hb => exact de_callB hc hd hg (fun j => by rw [p.g j]; exact hm) hv ha hn hb he hpl
  | ty T r hc hd hv hn hb => exact de_callTy hc hd hg (fun j => by rw [p.g j]; exact hm) hv ha hn hb he hpl
theorem fb_len (p : Pl K X N mg) : Fb K X "len" fLen := .fn "len" (rLenAll K) (fun j => by rw [← p.k j]; exact lenAll) opn_len boot_len (by decide) (by decide)
theorem fb_max (p : Pl K X N mg) : Fb K X "max" fMax := .fn "max" (rMaxAll K) (fun j => by rw [← p.k j]; exact maxAll (p.c j)) opn_max PyProof.Rows.boot_max (by decide) (by decide)
theorem fb_min (p : Pl K X N mg) : Fb K X "min" fMin := .fn "min" (rMinAll K) (fun j => by rw [← p.k j]; exact minAll (p.c j)) opn_min PyProof.Rows.boot_min (by decide) (by decide)
theorem fb_sum (p : Pl K X N mg) : Fb K X "sum" fSum := .fn "sum" (rSum K) (fun j => by rw [← p.k j]; exact cr_sum (p.c j)) opn_sum PyProof.Rows.boot_sum (by decide) (by decide)
theorem fb_all (p : Pl K X N mg) : Fb K X "all" fAll := .fn "all" (rAll K) (fun j => by rw [← p.k j]; exact cr_all (p.c j)) opn_all PyProof.Rows.boot_all (by decide) (by decide)
theorem fb_any (p : Pl K X N mg) : Fb K X "any" fAny := .fn "any" (rAny K) (fun j => by rw [← p.k j]; exact cr_any (p.c j)) opn_any PyProof.Rows.boot_any (by decide) (by decide)
theorem fb_int : Fb K X "int" fInt := .ty "int" rInt1 (fun j => call_int1) opn_int PyProof.Rows.boot_int (by decide) (by decide)
theorem fb_str : Fb K X "str" fStr := .ty "str" rStr1 (fun j => call_str_int) opn_str PyProof.Rows.boot_str (by decide) (by decide)
theorem fb_list (p : Pl K X N mg) : Fb K X "list" fList := .ty "list" (rListOf K) (fun j => by rw [← p.k j]; exact call_list_of) opn_list PyProof.Rows.boot_list (by decide) (by decide)
theorem fb_tuple (p : Pl K X N mg) : Fb K X "tuple" fTuple := .ty "tuple" (rTupleOf K) (fun j => by rw [← p.k j]; exact call_tuple_of) opn_tuple PyProof.Rows.boot_tuple (by decide) (by decide)
/-- isinstance(e, T) -/
def dIsiN (T : String) : D → Option R := fun x => if notScr x = true then dIsi T x else none
theorem de_isi {T : Str} {t : String} {e : Expr} {pp pt : Pos} {g : Sm M S} (p : Pl K X N mg) (hm : mg "isinstance" = none) (hmT : mg T = none) (hvT : bootBuiltins T = some (.type t)) (h : DE M xr K X W e g) (hg : ∀ j, Gl (X j) "isinstance" := by intro _; rfl) (hgT : ∀ j, Gl (X j) T := by intro _; rfl) (hnT : T ≠ "__name__" := by decide) (hbT : (T == ("__debug__" : Str)) = false := by decide)
    (he : ∀ j, starEach [e, .Name T pt] (X j).env = (false, eval e (X j).env) :: starEach [.Name T pt] (X j).env := by intro _; rfl) (he2 : ∀ j, starEach [.Name T pt] (X j).env = (false, eval (.Name T pt) (X j).env) :: starEach [] (X j).env := by intro _; rfl) (hpl : ∀ j, (backTo pos (starEach [.Name T pt] (X j).env)).any (·.1) = false := by intro _; rfl) :
    DE M xr K X W (.Call (.Name "isinstance" pp) [e, .Name T pt] [] pos) (eUn (dIsiN t) g) := by
  obtain ⟨tt, pe, c⟩ := h
  refine ⟨tCB (rIsi K) (tCons tt (tCons (tC (.ty t)) tNil)), fun j => ?_, fun G σ H F z Q hK hx ok hh => ?_⟩
  · rw [← p.k j]
    exact pe_callB call_isi (hg j) (by rw [p.g j]; exact hm) PyProof.Rows.boot_isinstance (pa_cons (pe j) (pa_cons (pe_bltn (v := .ty t) (hgT j) (by rw [p.g j]; exact hmT) hvT rfl hnT hbT) pa_nil (he2 j)) (he j)) (by decide) (by decide) (he j) (hpl j)
  · refine cmp_opd c G σ H F z _ hK hx ok (hit_bind hh fun s z1 v H1 F1 _ sm1 ok1 e1 h1 => ?_)
    have q := fin_hit ok1 h1
    cases er : rd z1 s with
    | none => rw [er] at q; exact q.elim
    | some x =>
      rw [er] at q
      have q' : Hit0 G.K F1 H1 (dIsiN t x) Q := q
      unfold dIsiN at q'
      by_cases hn : notScr x = true
      · rw [if_pos hn] at q'
        unfold dIsi at q'
        cases ek : kitB (tyD x) t with
        | none => rw [ek] at q'; exact q'.elim
        | some b =>
          rw [ek] at q'
          have ty := (EO.rv ok1 e1 er).ty ok1.sub hn
          exact ⟨v, .ty t, .type (tyD x), .type t, b, rfl, .ty t, by rw [← hK]; exact ty, kit_ty ek, q' _ (.bl b)⟩
      · rw [if_neg hn] at q'; exact q'.elim
/-! ### truth of a value -/
def dTru : D → Option Bool := fun a => match a with
  | .non => some false
  | .bl b => some b
  | .int i => some (i != 0)
  | .str z => if z.length ≤ lim then some ((z.length : Int) != 0) else none
  | .tup xs => some (!xs.isEmpty)
  | .lst xs => some (!xs.isEmpty)
  | .scr xs => some (!xs.isEmpty)
  | .emp => none
  | .exc _ _ => none
  | .o _ => none
theorem da_empty {K : PySem.W.Frag} {F : Hp} {vs : List V} {ds : List D} (h : DaAll K F vs ds) : (!vs.isEmpty) = !ds.isEmpty := by
  cases h <;> rfl
theorem tru_rv {F H : Hp} {v : V} {d : D} {k : Bool} (s : SameX F H) (h : Rv K F H v d) (e : dTru d = some k) : TruV K v H k := by
  cases d with
  | non => cases e; rw [h.non]; rfl
  | bl b => cases e; rw [h.bl]; rfl
  | int i => cases e; rw [h.int]; rfl
  | str z =>
    unfold dTru at e
    by_cases hl : z.length ≤ lim
    · simp only [if_pos hl] at e
      cases e
      rw [h.str]
      exact ⟨limLe hl, rfl⟩
    · simp only [if_neg hl] at e
      cases e
  | tup xs =>
    cases e
    obtain ⟨a, vs, rfl, h1, h2⟩ := h.tup s
    exact .inr (.inl ⟨vs, h1, (da_empty h2).symm⟩)
  | lst xs =>
    cases e
    obtain ⟨a, vs, rfl, h1, h2⟩ := h.lst s
    exact .inl ⟨vs, SqL.of h1, (da_empty h2).symm⟩
  | scr xs =>
    cases e
    obtain ⟨a, rfl, h1⟩ := h.scr s
    exact .inl ⟨_, h1, by cases xs <;> rfl⟩
  | emp => cases e
  | exc _ _ => cases e
  | o _ => cases e
theorem dt_tru {e : Expr} {g : Sm M S} (p : Pl K X N mg) (h : DE M xr K X W e g) (he : ∀ j whole, isTrue e (X j).env whole = (do let v ← whole; standAt e.pos; holding [v] (truthy v)) := by intro _ _; rfl) : DT M xr K X W e (tTru dTru g) := by
  obtain ⟨t, pe, c⟩ := h
  refine ⟨fun σ H Q => t σ H fun x H1 => ∃ k, TruV K x H1 k ∧ Q k H1, fun j => ?_, fun G σ H F z Q hK hx ok hh => ?_⟩
  · rw [← p.k j]
    exact pt_truth (pe j) (he j)
  · refine cmp_opd c G σ H F z _ hK hx ok (hit_bind hh fun s z1 v H1 F1 _ sm1 ok1 e1 h1 => ?_)
    cases er : rd z1 s with
    | none => rw [er] at h1; exact h1.elim
    | some x =>
      rw [er] at h1
      have h2 : HitG M G W σ F1 (RelB G σ) (Rs.opt (dTru x) z1) Q := h1
      cases ek : dTru x with
      | none => rw [ek] at h2; exact h2.elim
      | some k =>
        rw [ek] at h2
        exact ⟨k, by rw [← hK]; exact tru_rv ok1.sub (EO.rv ok1 e1 er) ek, h2 k H1 F1 (Same.refl _) ok1 rfl⟩
/-! ### what is walked -/
def iAny (K : PySem.W.Frag) (tl : TE) : TI := fun σ H R => tl σ H fun x H1 => (∃ a, x = .ref a ∧ (∃ xs, SqL K H1 a xs) ∧ R (Itl K a) H1) ∨ (∃ a, x = .ref a ∧ (∃ xs, SqT K H1 a xs) ∧ R (Itt K a) H1) ∨ ∃ y, x = .str y ∧ R (Its y) H1
theorem pi_any {Y : Cx} {tg l : Expr} {tl : TE} (hl : PE Y l tl) : PI Y tg l (iAny Y.K tl) := by
  refine ⟨fun pins s σ H R I h => ?_⟩
  refine thn (hl.run pins s σ H _ I h) fun v s1 ⟨x, H1, I1, r1, q1⟩ => ?_
  rcases q1 with ⟨a, rfl, ⟨xs, hq⟩, q⟩ | ⟨a, rfl, ⟨xs, hq⟩, q⟩ | ⟨y, rfl, q⟩
  · cases r1
    obtain ⟨its, rv, p, hz⟩ := I1.list hq
    exact wpAny_pyIter_list p.isList (pi_one (tk := s1.toks) I1 _ (turn_list a _) ⟨_, Heap.get?_push_size _ rfl, rfl, rfl⟩ q)
  · cases r1
    obtain ⟨its, rv, p, hz⟩ := I1.tuple hq
    exact wpAny_pyIter_tuple (show s1.heap.IsTuple a its.toArray from p) (pi_one (tk := s1.toks) I1 _ (turn_tuple a _) ⟨_, Heap.get?_push_size _ rfl, rfl, rfl⟩ q)
  · obtain ⟨t, rfl⟩ := r1
    cases ha : y.cps.all (· < 128)
    · exact wpAny_pyIter_wide ha (pi_one (tk := s1.toks) I1 _ (turn_str _ y t "str_iterator" (.inr rfl)) ⟨_, Heap.get?_push_size _ rfl, rfl, rfl⟩ q)
    · exact wpAny_pyIter_ascii ha (pi_one (tk := s1.toks) I1 _ (turn_str _ y t "str_ascii_iterator" (.inl rfl)) ⟨_, Heap.get?_push_size _ rfl, rfl, rfl⟩ q)
def itemsD : D → Option (List D)
  | .lst xs => some xs
  | .tup xs => some xs
  | .scr ns => some (ns.map D.int)
  | .str z => some (z.cps.toList.map fun c => .str ⟨#[c]⟩)
  | _ => none
def iAnyM (f : Sm M S) : Sm M (List D) := fun z => (escf f z).bind fun s z1 => match s with
  | .d x => Rs.opt (itemsD x) z1
  | _ => .bad
theorem yd_old {F : Hp} {ds : List D} {i : Nat} {H : Hp} {v : V} {d : D} (hd : ds[i]? = some d) (da : Da K F v d) : YD K F ds i H v H := ⟨d, hd, fun F1 s1 s2 _ => ⟨F1, Same.refl _, s2, fun b o e => ⟨e, rfl⟩, fun _ _ e => e, da.mono s1⟩⟩
theorem di_any {tg l : Expr} {g : Sm M S} (p : Pl K X N mg) (h : DE M xr K X W l g) : DI M xr K X W tg l (iAnyM g) := by
  obtain ⟨t, pe, c⟩ := h
  refine ⟨iAny K t, fun j => by rw [← p.k j]; exact pi_any (pe j), fun G σ H F z Q hK hx ok hh => ?_⟩
  refine cmp_esc c G σ H F z _ hK hx ok (hit_bind hh fun s z1 v H1 F1 _ sm ok1 ev h1 => ?_)
  subst hK
  cases s with
  | d x =>
    have ev' : Da G.K F1 v x := ev
    cases x with
    | lst xs =>
      cases ev' with
      | lst q r =>
        rename_i a vs
        refine .inl ⟨a, rfl, ⟨vs, SqL.of (ok1.sub.lst q)⟩, h1 _ H1 F1 (Same.refl _) ok1 ?_⟩
        have w := (walk_list (K := G.K) (a := a) (xs := vs)).mono (G' := fun H => SameX F1 H) (Y' := YD G.K F1 xs) (fun H s => SqL.of (s.lst q)) (fun i H x H' hi _ ⟨e1, e2⟩ => by
          obtain ⟨d, hd, da⟩ := r.getV e2
          rw [e1]
          exact yd_old hd da)
        rw [r.length] at w
        exact w
    | tup xs =>
      cases ev' with
      | tup q r =>
        rename_i a vs
        refine .inr (.inl ⟨a, rfl, ⟨vs, ok1.sub.tup q⟩, h1 _ H1 F1 (Same.refl _) ok1 ?_⟩)
        have w := (walk_tup (K := G.K) (a := a) (xs := vs)).mono (G' := fun H => SameX F1 H) (Y' := YD G.K F1 xs) (fun H s => s.tup q) (fun i H x H' hi _ ⟨e1, e2⟩ => by
          obtain ⟨d, hd, da⟩ := r.getV e2
          rw [e1]
          exact yd_old hd da)
        rw [r.length] at w
        exact w
    | scr ns =>
      cases ev' with
      | scr q =>
        rename_i a
        refine .inl ⟨a, rfl, ⟨_, ok1.sub.seq q⟩, h1 _ H1 F1 (Same.refl _) ok1 ?_⟩
        have w := (walk_list (K := G.K) (a := a) (xs := ns.map V.int)).mono (G' := fun H => SameX F1 H) (Y' := YD G.K F1 (ns.map D.int)) (fun H s => s.seq q) (fun i H x H' hi _ ⟨e1, e2⟩ => by
          obtain ⟨d, hd, da⟩ := (DaAll.ints (K := G.K) (F := F1) ns).getV e2
          rw [e1]
          exact yd_old hd da)
        rw [List.length_map] at w
        show Walk _ (ns.map D.int).length _ _
        rw [List.length_map]
        exact w
    | str y =>
      cases ev'
      refine .inr (.inr ⟨y, rfl, h1 _ H1 F1 (Same.refl _) ok1 ?_⟩)
      have w := (walk_str (z := y)).mono (G' := fun H => SameX F1 H) (Y' := YD G.K F1 (y.cps.toList.map fun c => D.str ⟨#[c]⟩)) (fun H s => trivial) (fun i H x H' hi _ ⟨e1, c, e2, e3⟩ => by
        rw [e1, e3]
        exact yd_old (by rw [List.getElem?_map, Array.getElem?_toList, e2]; rfl) (.str _))
      show Walk _ (y.cps.toList.map fun c => D.str ⟨#[c]⟩).length _ _
      rw [List.length_map, Array.length_toList]
      exact w
    | _ => exact h1.elim
  | _ => exact h1.elim
def rangeD (lo : Int) (n : Nat) : List D := (List.range n).map fun (i : Nat) => D.int (lo + (i : Int))
def iRg1M (g : Sm M (List S)) : Sm M (List D) := fun z => (g z).bind fun ss z1 => match ss with
  | [.d (.int j)] => if -(2 ^ 62) ≤ j ∧ j < 2 ^ 62 then .ok (rangeD 0 j.toNat) z1 else .bad
  | _ => .bad
theorem wk_range {F : Hp} (lo : Int) (n : Nat) : Wk K F (Itr lo n) (rangeD lo n) := by
  have w := (walk_range (lo := lo) (n := n)).mono (G' := fun H => SameX F H) (Y' := YD K F (rangeD lo n)) (fun H s => trivial) (fun i H x H' hi _ ⟨e1, e2⟩ => by
    rw [e1, e2]
    refine yd_old (d := .int (lo + (i : Int))) ?_ (.int _)
    unfold rangeD
    rw [List.getElem?_map, List.getElem?_range hi]
    rfl)
  unfold Wk
  have e : (rangeD lo n).length = n := by
    unfold rangeD
    rw [List.length_map, List.length_range]
  rw [e]
  exact w
theorem di_range1 {tg e : Expr} {g : Sm M (List S)} {pp : Pos} (p : Pl K X N mg) (hm : mg "range" = none) (ha : DA M xr K X W [e] g) (hg : ∀ j, Gl (X j) "range" := by intro _; rfl) (hs : ∀ j, starEach [e] (X j).env = [(false, eval e (X j).env)] := by intro _; rfl) : DI M xr K X W tg (.Call (.Name "range" pp) [e] [] pos) (iRg1M g) := by
  obtain ⟨t, pa, c⟩ := ha
  refine ⟨_, fun j => pi_range1 (hg j) (by rw [p.g j]; exact hm) (pa j) (hs j), fun G σ H F z Q hK hx ok hh => ?_⟩
  refine c G σ H F z _ hK hx ok (hit_bind hh fun ss z1 vs H1 F1 _ sm ok1 ea h1 => ?_)
  unfold RelA at ea
  match ss, ea, h1 with
  | [.d (.int j)], ea, h1 =>
    by_cases hj : -(2 ^ 62) ≤ j ∧ j < 2 ^ 62
    · simp only [if_pos hj] at h1
      cases ea with
      | cons r t =>
        cases t
        cases (show Da G.K F1 _ (.int j) from r)
        exact ⟨j, rfl, hj.1, hj.2, h1 _ H1 F1 (Same.refl _) ok1 (wk_range 0 j.toNat)⟩
    · simp only [if_neg hj] at h1
      exact h1.elim
  | [], _, h1 => exact h1.elim
  | [.l _], _, h1 => exact h1.elim
  | [.v _], _, h1 => exact h1.elim
  | [.m _], _, h1 => exact h1.elim
  | [.d .non], _, h1 => exact h1.elim
  | [.d (.bl _)], _, h1 => exact h1.elim
  | [.d (.str _)], _, h1 => exact h1.elim
  | [.d (.tup _)], _, h1 => exact h1.elim
  | [.d (.lst _)], _, h1 => exact h1.elim
  | [.d (.scr _)], _, h1 => exact h1.elim
  | [.d .emp], _, h1 => exact h1.elim
  | [.d (.exc _ _)], _, h1 => exact h1.elim
  | [.d (.o _)], _, h1 => exact h1.elim
  | .d (.int _) :: _ :: _, _, h1 => exact h1.elim
  | .d .non :: _ :: _, _, h1 => exact h1.elim
  | .d (.bl _) :: _ :: _, _, h1 => exact h1.elim
  | .d (.str _) :: _ :: _, _, h1 => exact h1.elim
  | .d (.tup _) :: _ :: _, _, h1 => exact h1.elim
  | .d (.lst _) :: _ :: _, _, h1 => exact h1.elim
  | .d (.scr _) :: _ :: _, _, h1 => exact h1.elim
  | .d .emp :: _ :: _, _, h1 => exact h1.elim
  | .d (.exc _ _) :: _ :: _, _, h1 => exact h1.elim
  | .d (.o _) :: _ :: _, _, h1 => exact h1.elim
  | .l _ :: _ :: _, _, h1 => exact h1.elim
  | .v _ :: _ :: _, _, h1 => exact h1.elim
  | .m _ :: _ :: _, _, h1 => exact h1.elim
end
end G
namespace G
open PySem L2
/-! ### the law's drawing machine: a dict with cells, at, left -/
structure Mach where
  cells : List Int
  at_ : Nat
  left : List Int
def mkvs (c lf : Addr) (k : Int) : List (Key × V) := [(Sum.inr ("cells" : Str), .ref c), (Sum.inr ("at" : Str), .int k), (Sum.inr ("left" : Str), .ref lf)]
theorem k_ca : ¬ ((Sum.inr ("cells" : Str) : Key) = Sum.inr ("at" : Str)) := by decide +kernel
theorem k_cl : ¬ ((Sum.inr ("cells" : Str) : Key) = Sum.inr ("left" : Str)) := by decide +kernel
theorem k_al : ¬ ((Sum.inr ("at" : Str) : Key) = Sum.inr ("left" : Str)) := by decide +kernel
theorem k_la : ¬ ((Sum.inr ("left" : Str) : Key) = Sum.inr ("at" : Str)) := by decide +kernel
theorem mk_at (c lf : Addr) (k : Int) : valV (mkvs c lf k) (Sum.inr ("at" : Str)) = some (.int k) := by
  unfold mkvs
  rw [valV_neg k_ca, valV_pos rfl]
theorem mk_cells (c lf : Addr) (k : Int) : valV (mkvs c lf k) (Sum.inr ("cells" : Str)) = some (.ref c) := by
  unfold mkvs
  rw [valV_pos rfl]
theorem mk_left (c lf : Addr) (k : Int) : valV (mkvs c lf k) (Sum.inr ("left" : Str)) = some (.ref lf) := by
  unfold mkvs
  rw [valV_neg k_cl, valV_neg k_al, valV_pos rfl]
theorem mk_put (c lf : Addr) (k j : Int) : putK (mkvs c lf k) (Sum.inr ("at" : Str)) (.int j) = mkvs c lf j := by
  unfold putK mkvs
  rw [if_pos (by simp)]
  simp only [List.map_cons, List.map_nil, if_neg k_ca, if_neg k_la, if_true]
theorem freeX {F H : Hp} (s : SameX F H) (t : ∀ a ps, F a = some (.tbl ps) → H a ≠ none) {p : Addr} (h : H p = none) : F p = none := by
  cases q : F p with
  | none => rfl
  | some o =>
    by_cases n : ∃ ps, o = .tbl ps
    · obtain ⟨ps, rfl⟩ := n
      exact (t p ps q h).elim
    · have := s p o q (fun ps e => n ⟨ps, e⟩)
      rw [h] at this
      cases this
theorem tgOn {F H H' : Hp} (t : ∀ a ps, F a = some (.tbl ps) → H a ≠ none) (k : ∀ b o ps, F b = some (.tbl ps) → H b = some o → H' b = some o) : ∀ a ps, F a = some (.tbl ps) → H' a ≠ none := fun a ps e => by
  cases q : H a with
  | none => exact (t a ps e q).elim
  | some o => rw [k a o ps e q]; intro z; cases z
def noMark (F : Hp) : Prop := ∀ a ps, F a ≠ some (.tbl ps)
/-- tables of code objects, all of one name each -/
def TbsOk (T : List (Addr × Str)) (F H : Hp) : Prop := ∀ p ∈ T, ∃ ps : Array Value, H p.1 = some (.tbl ps) ∧ TriplesOk ps.toList ∧ ∀ (pos : Pos) (cv : Value), codeAmong pos ps.toList = some cv → ∃ c, cv = .ref c ∧ F c = some (LamX.CodeO c p.2)
theorem TbsOk.mono {T : List (Addr × Str)} {F F' H H' : Hp} (h : TbsOk T F H) (hF : Same F F') (hH : ∀ p ∈ T, H' p.1 = H p.1) : TbsOk T F' H' := fun p hp => by
  obtain ⟨ps, h1, h2, h3⟩ := h p hp
  refine ⟨ps, (hH p hp).trans h1, h2, fun pos cv e => ?_⟩
  obtain ⟨c, e1, e2⟩ := h3 pos cv e
  exact ⟨c, e1, hF _ _ e2⟩
theorem TbsOk.has {T : List (Addr × Str)} {F H : Hp} (h : TbsOk T F H) {a : Addr} (ha : a ∈ T.map (·.1)) : ∃ ps, H a = some (.tbl ps) := by
  obtain ⟨p, hp, rfl⟩ := List.mem_map.mp ha
  obtain ⟨ps, h1, _⟩ := h p hp
  exact ⟨ps, h1⟩
/-- the machine, and the tables of code objects -/
abbrev MT (T : List (Addr × Str)) : MI where
  T := Mach
  ok := fun _ F H ms t => (T ≠ [] → noMark F) ∧ TbsOk T F H ∧ ∃ m lf c, ms = m :: lf :: T.map (·.1) ∧ m ≠ lf ∧ H m = some (.dK (mkvs c lf t.at_)) ∧ H lf = some (.lst (t.left.map V.int)) ∧ F c = some (.lst (t.cells.map V.int)) ∧ t.left.length = t.cells.length
  mono := fun {K F F' H H' ms t} hF ht hm h => by
    obtain ⟨nm, tb, m, lf, c, rfl, hn, h1, h2, h3, h4⟩ := h
    exact ⟨fun hT a ps e => nm hT a ps (ht a ps e).1, tb.mono hF (fun p hp => hm _ (List.mem_cons_of_mem _ (List.mem_cons_of_mem _ (List.mem_map_of_mem hp)))), m, lf, c, rfl, hn, (hm m (by simp)).trans h1, (hm lf (by simp)).trans h2, hF _ _ h3, h4⟩
abbrev M1 : MI := MT []
def atOf (t : Mach) : Nat := t.at_ % max 1 t.cells.length
def rawNum (c k : Int) : Int := ((c + 7919 * k * k + 31 * k) * 48271 % 2147483647 * 69621 % 2147483629) / 64 * 16807 % 2147483647 / 32
def nextM (t : Mach) (many : Int) : Int × Mach :=
  if t.cells ≠ [] ∧ t.left.getD (atOf t) 0 > 0 then (t.left.getD (atOf t) 0 % many, { t with at_ := t.at_ + 1, left := t.left.set (atOf t) (t.left.getD (atOf t) 0 / many) })
  else (rawNum (if t.cells ≠ [] then t.cells.getD (atOf t) 0 % 2147483647 else 17) t.at_ % many, { t with at_ := t.at_ + 1 })
def drawLim : Nat := 2 ^ 60
def nextS : List S → Mach → Rs S Mach := fun args t => match args with
  | [.m 0, .d (.int many)] => if 0 < many ∧ many < 1073741824 ∧ t.at_ < drawLim then .ok (.d (.int (nextM t many).1)) (nextM t many).2 else .bad
  | _ => .bad
def t_fin : TS :=
  tSeq (tAsg (tOp (rI (fun _ j => 0 < j) fun i j => .int (i % j)) (tOp (rI CMul fun i j => .int (i * j)) (tOp (rI (fun _ j => 0 < j) fun i j => .int (i % j)) (tOp (rI CMul fun i j => .int (i * j)) (tOp (rI0 fun i j => .int (i + j)) (tOp (rI0 fun i j => .int (i + j)) (tVar 6) (tOp (rI CMul fun i j => .int (i * j)) (tOp (rI CMul fun i j => .int (i * j)) (tC (.int 7919)) (tVar 2)) (tVar 2))) (tOp (rI CMul fun i j => .int (i * j)) (tC (.int 31)) (tVar 2))) (tC (.int 48271))) (tC (.int 2147483647))) (tC (.int 69621))) (tC (.int 2147483629))) (gName 7))
  (tRet (tOp (rI (fun _ j => 0 < j) fun i j => .int (i % j)) (tOp (rI CDiv fun i j => .int (i / j)) (tOp (rI (fun _ j => 0 < j) fun i j => .int (i % j)) (tOp (rI CMul fun i j => .int (i * j)) (tOp (rI CDiv fun i j => .int (i / j)) (tVar 7) (tC (.int 64))) (tC (.int 16807))) (tC (.int 2147483647))) (tC (.int 32))) (tVar 1)))
def t_tail (K : PySem.W.Frag) : TS :=
  tSeq (tAsg (tC (.int 17)) (gName 6))
  (tSeq (tIfS (tTest (tOp (rNeD K) (tVar 3) (tLst tNil))) (tAsg (tOp (rI (fun _ j => 0 < j) fun i j => .int (i % j)) (tOp (rIxL K) (tVar 3) (tVar 4)) (tC (.int 2147483647))) (gName 6)) tNext)
  t_fin)
def t_rest (K : PySem.W.Frag) : TS :=
  tSeq (tIfS (tAnd (tTest (tOp (rNeD K) (tVar 3) (tLst tNil))) (tTest (tOp (rI0 fun i j => .bl (decide (j < i))) (tOp (rIxL K) (tDGet (tVar 0) (tC (.str "left"))) (tVar 4)) (tC (.int 0)))))
      (tSeq (tAsg (tOp (rI (fun _ j => 0 < j) fun i j => .int (i % j)) (tOp (rIxL K) (tDGet (tVar 0) (tC (.str "left"))) (tVar 4)) (tVar 1)) (gName 5))
      (tSeq (tAsg (tOp (rI CDiv fun i j => .int (i / j)) (tOp (rIxL K) (tDGet (tVar 0) (tC (.str "left"))) (tVar 4)) (tVar 1)) (gSub (tDGet (tVar 0) (tC (.str "left"))) (tVar 4) rSetL))
      (tRet (tVar 5)))) tNext)
  (t_tail K)
def t_next (K : PySem.W.Frag) : TS :=
  tSeq (tAsg (tDGet (tVar 0) (tC (.str "at"))) (gName 2))
  (tSeq (sDPut (tVar 0) (tC (.str "at")) (tOp (rI0 fun i j => .int (i + j)) (tVar 2) (tC (.int 1))))
  (tSeq (tAsg (tDGet (tVar 0) (tC (.str "cells"))) (gName 3))
  (tSeq (tAsg (tOp (rI (fun _ j => 0 < j) fun i j => .int (i % j)) (tVar 2) (tCB (fun xs H Q => ∃ i j, xs = [.int i, .int j] ∧ Q (.int (if j > i then j else i)) H) (tCons (tC (.int 1)) (tCons (tCB (fun xs H Q => ∃ p ys, xs = [.ref p] ∧ (SqL K H p ys ∨ SqT K H p ys) ∧ Q (.int ys.length) H) (tCons (tVar 3) tNil)) tNil)))) (gName 4))
  (t_rest K))))
def nextN : List Str := ["_law_m", "_law_many", "_law_k", "_law_cells", "_law_at", "_law_found", "_law_cell", "_law_number"]
theorem eqvAll_ints : ∀ ns : List Int, PyData.eqvAll (ns.map PyData.int) [] = ns.isEmpty
  | [] => by rw [List.map_nil, PyData.eqvAll]; rfl
  | n :: r => by rw [List.map_cons, PyData.eqvAll]; rfl
theorem eqv_ints (ns : List Int) : PyData.eqv (.list (ns.map PyData.int)) (.list []) = ns.isEmpty := by
  rw [PyData.eqv]
  exact eqvAll_ints ns
theorem shaped_nil : SeqAt.shaped (.list []) = true := by decide +kernel
theorem shaped_ints (ns : List Int) : SeqAt.shaped (.list (ns.map PyData.int)) = true := by
  have a : ∀ ns : List Int, PyData.canLayAll0 (ns.map PyData.int) = true := fun ns => by
    induction ns with
    | nil => rfl
    | cons n r ih =>
      rw [List.map_cons, PyData.canLayAll0, ih, PyData.canLay0]
      rfl
  have b : ∀ ns : List Int, PyData.depthAll (ns.map PyData.int) ≤ 2 := fun ns => by
    induction ns with
    | nil => simp [PyData.depthAll]
    | cons n r ih =>
      rw [List.map_cons, PyData.depthAll, PyData.depth]
      omega
  unfold SeqAt.shaped
  rw [PyData.canLay0, a, PyData.depth]
  have := b ns
  simp
  omega
theorem max1 (n : Nat) : (if ((n : Nat) : Int) > 1 then ((n : Nat) : Int) else 1) = ((max 1 n : Nat) : Int) := by
  split <;> omega
theorem atOf_lt {t : Mach} (h : t.cells ≠ []) : atOf t < t.cells.length := by
  have : 0 < t.cells.length := List.length_pos_iff.mpr h
  unfold atOf
  have := Nat.mod_lt t.at_ (show 0 < max 1 t.cells.length by omega)
  omega
theorem getI {ns : List Int} {i : Nat} (h : i < ns.length) : atI (ns.map V.int) ((i : Nat) : Int) = some (.int (ns.getD i 0)) := by
  refine atI_nat ?_
  rw [List.getElem?_map, List.getElem?_eq_getElem h, List.getD_eq_getElem?_getD, List.getElem?_eq_getElem h]
  rfl
theorem set_ints (ns : List Int) (i : Nat) (n : Int) : (ns.map V.int).set i (.int n) = (ns.set i n).map V.int := (List.map_set).symm
theorem ce_ne {H : Hp} {a b : Addr} {o u : HO} (h : H a = some o) (h' : H b = some u) (d : o ≠ u) : a ≠ b := ne_of h h' d
theorem run_fin {D : Ends} {many k cv : Int} {a0 a3 a4 a5 : Option V} {H : Hp} (hp : 0 < many) (h0 : 0 ≤ k) (hk : k < 2 ^ 60) (h : D.rt (.int (rawNum cv k % many)) H) : t_fin D [a0, some (.int many), some (.int k), a3, a4, a5, some (.int cv), none] H := by
  refine ⟨_, rfl, _, rfl, _, _, rfl, rfl, .inl ⟨by decide, by decide⟩, _, rfl, _, k, rfl, rfl, .inr ⟨by omega, by omega⟩, _, _, rfl, rfl, _, rfl, _, _, rfl, rfl, .inl ⟨by decide, by decide⟩, _, _, rfl, rfl, _, _, rfl, rfl, .inr ⟨by decide, by decide⟩, _, _, rfl, rfl, (by show (0 : Int) < 2147483647; decide), _, _, rfl, rfl, .inr ⟨by decide, by decide⟩, _, _, rfl, rfl, (by show (0 : Int) < 2147483629; decide), ?_⟩
  refine ⟨_, rfl, _, _, rfl, rfl, ⟨by decide, by decide⟩, _, _, rfl, rfl, .inr ⟨by decide, by decide⟩, _, _, rfl, rfl, (by show (0 : Int) < 2147483647; decide), _, _, rfl, rfl, ⟨by decide, by decide⟩, _, rfl, _, _, rfl, rfl, hp, ?_⟩
  exact h
theorem ne_nil_ints (K : PySem.W.Frag) {H : Hp} {c p : Addr} {ns : List Int} {Q : VK} (hc : H c = some (.lst (ns.map V.int))) (hp : H p = some (.lst [])) (q : Q (.bl (!ns.isEmpty)) H) : rNeD K (.ref c) (.ref p) H Q := by
  refine ⟨.list (ns.map PyData.int), .list [], .lst (SqL.of hc) (dp_ints _), .lst (SqL.of hp) .nil, shaped_ints _, shaped_nil, ?_⟩
  rw [eqv_ints]
  exact q
theorem run_tail {K : PySem.W.Frag} {D : Ends} {many k : Int} {c : Addr} {ns : List Int} {a : Nat} {a0 a5 : Option V} {H : Hp} (hp : 0 < many) (h0 : 0 ≤ k) (hk : k < 2 ^ 60) (hc : H c = some (.lst (ns.map V.int))) (ha : ns ≠ [] → a < ns.length)
    (h : ∀ p, H p = none → D.rt (.int (rawNum (if ns ≠ [] then ns.getD a 0 % 2147483647 else 17) k % many)) (upd H p (.lst []))) : t_tail K D [a0, some (.int many), some (.int k), some (.ref c), some (.int ((a : Nat) : Int)), a5, none, none] H := by
  refine ⟨_, rfl, Nat.zero_le _, fun p hpn => ?_⟩
  have hc2 : (upd H p (.lst [])) c = some (.lst (ns.map V.int)) := by rw [upd_ne (ne_of_none hc hpn)]; exact hc
  have h' := h p hpn
  refine ne_nil_ints K hc2 upd_same ⟨_, rfl, ?_⟩
  cases ns with
  | nil =>
    refine iteF ?_
    exact run_fin hp h0 hk h'
  | cons n r =>
    refine iteT ?_
    refine ⟨_, rfl, _, rfl, c, _, _, _, rfl, rfl, SqL.of hc2, getI (ha (by intro e; cases e)), _, _, rfl, rfl, (by show (0 : Int) < 2147483647; decide), ?_⟩
    exact run_fin hp h0 hk h'
theorem nextS_inv {args : List S} {t : Mach} (h : nextS args t ≠ .bad) : ∃ many, args = [.m 0, .d (.int many)] ∧ 0 < many ∧ many < 1073741824 ∧ t.at_ < drawLim ∧ nextS args t = .ok (.d (.int (nextM t many).1)) (nextM t many).2 := by
  unfold nextS at h ⊢
  split at h
  · rename_i many
    by_cases hc : 0 < many ∧ many < 1073741824 ∧ t.at_ < drawLim
    · exact ⟨many, rfl, hc.1, hc.2.1, hc.2.2, if_pos hc⟩
    · rw [if_neg hc] at h; exact (h rfl).elim
  · exact (h rfl).elim
theorem run_next {T : List (Addr × Str)} {K : PySem.W.Frag} {xr : Str → Option Value} {vs : List V} {H : Hp} {Q : VK} {E : XK} (h : spM (MT T) K xr 2 nextS vs H Q E) : t_next K { nx := fun _ H' => Q .non H', rt := Q } (L2.start nextN vs) H := by
  obtain ⟨hl, ms, F, args, t, sub, mach, msx, tgx, hv, h⟩ := h
  obtain ⟨nmk, tb, m, lf, c, rfl, hne, h1, h2, h3, h4⟩ := mach
  have hTm : ∀ a ∈ T.map (·.1), a ≠ m ∧ a ≠ lf := fun a ha => by
    obtain ⟨ps, e⟩ := tb.has ha
    exact ⟨fun z => by (rw [z, h1] at e; cases e), fun z => by (rw [z, h2] at e; cases e)⟩
  have hb : nextS args t ≠ .bad := fun e => by rw [e] at h; exact h
  obtain ⟨many, rfl, hp, hq, hd, en⟩ := nextS_inv hb
  rw [en] at h
  obtain ⟨v0, v1, rfl, ra, rb⟩ : ∃ v0 v1, vs = [v0, v1] ∧ AV K F (m :: lf :: T.map (·.1)) v0 (.m 0) ∧ AV K F (m :: lf :: T.map (·.1)) v1 (.d (.int many)) := by
    cases hv with
    | cons a b => cases b with
      | cons b c => cases c; exact ⟨_, _, rfl, a, b⟩
  obtain ⟨m', hm', rfl⟩ := ra
  have em : m = m' := Option.some.inj hm'
  subst em
  cases (show Da K F v1 (.int many) from rb)
  have hcH : H c = some (.lst (t.cells.map V.int)) := sub.lst h3
  have hmF : F m = none := (msx m (by simp)).1
  have hlF : F lf = none := (msx lf (by simp)).1
  have ncm : c ≠ m := fun e => by rw [e, hmF] at h3; cases h3
  have ncl : c ≠ lf := fun e => by rw [e, hlF] at h3; cases h3
  -- k = m['at']; m['at'] = k + 1
  refine ⟨.ref m, rfl, m, .int (t.at_ : Int), rfl, by rw [← mk_at c lf]; exact DGet.k (k := Sum.inr ("at" : Str)) h1, ?_⟩
  have dp := DPut.k (k := Sum.inr ("at" : Str)) (v := .int ((t.at_ : Int) + 1)) h1 (small1000 (by show 3 ≤ 1000; decide))
  rw [mk_put] at dp
  refine ⟨.int (t.at_ : Int), rfl, (t.at_ : Int), 1, rfl, rfl, .ref m, rfl, m, _, rfl, dp, ?_⟩
  generalize hH1 : upd H m (.dK (mkvs c lf ((t.at_ : Int) + 1))) = H1
  have e1 : H1 m = some (.dK (mkvs c lf ((t.at_ : Int) + 1))) := by rw [← hH1]; exact upd_same
  have e2 : H1 lf = some (.lst (t.left.map V.int)) := by rw [← hH1, upd_ne hne.symm]; exact h2
  have e3 : H1 c = some (.lst (t.cells.map V.int)) := by rw [← hH1, upd_ne ncm]; exact hcH
  have s1 : SameX F H1 := by rw [← hH1]; exact same_updR sub hmF
  have fr1 : ∀ b o, H b = some o → b ≠ m → H1 b = some o := fun b o e n => by
    rw [← hH1, upd_ne n]
    exact e
  have tg1 : ∀ a ps, F a = some (.tbl ps) → H1 a ≠ none := tgOn tgx (fun b o ps e1 e2 => fr1 b o e2 (fun q => by rw [q, hmF] at e1; cases e1))
  -- cells = m['cells']; at = k % max(1, len(cells))
  refine ⟨.ref m, rfl, m, .ref c, rfl, by rw [← mk_cells c lf]; exact DGet.k (k := Sum.inr ("cells" : Str)) e1, ?_⟩
  refine ⟨.int (t.at_ : Int), rfl, .ref c, rfl, c, _, rfl, .inl (SqL.of e3), 1, _, rfl, (t.at_ : Int), _, rfl, rfl, ?_, ?_⟩
  · split <;> omega
  have ea : (t.at_ : Int) % (if (((t.cells.map V.int).length : Nat) : Int) > 1 then (((t.cells.map V.int).length : Nat) : Int) else 1) = ((atOf t : Nat) : Int) := by
    rw [max1, List.length_map]
    exact (Int.natCast_emod _ _).symm
  show t_rest K _ [some (.ref m), some (.int many), some (.int (t.at_ : Int)), some (.ref c), some (.int ((t.at_ : Int) % (if (((t.cells.map V.int).length : Nat) : Int) > 1 then (((t.cells.map V.int).length : Nat) : Int) else 1))), none, none, none] H1
  rw [ea]
  have dpc : ∀ {G : Hp}, G c = some (.lst (t.cells.map V.int)) → Dp K G (.ref c) (.list (t.cells.map PyData.int)) := fun e => .lst (SqL.of e) (dp_ints _)
  have tail : t.cells ≠ [] ∧ t.left.getD (atOf t) 0 > 0 → False → False := fun _ z => z
  -- the way out of the first if
  have rest2 : ∀ H2 : Hp, SameX F H2 → H2 m = H1 m → H2 lf = H1 lf → H2 c = some (.lst (t.cells.map V.int)) → (∀ b o, H1 b = some o → H2 b = some o) → ¬ (t.cells ≠ [] ∧ t.left.getD (atOf t) 0 > 0) →
      Q (.int (nextM t many).1) H2 := fun H2 g1 g2 g3 g4 g5 hn => by
    have en : nextM t many = (rawNum (if t.cells ≠ [] then t.cells.getD (atOf t) 0 % 2147483647 else 17) t.at_ % many, { t with at_ := t.at_ + 1 }) := if_neg hn
    refine h _ H2 F (Same.refl _) ⟨g1, ⟨nmk, tb.mono (Same.refl _) (fun p hp => ?_), m, lf, c, rfl, hne, ?_, ?_, ?_, ?_⟩, fun a ha => ?_, fun b o e n _ => ⟨g5 _ _ (fr1 b o e (fun z => n (by rw [z]; simp))), rfl⟩, fun a ps e => ⟨tgOn tg1 (fun b o _ _ q => g5 b o q) a ps e, .inl e⟩⟩ (Da.int _)
    · obtain ⟨ps, e⟩ := tb.has (List.mem_map_of_mem (f := (·.1)) hp)
      exact (g5 _ _ (fr1 _ _ e (hTm _ (List.mem_map_of_mem (f := (·.1)) hp)).1)).trans e.symm
    · rw [g2, e1, en]
      rfl
    · rw [g3, e2, en]
    · rw [en]; exact h3
    · rw [en]; exact h4
    · refine ⟨(msx a ha).1, fun z => ?_⟩
      rcases List.mem_cons.mp ha with rfl | ha
      · rw [g2, e1] at z; cases z
      · rcases List.mem_cons.mp ha with ea2 | ha
        · rw [ea2, g3, e2] at z; cases z
        · obtain ⟨ps, e⟩ := tb.has ha
          rw [g5 _ _ (fr1 _ _ e (hTm _ ha).1)] at z; cases z
  have hk0 : (0 : Int) ≤ (t.at_ : Int) := Int.natCast_nonneg _
  have hk : (t.at_ : Int) < 2 ^ 60 := by
    have : t.at_ < 2 ^ 60 := hd
    omega
  have hal : t.cells ≠ [] → atOf t < t.cells.length := atOf_lt
  -- if cells != [] and m['left'][at] > 0
  refine ⟨_, rfl, Nat.zero_le _, fun p hpn => ?_⟩
  have nmp : m ≠ p := ne_of_none e1 hpn
  have nlp : lf ≠ p := ne_of_none e2 hpn
  have ncp : c ≠ p := ne_of_none e3 hpn
  have f1 : (upd H1 p (.lst [])) m = some (.dK (mkvs c lf ((t.at_ : Int) + 1))) := (upd_ne nmp).trans e1
  have f2 : (upd H1 p (.lst [])) lf = some (.lst (t.left.map V.int)) := (upd_ne nlp).trans e2
  have f3 : (upd H1 p (.lst [])) c = some (.lst (t.cells.map V.int)) := (upd_ne ncp).trans e3
  have f4 : SameX F (upd H1 p (.lst [])) := same_updR s1 (freeX s1 tg1 hpn)
  have tg2 : ∀ a ps, F a = some (.tbl ps) → (upd H1 p (.lst [])) a ≠ none := tgOn tg1 (fun b o _ _ q => (upd_ne (ne_of_none q hpn)).trans q)
  have f5 : ∀ b o, H1 b = some o → (upd H1 p (.lst [])) b = some o := fun b o e => (upd_ne (ne_of_none e hpn)).trans e
  have final : ¬ (t.cells ≠ [] ∧ t.left.getD (atOf t) 0 > 0) → ∀ q, (upd H1 p (.lst [])) q = none → Q (.int (rawNum (if t.cells ≠ [] then t.cells.getD (atOf t) 0 % 2147483647 else 17) t.at_ % many)) (upd (upd H1 p (.lst [])) q (.lst [])) := fun hn q hqn => by
    have en : nextM t many = (rawNum (if t.cells ≠ [] then t.cells.getD (atOf t) 0 % 2147483647 else 17) t.at_ % many, { t with at_ := t.at_ + 1 }) := if_neg hn
    have z := rest2 (upd (upd H1 p (.lst [])) q (.lst [])) (same_updR f4 (freeX f4 tg2 hqn)) ((upd_ne (ne_of_none f1 hqn)).trans (f1.trans e1.symm)) ((upd_ne (ne_of_none f2 hqn)).trans (f2.trans e2.symm)) ((upd_ne (ne_of_none f3 hqn)).trans f3)
      (fun b o e => (upd_ne (ne_of_none (f5 b o e) hqn)).trans (f5 b o e)) hn
    rw [en] at z
    exact z
  refine ne_nil_ints K f3 upd_same ⟨_, rfl, ?_⟩
  by_cases hcs : t.cells = []
  · have eb : (!t.cells.isEmpty) = false := by rw [hcs]; rfl
    rw [eb]
    refine iteF ?_
    refine iteF ?_
    exact run_tail hp hk0 hk f3 hal (final (fun z => z.1 hcs))
  · have eb : (!t.cells.isEmpty) = true := by
      cases q : t.cells with
      | nil => exact (hcs q).elim
      | cons _ _ => rfl
    rw [eb]
    refine iteT ?_
    have hla : atOf t < t.left.length := by rw [h4]; exact hal hcs
    have gl : ∀ {G : Hp}, G m = some (.dK (mkvs c lf ((t.at_ : Int) + 1))) → DGet G m (.str "left") (some (.ref lf)) := fun e => by
      rw [← mk_left c lf ((t.at_ : Int) + 1)]
      exact DGet.k (k := Sum.inr ("left" : Str)) e
    refine ⟨_, rfl, m, _, rfl, gl f1, _, rfl, lf, _, _, _, rfl, rfl, SqL.of f2, getI hla, _, _, rfl, rfl, _, rfl, ?_⟩
    refine ite2 (fun hgt => ?_) (fun hgt => ?_)
    · have hg : t.left.getD (atOf t) 0 > 0 := of_decide_eq_true hgt
      have en : nextM t many = (t.left.getD (atOf t) 0 % many, { t with at_ := t.at_ + 1, left := t.left.set (atOf t) (t.left.getD (atOf t) 0 / many) }) := if_pos ⟨hcs, hg⟩
      refine ⟨_, rfl, m, _, rfl, gl f1, _, rfl, lf, _, _, _, rfl, rfl, SqL.of f2, getI hla, _, rfl, _, _, rfl, rfl, hp, ?_⟩
      refine ⟨_, rfl, m, _, rfl, gl f1, _, rfl, lf, _, _, _, rfl, rfl, SqL.of f2, getI hla, _, rfl, _, _, rfl, rfl, ⟨hp, hq⟩, ?_⟩
      refine ⟨_, rfl, m, _, rfl, gl f1, _, rfl, lf, _, _, atOf t, rfl, rfl, f2, ?_, ?_⟩
      · unfold ixN
        rw [List.length_map, if_pos (by omega), if_pos (by omega), Int.toNat_natCast]
      · refine ⟨_, rfl, ?_⟩
        rw [set_ints]
        have z := h (.int (t.left.getD (atOf t) 0 % many)) (upd (upd H1 p (.lst [])) lf (.lst ((t.left.set (atOf t) (t.left.getD (atOf t) 0 / many)).map V.int))) F (Same.refl _)
        rw [en] at z
        refine z ⟨same_updR f4 hlF, ⟨nmk, tb.mono (Same.refl _) (fun p hp => ?_), m, lf, c, rfl, hne, (upd_ne hne).trans f1, upd_same, h3, by simp [h4]⟩, fun a ha => ⟨(msx a ha).1, fun y => ?_⟩, fun b o e n _ => ⟨?_, rfl⟩, fun a ps e => ⟨tgOn tg2 (fun b o ps2 e1 q => (upd_ne (fun y => by rw [y, hlF] at e1; cases e1)).trans q) a ps e, .inl e⟩⟩ (Da.int _)
        · have hp' := List.mem_map_of_mem (f := (·.1)) hp
          obtain ⟨ps, e⟩ := tb.has hp'
          exact (upd_ne (hTm _ hp').2).trans ((f5 _ _ (fr1 _ _ e (hTm _ hp').1)).trans e.symm)
        · rcases List.mem_cons.mp ha with rfl | ha
          · rw [upd_ne hne, f1] at y; cases y
          · rcases List.mem_cons.mp ha with ea2 | ha
            · rw [ea2, upd_same] at y; cases y
            · obtain ⟨ps, e⟩ := tb.has ha
              rw [upd_ne (hTm _ ha).2, f5 _ _ (fr1 _ _ e (hTm _ ha).1)] at y; cases y
        · rw [upd_ne (fun y => n (by rw [y]; simp))]
          exact f5 _ _ (fr1 b o e (fun z => n (by rw [z]; simp)))
    · have hg : ¬ t.left.getD (atOf t) 0 > 0 := fun z => hgt (decide_eq_true z)
      exact run_tail hp hk0 hk f3 hal (final (fun z => hg z.2))
end G
namespace G
open PySem L2
/-! ### _law_begun -/
def leftF (c : Int) : Int := c * (if decide ((10 : Int) ^ 18 ≤ c) then 1 else 0)
def leftOf (ns : List Int) : List Int := ns.map leftF
def t_begun (K : PySem.W.Frag) : TS :=
  tSeq (tAsg (tSl (rSlL K) (tVar 0) tNoPart (tPart (tC (.int 63)))) (gName 1))
  (tRet (tDisp [(tC (.str "cells"), tVar 1), (tC (.str "at"), tC (.int 0)), (tC (.str "left"), tLc (iList K (tVar 1)) (gName 2) tYes
    (tOp (rI CMul fun i j => .int (i * j)) (tVar 2) (tCB rInt1 (tCons (tOp (rI0 fun i j => .bl (decide (j ≤ i))) (tVar 2) (tOp (rI CPow fun i j => .int (i ^ j.toNat)) (tC (.int 10)) (tC (.int 18)))) tNil))) [2])]))
def begunN : List Str := ["_law_script", "_law_cells", "_law_cell"]
def spBegun (K : PySem.W.Frag) : Sp := fun vs H Q _ => ∃ (a : Addr) (ns : List Int), vs = [.ref a] ∧ SqL K H a (ns.map V.int) ∧ ns.length ≤ 63 ∧
  ∀ H' m c lf, Same H H' → H m = none → H c = none → H lf = none → m ≠ lf → m ≠ c → c ≠ lf → H' m = some (.dK (mkvs c lf 0)) → H' lf = some (.lst ((leftOf ns).map V.int)) → H' c = some (.lst (ns.map V.int)) → Q (.ref m) H'
theorem cut63 {ns : List Int} (h : ns.length ≤ 63) : cutV (ns.map V.int) none (some 63) = ns.map V.int := by
  unfold cutV
  rw [HT.sIx_none, show HT.sIx (ns.map V.int).length (ns.map V.int).length (some 63) = min 63 (ns.map V.int).length from HT.sIx_nat _ _ 63, List.drop_zero, Nat.sub_zero]
  refine List.take_of_length_le ?_
  rw [List.length_map]
  omega
theorem merge3 (c lf : Addr) : mergeK [] [((Sum.inr ("cells" : Str) : Key), V.ref c), (Sum.inr ("at" : Str), V.int 0), (Sum.inr ("left" : Str), V.ref lf)] = mkvs c lf 0 := by
  show putK (putK (putK [] (Sum.inr ("cells" : Str) : Key) (V.ref c)) (Sum.inr ("at" : Str)) (V.int 0)) (Sum.inr ("left" : Str)) (V.ref lf) = mkvs c lf 0
  rw [putK_new (kvs := []) _ rfl, putK_new (k := (Sum.inr ("at" : Str) : Key)) _ (by rw [List.nil_append, valV_neg k_ca]; rfl), putK_new (k := (Sum.inr ("left" : Str) : Key)) _ (by
    rw [List.nil_append]
    show valV [((Sum.inr ("cells" : Str) : Key), V.ref c), (Sum.inr ("at" : Str), V.int 0)] _ = none
    rw [valV_neg k_cl, valV_neg k_al]
    rfl)]
  rfl
theorem run_begun {K : PySem.W.Frag} {vs : List V} {H : Hp} {Q : VK} {E : XK} (h : spBegun K vs H Q E) : t_begun K { nx := fun _ H' => Q .non H', rt := Q } (L2.start begunN vs) H := by
  obtain ⟨a, ns, rfl, hs, hl, h⟩ := h
  refine ⟨_, rfl, 63, rfl, a, _, rfl, hs, fun c hc => ?_⟩
  rw [cut63 hl]
  have s1 : Same H (upd H c (.lst (ns.map V.int))) := same_upd hc
  intro m hm
  have ncm : c ≠ m := fun e => by rw [e, upd_same] at hm; cases hm
  have hmH : H m = none := by rw [upd_ne ncm.symm] at hm; exact hm
  refine ⟨_, rfl, _, rfl, c, rfl, ⟨_, SqL.of ((upd_ne ncm).trans upd_same)⟩, fun lf hlf => ?_⟩
  have nlm : lf ≠ m := fun e => by rw [e, upd_same] at hlf; cases hlf
  have nlc : lf ≠ c := fun e => by rw [e, upd_ne ncm, upd_same] at hlf; cases hlf
  have hlH : H lf = none := by rw [upd_ne nlm, upd_ne nlc] at hlf; exact hlf
  refine lc_list (K := K) (a := c) (xs := ns.map V.int) (fun i H' => H' = upd (upd (upd H c (.lst (ns.map V.int))) m (.dK [])) lf (.lst ((leftOf (ns.take i)).map V.int))) rfl (fun i H' _ e => by
      rw [e]
      exact SqL.of ((upd_ne nlc.symm).trans ((upd_ne ncm).trans upd_same))) ?_ ?_
  · rintro i x H' hi rfl
    obtain ⟨z, hz, rfl⟩ : ∃ z, ns[i]? = some z ∧ x = .int z := by
      rw [List.getElem?_map] at hi
      cases e : ns[i]? with
      | none => rw [e] at hi; cases hi
      | some z => rw [e] at hi; cases hi; exact ⟨z, rfl, rfl⟩
    refine ⟨rfl, ?_⟩
    simp only [tYes, if_true]
    refine ⟨_, rfl, _, rfl, _, _, rfl, rfl, ⟨by decide, by decide, by decide⟩, _, _, rfl, rfl, ?_⟩
    refine .inr ⟨_, rfl, _, _, rfl, rfl, .inr ?_, ?_⟩
    · split <;> exact ⟨by decide, by decide⟩
    · refine ⟨_, upd_same, ?_, ?_⟩
      · rw [List.length_map]
        unfold leftOf
        rw [List.length_map, List.length_take]
        exact small1000 (by omega)
      · rw [upd_upd]
        have hil : i < ns.length := (List.getElem?_eq_some_iff.mp hz).1
        have ez : ns[i] = z := (List.getElem?_eq_some_iff.mp hz).2
        rw [List.take_succ_eq_append_getElem hil, ez]
        unfold leftOf
        rw [List.map_append, List.map_append]
        rfl
  · rintro H' rfl
    rw [List.length_map, List.take_length]
    refine ⟨(upd_ne nlm.symm).trans upd_same, [((Sum.inr ("cells" : Str) : Key), V.ref c), (Sum.inr ("at" : Str), V.int 0), (Sum.inr ("left" : Str), V.ref lf)], rfl, (by show 3 ≤ 15; decide), ?_⟩
    rw [merge3]
    refine h _ m c lf (fun b o e => ?_) hmH hc hlH nlm.symm ncm.symm nlc.symm upd_same ?_ ?_
    · rw [upd_ne (ne_of_none e hmH), upd_ne (ne_of_none e hlH), upd_ne (ne_of_none e hmH), upd_ne (ne_of_none e hc)]
      exact e
    · rw [upd_ne nlm, upd_same]
    · rw [upd_ne ncm, upd_ne nlc.symm, upd_ne ncm, upd_same]
/-! ### law: the machine made, then the mirror -/
def spLaw (K : PySem.W.Frag) : Sp := fun vs H Q _ => ∃ (a : Addr) (ns : List Int), vs = [.ref a] ∧ SqL K H a (ns.map V.int) ∧ ns.length ≤ 63 ∧ (∀ z ∈ ns, Builtin.Int.intBits z ≤ 1048576) ∧ ∀ H', Q (.bl true) H'
def z0 (n : Nat) (ns : List Int) : Z Mach := { rho := some (.d (.scr ns)) :: some (.m 0) :: List.replicate n none, m := ⟨ns, 0, leftOf ns⟩ }
theorem law_runT {T : List (Addr × Str)} {K : PySem.W.Frag} {xr : Str → Option Value} {E : XK} {N : List Str} {t : TS} {f : Sm (MT T) Out} {vs : List V} {H : Hp} {Q : VK} (hN : 2 ≤ N.length) (hf : ∀ ns : List Int, ns.length ≤ 63 → (∀ z ∈ ns, Builtin.Int.intBits z ≤ 1048576) → ∃ z', f (z0 (N.length - 2) ns) = .ok (.rt (.d (.bl true))) z')
    (c : SR (MT T) K xr (fun cls d _ H => E cls d H) t f) (hT : ∀ p ∈ T, H p.1 = some (.tbl #[])) (h : spLaw K vs H Q E) : tSeq (tAsg (tCallS (spBegun K) (WE fun cls d _ H => E cls d H) (tCons (tVar 0) tNil)) (gName 1)) t { nx := fun _ H' => Q .non H', rt := Q } (L2.start N vs) H := by
  obtain ⟨a, ns, rfl, hs, hl, hbits, hq⟩ := h
  obtain ⟨z', hz⟩ := hf ns hl hbits
  have st : L2.start N [.ref a] = some (.ref a) :: List.replicate (N.length - 1) none := rfl
  rw [st]
  refine ⟨_, rfl, a, ns, rfl, hs, hl, fun H' m cc lf sm hm hc hlf n1 n2 n3 e1 e2 e3 => ?_⟩
  have es : (some (V.ref a) :: List.replicate (N.length - 1) none).set 1 (some (.ref m)) = some (V.ref a) :: some (.ref m) :: List.replicate (N.length - 2) none := by
    obtain ⟨k, hk⟩ : ∃ k, N.length = k + 2 := ⟨N.length - 2, by omega⟩
    rw [hk]
    rfl
  show t _ ((some (V.ref a) :: List.replicate (N.length - 1) none).set 1 (some (.ref m))) H'
  rw [es]
  let F : Hp := fun b => if b = cc then some (.lst (ns.map V.int)) else if b = a then noT H a else none
  have Fm : F m = none := by
    show (if m = cc then _ else if m = a then noT H a else none) = none
    rw [if_neg n2]
    by_cases e : m = a
    · rw [if_pos e, ← e]; unfold noT; rw [hm]
    · rw [if_neg e]
  have Fl : F lf = none := by
    show (if lf = cc then _ else if lf = a then noT H a else none) = none
    rw [if_neg n3.symm]
    by_cases e : lf = a
    · rw [if_pos e, ← e]; unfold noT; rw [hlf]
    · rw [if_neg e]
  have Fc : F cc = some (.lst (ns.map V.int)) := if_pos rfl
  have sF : Same F H' := fun b o q => by
    have q' : (if b = cc then some (HO.lst (ns.map V.int)) else if b = a then noT H a else none) = some o := q
    by_cases e : b = cc
    · rw [if_pos e] at q'; rw [e, e3]; exact q'
    · rw [if_neg e] at q'
      by_cases e' : b = a
      · rw [if_pos e'] at q'; rw [e']; exact sm a o (noT_of q').1
      · rw [if_neg e'] at q'; cases q'
  have hsF : SqL K F a (ns.map V.int) := by
    have Fa : ∀ o, H a = some o → (∀ ps, o ≠ .tbl ps) → F a = some o := fun o q nt => by
      have n : a ≠ cc := ne_of_none q hc
      show (if a = cc then _ else if a = a then noT H a else none) = some o
      rw [if_neg n, if_pos rfl]
      exact noT_at q nt
    rcases hs with (q | ⟨o, q⟩) | q
    · exact .inl (.inl (Fa _ q lstNT))
    · exact .inl (.inr ⟨o, Fa _ q (fun _ e => by cases e)⟩)
    · exact .inr q
  have key : ∀ (i : Nat) (s : S), (z0 (N.length - 2) ns).rho[i]? = some (some s) → (i = 0 ∧ s = .d (.scr ns)) ∨ (i = 1 ∧ s = .m 0) := fun i s e => by
    have e' : (some (S.d (.scr ns)) :: some (S.m 0) :: List.replicate (N.length - 2) none)[i]? = some (some s) := e
    match i, e' with
    | 0, e' => cases e'; exact .inl ⟨rfl, rfl⟩
    | 1, e' => cases e'; exact .inr ⟨rfl, rfl⟩
    | i + 2, e' =>
      rw [List.getElem?_cons_succ, List.getElem?_cons_succ, List.getElem?_replicate] at e'
      split at e' <;> cases e'
  have nmF : noMark F := fun b ps q => by
    have q' : (if b = cc then some (HO.lst (ns.map V.int)) else if b = a then noT H a else none) = some (.tbl ps) := q
    by_cases e : b = cc
    · rw [if_pos e] at q'; cases q'
    · rw [if_neg e] at q'
      by_cases e' : b = a
      · rw [if_pos e'] at q'; exact (noT_of q').2 ps rfl
      · rw [if_neg e'] at q'; cases q'
  have tbH : TbsOk T F H' := fun p hp => ⟨#[], sm _ _ (hT p hp), True.intro, fun pos cv hcv => by
    have z : codeAmong pos [] = some cv := hcv
    simp [codeAmong] at z⟩
  have tbN : ∀ b ∈ T.map (·.1), F b = none ∧ H' b ≠ none := fun b hb => by
    obtain ⟨p, hp, rfl⟩ := List.mem_map.mp hb
    have hP := hT p hp
    have n1 : p.1 ≠ cc := ne_of_none hP hc
    refine ⟨?_, by rw [sm _ _ hP]; intro z; cases z⟩
    show (if p.1 = cc then some (HO.lst (ns.map V.int)) else if p.1 = a then noT H a else none) = none
    rw [if_neg n1]
    by_cases e' : p.1 = a
    · rw [if_pos e', ← e']; unfold noT; rw [hP]
    · rw [if_neg e']
  refine c ⟨K, xr, m :: lf :: T.map (·.1), fun _ => none, F⟩ _ H' F (z0 (N.length - 2) ns) _ rfl rfl ⟨samX sF, ?_, fun i s e => ?_, fun i j xs ys v q1 _ _ _ => ?_, ⟨fun _ => nmF, tbH, m, lf, cc, rfl, n1, e1, e2, Fc, by simp [z0, leftOf]⟩, fun b hb => ?_, fun _ _ => rfl, fun b hb => ?_, fun b o q => (by cases q), fun b ps e => ⟨(by rw [sF b _ e]; intro z; cases z), rfl⟩⟩ ?_
  · simp [z0]
  · rcases key i s e with ⟨rfl, rfl⟩ | ⟨rfl, rfl⟩
    · exact ⟨_, rfl, Da.scr hsF⟩
    · exact ⟨_, rfl, m, rfl, rfl⟩
  · rcases key i _ q1 with ⟨_, q⟩ | ⟨_, q⟩ <;> cases q
  · rcases List.mem_cons.mp hb with rfl | hb
    · exact Fm
    · rcases List.mem_cons.mp hb with e | hb
      · rw [e]; exact Fl
      · exact (tbN b hb).1
  · rcases List.mem_cons.mp hb with rfl | hb
    · intro z; rw [e1] at z; cases z
    · rcases List.mem_cons.mp hb with e | hb
      · rw [e]
        intro z; rw [e2] at z; cases z
      · exact (tbN b hb).2
  · rw [hz]
    intro v H2 F2 s2 r
    cases (show Da K F2 v (.bl true) from r.val)
    exact hq H2
theorem law_run {K : PySem.W.Frag} {xr : Str → Option Value} {E : XK} {N : List Str} {t : TS} {f : Sm M1 Out} {vs : List V} {H : Hp} {Q : VK} (hN : 2 ≤ N.length) (hf : ∀ ns : List Int, ns.length ≤ 63 → (∀ z ∈ ns, Builtin.Int.intBits z ≤ 1048576) → ∃ z', f (z0 (N.length - 2) ns) = .ok (.rt (.d (.bl true))) z')
    (c : SR M1 K xr (fun cls d _ H => E cls d H) t f) (h : spLaw K vs H Q E) : tSeq (tAsg (tCallS (spBegun K) (WE fun cls d _ H => E cls d H) (tCons (tVar 0) tNil)) (gName 1)) t { nx := fun _ H' => Q .non H', rt := Q } (L2.start N vs) H := law_runT (T := []) hN hf c (fun _ h => nomatch h) h
end G
namespace G
open PySem L2
/-- a place of a def's text: all that the rules ask of it -/
structure Pc {ι : Type} (P : Program) (w : World) (K : PySem.W.Frag) (mg : Str → Option Value) (base : Heap) (N : List Str) (W : WX) (lv : Nat) (X : ι → Cx) : Prop extends Pl K X N mg where
  pr : ∀ j, (X j).prog = P
  pw : ∀ j, (X j).w = w
  pb : ∀ j, (X j).base = base
  room : ∀ j, Room (lv + 8) (X j).A
  pass : ∀ j σ, PassesAt (L2.CX P w) (X j) σ (WE W σ)
  gd : ∀ j, (X j).A.guards = some []
section
variable {ι : Type} {M : MI} {P : Program} {w : World} {K : PySem.W.Frag} {mg : Str → Option Value} {base : Heap} {N : List Str} {W : WX} {n : Nat} {X : ι → Cx} {xr : Str → Option Value}
theorem pass0W {Y : Cx} (σ : St) : PassesAt (L2.CX P w) Y σ (WE W0 σ) := fun _ _ _ _ _ _ h => by
  obtain ⟨_, _, _, _, _, _, _, _, _, _, _, _, z⟩ := h
  exact z.elim
theorem Pc.blk (p : Pc P w K mg base N W n X) (scope : Scope) : Pc P w K mg base N W0 n (Blk X scope) :=
  ⟨p.toPl.blk scope, fun q => p.pr q.1, fun q => p.pw q.1, fun q => p.pb q.1, fun q => p.room q.1, fun q σ => pass0W σ, fun q => p.gd q.1⟩
theorem pc_def {qual : Str} {st : Stmt} {f : Addr} {ps : List Str} {cdv : Value} {A : Around} {outer : List Env} {s : Shared} {H : Hp} {E : XK} (Sc : FnScope N ps (defScope st)) (hr : Room (n + 8) (A.deeper (PyProof.Rows.envOfC qual (defScope st) s.heap.objs.size f cdv))) (hgu : A.guards = some []) :
    Pc P w K mg base N (fun cls d _ H => E cls d H) n (fun _ : Unit => cxOf (L2.CX P w) P w K mg base N qual (defScope st) f cdv A outer s H E) :=
  ⟨⟨fun _ => rfl, fun _ => rfl, fun _ => rfl, Sc.nd, fun _ => rfl, fun _ => by have := hr.un; show (A.deeper _).units + 300 < cLine; omega⟩, fun _ => rfl, fun _ => rfl, fun _ => rfl, fun _ => hr, fun _ σ => passAt (takes_of rfl rfl rfl rfl) σ, fun _ => hgu⟩
theorem own_def {qual : Str} {st : Stmt} {f : Addr} {cdv : Value} {A : Around} {outer : List Env} {s : Shared} {H : Hp} {E : XK} :
    ∀ j : Unit, PassesOwn (model ((fun _ : Unit => cxOf (L2.CX P w) P w K mg base N qual (defScope st) f cdv A outer s H E) j).prog ((fun _ : Unit => cxOf (L2.CX P w) P w K mg base N qual (defScope st) f cdv A outer s H E) j).w) ((fun _ : Unit => cxOf (L2.CX P w) P w K mg base N qual (defScope st) f cdv A outer s H E) j).A ((fun _ : Unit => cxOf (L2.CX P w) P w K mg base N qual (defScope st) f cdv A outer s H E) j).env ((fun _ : Unit => cxOf (L2.CX P w) P w K mg base N qual (defScope st) f cdv A outer s H E) j).xe := fun _ => passes_of rfl
/-- a def of the text keeps the mirror c at level n -/
def FnAt (M : MI) (P : Program) (w : World) (K : PySem.W.Frag) (mg : Str → Option Value) (base : Heap) (xr : Str → Option Value) (n : Nat) (x : Str) (ps : List Str) (dvs : List V) (c : List S → M.T → Rs S M.T) : Prop :=
  ∃ f fd, FnG P w K mg base (L2.CX P w) (n + 8) f fd ps (spM M K xr ps.length c) ∧ Binds K fd ps [] ∧ (∃ ds, Vals dvs ds ∧ Binds K fd ps ds) ∧ PySem.W.keepIn K (.ref f) = true ∧ mg x = some (.ref f)
theorem de_fn {x : Str} {ps : List Str} {dvs : List V} {e : Expr} {es : List Expr} {g : Sm M (List S)} {c : List S → M.T → Rs S M.T} {pp pos : Pos} (p : Pc P w K mg base N W n X) (h : FnAt M P w K mg base xr n x ps dvs c) (ha : DA M xr K X W (e :: es) g) (hn : ∀ z ss z1, g z = .ok ss z1 → ss.length = ps.length) (hg : ∀ j, Gl (X j) x := by intro _; rfl)
    (hdb : (x == ("__debug__" : Str)) = false := by decide) (he : ∀ j, starEach (e :: es) (X j).env = (false, eval e (X j).env) :: starEach es (X j).env := by intro _; rfl) (hpl : ∀ j, (backTo pos (starEach es (X j).env)).any (·.1) = false := by intro _; rfl) :
    DE M xr K X W (.Call (.Name x pp) (e :: es) [] pos) (eCall c g) := by
  obtain ⟨f, fd, hF, hb, _, hk, hm⟩ := h
  exact de_call (CX := L2.CX P w) (f := f) (fd := fd) (ps := ps) (k := n + 8) (fun j => by rw [p.pr j, p.pw j, p.k j, p.g j, p.pb j]; exact hF) p.room p.gd hg (fun j => by rw [p.g j]; exact hm) (fun j => by rw [p.k j]; exact hk) (fun j => by rw [p.k j]; exact hb) p.pass ha hn hdb he hpl
/-- the last parameter is filled by its default -/
theorem de_fnD {x : Str} {ps : List Str} {dv : V} {dd : D} {e : Expr} {es : List Expr} {g : Sm M (List S)} {c : List S → M.T → Rs S M.T} {pp pos : Pos} (p : Pc P w K mg base N W n X) (h : FnAt M P w K mg base xr n x ps [dv] c) (hdd : ∀ F, Da K F dv dd) (ha : DA M xr K X W (e :: es) g) (hn : ∀ z ss z1, g z = .ok ss z1 → ss.length + 1 = ps.length) (hg : ∀ j, Gl (X j) x := by intro _; rfl)
    (hdb : (x == ("__debug__" : Str)) = false := by decide) (he : ∀ j, starEach (e :: es) (X j).env = (false, eval e (X j).env) :: starEach es (X j).env := by intro _; rfl) (hpl : ∀ j, (backTo pos (starEach es (X j).env)).any (·.1) = false := by intro _; rfl) :
    DE M xr K X W (.Call (.Name x pp) (e :: es) [] pos) (eCall c (aDef [dd] g)) := by
  obtain ⟨f, fd, hF, _, ⟨ds, hv, hb⟩, hk, hm⟩ := h
  exact de_callD (CX := L2.CX P w) (f := f) (fd := fd) (ps := ps) (k := n + 8) hdd hv (fun j => by rw [p.pr j, p.pw j, p.k j, p.g j, p.pb j]; exact hF) p.room p.gd hg (fun j => by rw [p.g j]; exact hm) (fun j => by rw [p.k j]; exact hk) (fun j => by rw [p.k j]; exact hb) p.pass ha hn hdb he hpl
theorem de_fn0 {x : Str} {dvs : List V} {c : List S → M.T → Rs S M.T} {pp pos : Pos} (p : Pc P w K mg base N W n X) (h : FnAt M P w K mg base xr n x [] dvs c) (hg : ∀ j, Gl (X j) x := by intro _; rfl) (hdb : (x == ("__debug__" : Str)) = false := by decide) :
    DE M xr K X W (.Call (.Name x pp) [] [] pos) (eCall c aNil) := by
  obtain ⟨f, fd, hF, hb, _, hk, hm⟩ := h
  exact de_call0 (CX := L2.CX P w) (f := f) (fd := fd) (ps := []) (k := n + 8) (fun j => by rw [p.pr j, p.pw j, p.k j, p.g j, p.pb j]; exact hF) p.room p.gd hg (fun j => by rw [p.g j]; exact hm) (fun j => by rw [p.k j]; exact hk) (fun j => by rw [p.k j]; exact hb) p.pass hdb
/-- where a def stands in the text -/
def FnIn (K : PySem.W.Frag) (mg : Str → Option Value) (x : Str) (st : Stmt) (ps : List Str) (dvs : List V) : Prop := ∃ f fd, FunD K x x (defArgs st) (defBody st) (defScope st) dvs [] f fd ∧ Binds K fd ps [] ∧ (∃ ds, Vals dvs ds ∧ Binds K fd ps ds) ∧ mg x = some (.ref f)
theorem fnAt_zero {x : Str} {st : Stmt} {ps : List Str} {dvs : List V} (h : FnIn K mg x st ps dvs) : FnAt M P w K mg base xr 0 x ps dvs (fun _ _ => .bad) := by
  obtain ⟨f, fd, hF, hb, hd, hm⟩ := h
  have no : ∀ vs H Q E, ¬ spM M K xr ps.length (fun _ _ => .bad) vs H Q E := fun vs H Q E h => by
    obtain ⟨_, _, _, _, _, _, _, _, _, _, z⟩ := h
    exact z
  exact ⟨f, fd, ⟨fun vs H Q E h => absurd h (no vs H Q E), fun A outer s H args us vs Q E _ _ _ _ _ h => absurd h (no vs H Q E)⟩, hb, hd, hF.kp, hm⟩
theorem fnAt_succ {x : Str} {st : Stmt} {ps : List Str} {dvs : List V} {b : Sm M Out} (h : FnIn K mg x st ps dvs) (Sc : FnScope N ps (defScope st))
    (hb : ∀ (f : Addr) (cdv : Value) (A : Around) (outer : List Env) (s : Shared) (H : Hp) (E : XK), Room (n + 8) (A.deeper (PyProof.Rows.envOfC x (defScope st) s.heap.objs.size f cdv)) → A.guards = some [] →
      DSs M xr K (fun _ : Unit => cxOf (L2.CX P w) P w K mg base N x (defScope st) f cdv A outer s H E) (fun cls d _ H => E cls d H) (defBody st) b) : FnAt M P w K mg base xr (n + 1) x ps dvs (fnM N.length b) := by
  obtain ⟨f, fd, hF, hbd, hd, hm⟩ := h
  exact ⟨f, fd, okM hF Sc (hb f), hbd, hd, hF.kp, hm⟩
end
/-- a module's constant that is data -/
def GlD (K : PySem.W.Frag) (mg : Str → Option Value) (x : Str) (d : D) : Prop := ∃ v u, mg x = some u ∧ RelV v u ∧ ∀ F, Da K F v d
section
variable {ι : Type} {M : MI} {xr : Str → Option Value} {K : PySem.W.Frag} {X : ι → Cx} {W : WX} {N : List Str} {mg : Str → Option Value}
theorem de_const {x : Str} {d : D} {pos : Pos} (p : Pl K X N mg) (h : GlD K mg x d) (hg : ∀ j, Gl (X j) x := by intro _; rfl) (hb : (x == ("__debug__" : Str)) = false := by decide) : DE M xr K X W (.Name x pos) (eC d) := by
  obtain ⟨v, u, hm, r, hd⟩ := h
  exact de_glob hg (fun j => by rw [p.g j]; exact hm) r hd hb
theorem cmp_chain {r r' : R2} {g g' : D → D → Option R} {ta tb tc : TE} {f f' f'' : Sm M S} (hd : Op2 K r g) (hd' : Op2 K r' g') (ha : Cmp M K xr W ta RelE f) (hb : Cmp M K xr W tb RelE f') (hc : Cmp M K xr W tc RelE f'') : Cmp M K xr W (tChain r r' ta tb tc) RelE (eChain g g' f f' f'') := by
  intro G σ H F z Q hK hx ok h
  refine cmp_opd ha G σ H F z _ hK hx ok (hit_bind h fun s z1 v H1 F1 _ sm1 ok1 e1 h1 => ?_)
  refine cmp_opd hb G σ H1 F1 z1 _ hK hx ok1 (hit_bind h1 fun s' z2 v' H2 F2 _ sm2 ok2 e2 h2 => ?_)
  have h3 : HitG M G W σ F2 (RelE G σ) (fin ((rd z2 s).bind fun x => (rd z2 s').bind fun y => g x y) z2) (fun z H3 => ∃ k, z = .bl k ∧ if k = true then tc σ H3 fun w H4 => r' v' w H4 Q else Q (.bl false) H3) := by
    refine hit_bind h2 fun s3 z3 v3 H3 F3 e3 sm3 ok3 ev3 h3 => ?_
    have ez : z3 = z2 := by
      unfold fin at e3
      split at e3
      · cases e3; rfl
      · cases e3
    subst ez
    cases s3 with
    | d x =>
      cases x with
      | bl b =>
        cases (show Da G.K F3 v3 (.bl b) from ev3)
        refine ⟨b, rfl, ?_⟩
        cases b with
        | false =>
          rw [if_neg Bool.false_ne_true]
          exact h3 (.bl false) H3 F3 (Same.refl _) ok3 (Da.bl false)
        | true =>
          rw [if_pos rfl]
          refine cmp_opd hc G σ H3 F3 z3 _ hK hx ok3 (hit_bind h3 fun s4 z4 v4 H4 F4 _ sm4 ok4 e4 h4 => ?_)
          have q := fin_hit ok4 h4
          subst hK
          cases ea : rd z4 s' with
          | none => rw [ea] at q; exact q.elim
          | some x =>
            cases eb : rd z4 s4 with
            | none => rw [ea, eb] at q; exact q.elim
            | some y =>
              rw [ea, eb] at q
              exact hd' F4 H4 v' v4 x y Q ok4.sub (EO.rv ok4 (EO.mono (sm3.trans sm4) e2) ea) (EO.rv ok4 e4 eb) q
      | _ => exact h3.elim
    | _ => exact h3.elim
  have q := fin_hit ok2 h3
  subst hK
  cases ea : rd z2 s with
  | none => rw [ea] at q; exact q.elim
  | some x =>
    cases eb : rd z2 s' with
    | none => rw [ea, eb] at q; exact q.elim
    | some y =>
      rw [ea, eb] at q
      exact hd F2 H2 v v' x y _ ok2.sub (EO.rv ok2 (EO.mono sm2 e1) ea) (EO.rv ok2 e2 eb) q
theorem Cp.chain {op op' : CmpOp} {g g' : D → D → Option R} {a b c : Expr} {f f' f'' : Sm M S} {pos : Pos} (c1 : Cp K X op g) (c2 : Cp K X op' g') (ha : DE M xr K X W a f) (hb : DE M xr K X W b f') (hc : DE M xr K X W c f'') (hm : lastMarks [op, op'] [b, c] = false := by with_unfolding_all rfl) : DE M xr K X W (.Compare a [op, op'] [b, c] pos) (eChain g g' f f' f'') := by
  cases c1 with
  | mk r ho hd =>
    cases c2 with
    | mk r' ho' hd' =>
      obtain ⟨ta, pa, ca⟩ := ha
      obtain ⟨tb, pb, cb⟩ := hb
      obtain ⟨tc, pc, cc⟩ := hc
      exact ⟨_, fun j => pe_chain (ho j) (ho' j) (pa j) (pb j) (pc j) hm, cmp_chain hd hd' ca cb cc⟩
theorem Cp.chainT {op op' : CmpOp} {g g' : D → D → Option R} {a b c : Expr} {f f' f'' : Sm M S} {pos : Pos} (c1 : Cp K X op g) (c2 : Cp K X op' g') (ha : DE M xr K X W a f) (hb : DE M xr K X W b f') (hc : DE M xr K X W c f'') (hm : lastMarks [op, op'] [b, c] = false := by with_unfolding_all rfl) : DT M xr K X W (.Compare a [op, op'] [b, c] pos) (tOf (eChain g g' f f' f'')) := by
  cases c1 with
  | mk r ho hd =>
    cases c2 with
    | mk r' ho' hd' =>
      obtain ⟨ta, pa, ca⟩ := ha
      obtain ⟨tb, pb, cb⟩ := hb
      obtain ⟨tc, pc, cc⟩ := hc
      exact ⟨_, fun j => pt_chain (ho j) (ho' j) (pa j) (pb j) (pc j) hm, cmp_tOf (cmp_chain hd hd' ca cb cc)⟩
end
theorem daAll_strs {K : PySem.W.Frag} {F : Hp} : ∀ ss : List Str, DaAll K F (ss.map V.str) (ss.map D.str)
  | [] => .nil
  | s :: r => .cons (.str s) (daAll_strs r)
theorem glD_strs {K : PySem.W.Frag} {mg : Str → Option Value} {x : Str} (ss : List Str) {a : Addr} {o : Obj} {its : List Value} {n : Nat} (g : mg x = some (.ref a)) (gl : K.lookup a = some o) (gc : o.cls = .type "tuple") (gd : o.data = .seq its.toArray n) (hv : Vals (ss.map V.str) its) (hl : ss.length ≤ 1000) : GlD K mg x (.tup (ss.map D.str)) :=
  ⟨.ref a, _, g, rfl, fun F => .tup (.inr ⟨o, _, n, gl, gc, gd, by
    have e := hv.length
    rw [List.length_map] at e
    rw [List.size_toArray, ← e]
    exact Nat.le_of_lt (small1000 hl), hv⟩) (daAll_strs ss)⟩
theorem funD_mk {K : PySem.W.Frag} {x : Str} {st : Stmt} {f : Addr} {oc : Value} {od an : Option Addr} {osl : Array (Option Value)} {kV doc pm cdv ct : Value} (l : K.lookup f = some ⟨oc, od, .func (PySem.W.fnOf x x (defArgs st) (defBody st) (defScope st) .none kV doc pm an cdv ct), osl⟩) (c : PySem.W.codeIn K cdv x = true) (k : PySem.W.keepIn K (.ref f) = true) :
    FunD K x x (defArgs st) (defBody st) (defScope st) [] [] f (PySem.W.fnOf x x (defArgs st) (defBody st) (defScope st) .none kV doc pm an cdv ct) := ⟨⟨oc, od, .none, kV, doc, pm, an, cdv, ct, osl, rfl, l, c, .inl ⟨rfl, rfl⟩, .inl rfl⟩, k⟩
theorem fnIn_mk {K : PySem.W.Frag} {h : Heap} {mg : Str → Option Value} {x : Str} {st : Stmt} {ps : List Str} {f : Addr} {oc : Value} {od an : Option Addr} {osl : Array (Option Value)} {kV doc pm cdv ct : Value} (X : K.In h) (G : h.Ns mainGlobals mg) (a : PySem.W.nsIn K mainGlobals x = some (some (.ref f)))
    (l : K.lookup f = some ⟨oc, od, .func (PySem.W.fnOf x x (defArgs st) (defBody st) (defScope st) .none kV doc pm an cdv ct), osl⟩) (c : PySem.W.codeIn K cdv x = true) (k : PySem.W.keepIn K (.ref f) = true)
    (hb : ∀ (kV doc pm : Value) (an : Option Addr) (cdv ct : Value) (us : List Value), us.length = ps.length → bindArgs (PySem.W.fnOf x x (defArgs st) (defBody st) (defScope st) .none kV doc pm an cdv ct) ⟨us, []⟩ = pure (ps.zip us)) : FnIn K mg x st ps [] :=
  ⟨f, _, funD_mk (st := st) l c k, (fun_mk (st := st) l c k).binds hb, ⟨[], .nil, (fun_mk (st := st) l c k).binds hb⟩, PySem.W.mg_of X G a⟩
theorem seq_bindS {α β : Type} {m : Sem α} {k k' : α → Sem β} (h : k = k') : m >>= k = m >>= k' := by rw [h]
/-- a def whose last parameter has an int for a default -/
theorem fnIn_mkD {K : PySem.W.Frag} {h : Heap} {mg : Str → Option Value} {x : Str} {st : Stmt} {ps : List Str} {f T : Addr} {oc ocT : Value} {od an odT : Option Addr} {osl oslT : Array (Option Value)} {kV doc pm cdv ct : Value} {i : Int} {tk : Tok} {nT : Nat} (X : K.In h) (G : h.Ns mainGlobals mg) (a : PySem.W.nsIn K mainGlobals x = some (some (.ref f)))
    (l : K.lookup f = some ⟨oc, od, .func (PySem.W.fnOf x x (defArgs st) (defBody st) (defScope st) (.ref T) kV doc pm an cdv ct), osl⟩) (c : PySem.W.codeIn K cdv x = true) (k : PySem.W.keepIn K (.ref f) = true) (lT : K.lookup T = some ⟨ocT, odT, .seq #[.int i tk] nT, oslT⟩)
    (hb0 : ∀ (kV doc pm : Value) (an : Option Addr) (cdv ct : Value) (us its : List Value), us.length = ps.length → its.length = 1 → ∃ k, bindArgs (PySem.W.fnOf x x (defArgs st) (defBody st) (defScope st) (.ref T) kV doc pm an cdv ct) ⟨us, []⟩ = seqItems? (.ref T) >>= k ∧ k (some its.toArray) = pure (ps.zip (us ++ its.drop 1)))
    (hb1 : ∀ (kV doc pm : Value) (an : Option Addr) (cdv ct : Value) (us its : List Value), us.length + 1 = ps.length → its.length = 1 → ∃ k, bindArgs (PySem.W.fnOf x x (defArgs st) (defBody st) (defScope st) (.ref T) kV doc pm an cdv ct) ⟨us, []⟩ = seqItems? (.ref T) >>= k ∧ k (some its.toArray) = pure (ps.zip (us ++ its.drop 0))) (hp : 1 ≤ ps.length) : FnIn K mg x st ps [V.int i] := by
  have F : FunD K x x (defArgs st) (defBody st) (defScope st) [V.int i] [] f (PySem.W.fnOf x x (defArgs st) (defBody st) (defScope st) (.ref T) kV doc pm an cdv ct) := ⟨⟨oc, od, .ref T, kV, doc, pm, an, cdv, ct, osl, rfl, l, c, .inr ⟨by simp, T, _, [.int i tk], nT, rfl, lT, rfl, .cons ⟨tk, rfl⟩ .nil⟩, .inl rfl⟩, k⟩
  have mk : ∀ (us : List Value) (s : Shared), K.In s.heap → us.length = ps.length → BindsTo s (PySem.W.fnOf x x (defArgs st) (defBody st) (defScope st) (.ref T) kV doc pm an cdv ct) ⟨us, []⟩ (ps.zip us) := fun us s hK hl => by
    obtain ⟨kk, e1, e2⟩ := hb0 kV doc pm an cdv ct us [.int i tk] hl rfl
    refine BindsTo.of_looks fun M => ?_
    rw [e1]
    exact looks_items (its := [Value.int i tk].toArray) hK lT rfl (.of_pure (by rw [e2]; simp))
  have mk1 : ∀ (us : List Value) (s : Shared), K.In s.heap → us.length + 1 = ps.length → BindsTo s (PySem.W.fnOf x x (defArgs st) (defBody st) (defScope st) (.ref T) kV doc pm an cdv ct) ⟨us, []⟩ (ps.zip (us ++ [.int i tk])) := fun us s hK hl => by
    obtain ⟨kk, e1, e2⟩ := hb1 kV doc pm an cdv ct us [.int i tk] hl rfl
    refine BindsTo.of_looks fun M => ?_
    rw [e1]
    exact looks_items (its := [Value.int i tk].toArray) hK lT rfl (.of_pure e2)
  refine ⟨f, _, F, fun s us hK hl => ?_, ⟨[.int i tk], .cons ⟨tk, rfl⟩ .nil, fun s us hK hl => mk1 us s hK (by rw [List.length_append] at hl; exact hl)⟩, PySem.W.mg_of X G a⟩
  rw [List.append_nil] at hl ⊢
  exact mk us s hK hl
end G
namespace G
open PySem L2
/-! ### what is never reached needs no rule -/
section
variable {ι : Type} {M : MI} {xr : Str → Option Value} {K : PySem.W.Frag} {X : ι → Cx} {W : WX}
def sBad : Sm M Out := fun _ => .bad
def eBad : Sm M S := fun _ => .bad
theorem ds_bad {st : Stmt} : DS M xr K X W st sBad := ⟨fun _ _ _ => False, fun _ => ⟨fun _ _ _ _ _ _ h => h.elim⟩, fun _ _ _ _ _ _ _ _ _ h => h⟩
theorem de_bad {e : Expr} : DE M xr K X W e eBad := ⟨fun _ _ _ => False, fun _ => ⟨fun _ _ _ _ _ _ h => h.elim⟩, fun _ _ _ _ _ _ _ _ _ h => h⟩
end
/-! ### repr of tuples and lists -/
def rRepr (K : PySem.W.Frag) : List V → Hp → VK → Prop := fun xs H Q => (xs = [.non] ∧ Q (.str "None") H) ∨ ∃ a d, xs = [.ref a] ∧ Dp K H (.ref a) d ∧ d.canLay0 = true ∧ d.showable = true ∧ d.depth ≤ 290 ∧ d.shown.length ≤ sizeLine ∧ Q (.str d.shown) H
theorem call_repr {X : Cx} (hg : X.A.guards = some []) (hu : X.A.units + 300 < cLine) : CallR X (.builtin "repr") (rRepr X.K) := by
  intro pins s σ H xs us Q I r h
  rcases h with ⟨rfl, q⟩ | ⟨a, d, rfl, hd, h1, h2, h3, h4, q⟩
  · cases r with
    | cons ru rt =>
      cases rt
      cases ru
      exact PySem.P.repr_of_none ⟨.str _, H, I.tok _, ⟨_, rfl⟩, q⟩
  cases r with
  | cons ru rt =>
    cases rt
    cases ru
    obtain ⟨as, rr⟩ := Dp.reads I d (.ref a) (.ref a) hd rfl
    exact repr_of_reads' rr h2 (PyData.noDict_hsm (PyData.hasDict_of_canLay d h1)) hg (by omega) (fun b o e => e) (fun h' u tk hk => ⟨.str d.shown, H, I.kept hk, ⟨u, rfl⟩, q⟩) h4
def shw (d : D) : Str := (toPy d).shown
def showOk (d : D) : Bool := lay d && ((toPy d).showable && (decide (dep d ≤ 290) && decide ((shw d).length ≤ 15000000)))
def fRepr : List D → Option R := fun as => match as with
  | [.non] => some (.d (.str "None"))
  | [.tup xs] => if showOk (.tup xs) = true then some (.d (.str (shw (.tup xs)))) else none
  | [.lst xs] => if showOk (.lst xs) = true then some (.d (.str (shw (.lst xs)))) else none
  | _ => none
theorem repr_hit {K : PySem.W.Frag} {F H : Hp} {v : V} {d : D} {Q : VK} (s : SameX F H) (r : Rv K F H v d) (hv : ∃ a, v = .ref a) (h : Hit0 K F H (if showOk d = true then some (.d (.str (shw d))) else none) Q) : rRepr K [v] H Q := by
  obtain ⟨a, rfl⟩ := hv
  by_cases hs : showOk d = true
  · rw [if_pos hs] at h
    unfold showOk at hs
    rw [Bool.and_eq_true, Bool.and_eq_true, Bool.and_eq_true] at hs
    exact .inr ⟨a, toPy d, rfl, r.dp s hs.1, by rw [canLay_toPy]; exact hs.1, hs.2.1, by rw [depth_toPy]; exact of_decide_eq_true hs.2.2.1, (by have q : (toPy d).shown.length ≤ 15000000 := of_decide_eq_true hs.2.2.2; rw [sizeLine_eq]; omega), h _ (.str _)⟩
  · rw [if_neg hs] at h
    exact h.elim
theorem opn_repr {K : PySem.W.Frag} : OpN K (rRepr K) fRepr := by
  intro F H xs as Q s hp h
  match as, hp, h with
  | [.tup ds], hp, h =>
    obtain ⟨x, rfl, r⟩ := p1 hp
    obtain ⟨a, vs, rfl, _, _⟩ := r.tup s
    exact repr_hit s r ⟨a, rfl⟩ h
  | [.lst ds], hp, h =>
    obtain ⟨x, rfl, r⟩ := p1 hp
    obtain ⟨a, vs, rfl, _, _⟩ := r.lst s
    exact repr_hit s r ⟨a, rfl⟩ h
  | [], _, h => exact h.elim
  | [.non], hp, h =>
    obtain ⟨x, rfl, r⟩ := p1 hp
    have := r.da (fun _ q => by cases q)
    cases this
    exact .inl ⟨rfl, h _ (.str _)⟩
  | [.bl _], _, h => exact h.elim
  | [.int _], _, h => exact h.elim
  | [.str _], _, h => exact h.elim
  | [.scr _], _, h => exact h.elim
  | [.emp], _, h => exact h.elim
  | [.exc _ _], _, h => exact h.elim
  | [.o _], _, h => exact h.elim
  | .non :: _ :: _, _, h => exact h.elim
  | .bl _ :: _ :: _, _, h => exact h.elim
  | .int _ :: _ :: _, _, h => exact h.elim
  | .str _ :: _ :: _, _, h => exact h.elim
  | .tup _ :: _ :: _, _, h => exact h.elim
  | .lst _ :: _ :: _, _, h => exact h.elim
  | .scr _ :: _ :: _, _, h => exact h.elim
  | .emp :: _ :: _, _, h => exact h.elim
  | .exc _ _ :: _ :: _, _, h => exact h.elim
  | .o _ :: _ :: _, _, h => exact h.elim
section
variable {ι : Type} {P : Program} {w : World} {K : PySem.W.Frag} {mg : Str → Option Value} {base : Heap} {N : List Str} {W : WX} {n : Nat} {X : ι → Cx}
theorem fb_repr (p : Pc P w K mg base N W n X) : Fb K X "repr" fRepr := .fn "repr" (rRepr K) (fun j => by rw [← p.k j]; exact call_repr (p.gd j) (p.u j)) opn_repr PyProof.Rows.boot_repr (by decide) (by decide)
end
end G
namespace G
open PySem L2
section
variable {ι : Type} {M : MI} {xr : Str → Option Value} {K : PySem.W.Frag} {X : ι → Cx} {W : WX} {N : List Str} {mg : Str → Option Value} {pos : Pos}
/-! ### range of two, and downwards -/
def intsS : List S → Option (List Int)
  | [] => some []
  | .d (.int i) :: r => (intsS r).map (i :: ·)
  | _ => none
theorem intsS_eq {G : Gx} {σ : St} {F : Hp} : ∀ {ss : List S} {vs : List V} {is : List Int}, Paired (fun v s => EO G σ F v s) vs ss → intsS ss = some is → vs = is.map V.int
  | [], _, _, .nil, e => by cases e; rfl
  | .d (.int i) :: r, _, is, .cons a t, e => by
    unfold intsS at e
    cases h : intsS r with
    | none => rw [h] at e; cases e
    | some js =>
      rw [h] at e
      cases e
      rw [List.map_cons, intsS_eq t h]
      cases (show Da G.K F _ (.int i) from a)
      rfl
  | .d .non :: _, _, _, _, e => by cases e
  | .d (.bl _) :: _, _, _, _, e => by cases e
  | .d (.str _) :: _, _, _, _, e => by cases e
  | .d (.tup _) :: _, _, _, _, e => by cases e
  | .d (.lst _) :: _, _, _, _, e => by cases e
  | .d (.scr _) :: _, _, _, _, e => by cases e
  | .d .emp :: _, _, _, _, e => by cases e
  | .d (.exc _ _) :: _, _, _, _, e => by cases e
  | .d (.o _) :: _, _, _, _, e => by cases e
  | .l _ :: _, _, _, _, e => by cases e
  | .v _ :: _, _, _, _, e => by cases e
  | .m _ :: _, _, _, _, e => by cases e
def inR (j : Int) : Bool := decide (-(2 ^ 62) ≤ j ∧ j < 2 ^ 62)
def rg2D : Option (List Int) → Option (List D)
  | some [i, j] => if (inR i && inR j) = true then some (rangeD i (j - i).toNat) else none
  | _ => none
def downD (i : Int) (n : Nat) : List D := (List.range n).map fun (k : Nat) => D.int (i + (k : Int) * (-1))
def rg3D : Option (List Int) → Option (List D)
  | some [i, j, -1] => if (inR i && inR j) = true then some (downD i (i - j).toNat) else none
  | _ => none
def iRg2M (g : Sm M (List S)) : Sm M (List D) := fun z => (g z).bind fun ss z1 => Rs.opt (rg2D (intsS ss)) z1
def iRg3M (g : Sm M (List S)) : Sm M (List D) := fun z => (g z).bind fun ss z1 => Rs.opt (rg3D (intsS ss)) z1
theorem wk_down {F : Hp} (lo : Int) (n : Nat) : Wk K F (Itc lo (-1) n) (downD lo n) := by
  have w := (walk_rangeC (lo := lo) (c := -1) (n := n)).mono (G' := fun H => SameX F H) (Y' := YD K F (downD lo n)) (fun H s => trivial) (fun i H x H' hi _ ⟨e1, e2⟩ => by
    rw [e1, e2]
    refine yd_old (d := .int (lo + (i : Int) * (-1))) ?_ (.int _)
    unfold downD
    rw [List.getElem?_map, List.getElem?_range hi]
    rfl)
  have e : (downD lo n).length = n := by unfold downD; rw [List.length_map, List.length_range]
  unfold Wk
  rw [e]
  exact w
theorem inR_of {j : Int} (h : inR j = true) : -(2 ^ 62) ≤ j ∧ j < 2 ^ 62 := of_decide_eq_true h
theorem di_range3 {tg a b c : Expr} {g : Sm M (List S)} {pp : Pos} (p : Pl K X N mg) (hm : mg "range" = none) (ha : DA M xr K X W [a, b, c] g) (hg : ∀ j, Gl (X j) "range" := by intro _; rfl) (hs : ∀ j, starEach [a, b, c] (X j).env = (false, eval a (X j).env) :: starEach [b, c] (X j).env := by intro _; rfl) (hpl : ∀ j, (backTo pos (starEach [b, c] (X j).env)).any (·.1) = false := by intro _; rfl) :
    DI M xr K X W tg (.Call (.Name "range" pp) [a, b, c] [] pos) (iRg3M g) := by
  obtain ⟨t, pa, ca⟩ := ha
  refine ⟨_, fun j => pi_range3 (hg j) (by rw [p.g j]; exact hm) (pa j) (hs j) (hpl j), fun G σ H F z Q hK hx ok hh => ?_⟩
  refine ca G σ H F z _ hK hx ok (hit_bind hh fun ss z1 vs H1 F1 _ sm ok1 ea h1 => ?_)
  cases e : intsS ss with
  | none => rw [e] at h1; exact h1.elim
  | some is =>
    have ev := intsS_eq ea e
    rw [e] at h1
    unfold rg3D at h1
    split at h1
    · rename_i i j q
      cases q
      by_cases hb : (inR i && inR j) = true
      · rw [if_pos hb] at h1
        rw [Bool.and_eq_true] at hb
        have b1 := inR_of hb.1
        have b2 := inR_of hb.2
        exact ⟨i, j, -1, (i - j).toNat, ev, RgC.neg b1.1 b1.2 b2.1 b2.2, h1 _ H1 F1 (Same.refl _) ok1 (wk_down i _)⟩
      · rw [if_neg hb] at h1
        exact h1.elim
    · exact h1.elim
end
end G
namespace G
open PySem L2
theorem okG {P : Program} {w : World} {K : PySem.W.Frag} {mg : Str → Option Value} {base : Heap} {x qual : Str} {st : Stmt} {f : Addr} {fd : FuncData} {dvs : List V} {N ps : List Str} {k : Nat} {sp : Sp} (F : FunD K x qual (defArgs st) (defBody st) (defScope st) dvs [] f fd) (Sc : FnScope N ps (defScope st)) (len : ∀ vs H Q E, sp vs H Q E → vs.length = ps.length)
    (hb : ∀ (cdv : Value) (A : Around) (outer : List Env) (s : Shared) (H : Hp) (vs : List V) (Q : VK) (E : XK), Room k (A.deeper (PyProof.Rows.envOfC qual (defScope st) s.heap.objs.size f cdv)) → A.guards = some [] → sp vs H Q E →
      ∃ t, PSs (cxOf (L2.CX P w) P w K mg base N qual (defScope st) f cdv A outer s H E) (defBody st) t ∧ t { nx := fun _ H' => Q .non H', rt := Q } (start N vs) H) : FnG P w K mg base (L2.CX P w) (k + 1) f fd ps sp := by
  obtain ⟨oc, od, dV, kV, doc, pm, an, cdv, ct, osl, rfl, lk, hcd, _, _⟩ := F.ex
  exact fnG lk hcd Sc len (fun A outer s H vs Q E hr hg h => hb cdv A outer s H vs Q E hr hg h)
end G
namespace G
open PySem L2
section
variable {ι : Type} {M : MI} {xr : Str → Option Value} {K : PySem.W.Frag} {X : ι → Cx} {W : WX}
/-- a, b = x, y -/
def sPar (i j : Nat) (g : Sm M (List S)) : Sm M Out := fun z => (g z).bind fun ss z1 => match ss with
  | [.d x, .d y] => .ok .nx { z1 with rho := (z1.rho.set i (some (.d x))).set j (some (.d y)) }
  | _ => .bad
theorem ds_par {i j : Nat} {x y : Str} {a b : Expr} {g : Sm M (List S)} {px py pt pos : Pos} {kt k2 pt2} (hc : ∀ q, (X q).calm = true) (hN : ∀ q, (X q).N.Nodup) (hi : ∀ q, (X q).N[i]? = some x) (hj : ∀ q, (X q).N[j]? = some y) (hij : i ≠ j) (hx : ∀ q, (X q).env.scope.names.lookup x = some .local) (hy : ∀ q, (X q).env.scope.names.lookup y = some .local) (ha : DA M xr K X W [a, b] g)
    (hw : ∀ q, swappedStores [.Tuple [.Name x px, .Name y py] kt pt] (.Tuple [a, b] k2 pt2) (X q).env = pure (some [x, y]) := by intro _; rfl) (hs : ∀ q, swapsWithSole [.Tuple [.Name x px, .Name y py] kt pt] (.Tuple [a, b] k2 pt2) pos.line (X q).env = pure false := by intro _; rfl) :
    DS M xr K X W (.Assign [.Tuple [.Name x px, .Name y py] kt pt] (.Tuple [a, b] k2 pt2) pos) (sPar i j g) := by
  obtain ⟨t, p, c⟩ := ha
  refine ⟨_, fun q => ps_par (hc q) (hN q) (hi q) (hj q) hij (hx q) (hy q) (p q) (hw q) (hs q), fun G σ H F z D hK hx ok hh => ?_⟩
  refine c G σ H F z _ hK hx ok (hits_bind hh fun ss z1 vs H1 F1 _ sm ok1 ea h2 => ?_)
  match ss, vs, ea, h2 with
  | [.d x, .d y], _, .cons a (.cons b .nil), h2 =>
    refine ⟨_, _, rfl, h2 _ H1 F1 (Same.refl _) ?_⟩
    have ok2 := ok1.set (i := i) (s := .d x) (show Da G.K F1 _ x from a) (fun _ e => by cases e)
    exact ok2.set (i := j) (s := .d y) (show Da G.K F1 _ y from b) (fun _ e => by cases e)
  | [], _, _, h2 => exact h2.elim
  | [.d _], _, _, h2 => exact h2.elim
  | .l _ :: _, _, _, h2 => exact h2.elim
  | .v _ :: _, _, _, h2 => exact h2.elim
  | .m _ :: _, _, _, h2 => exact h2.elim
  | .d _ :: .l _ :: _, _, _, h2 => exact h2.elim
  | .d _ :: .v _ :: _, _, _, h2 => exact h2.elim
  | .d _ :: .m _ :: _, _, _, h2 => exact h2.elim
  | .d _ :: .d _ :: _ :: _, _, _, h2 => exact h2.elim
end
end G
/-! An exception that is caught and kept by a name. -/
namespace G
open PySem L2 PySem.Spec PyProof.Rows
theorem xo_ok {P : Program} {w : World} {H : Hp} {h : Heap} {a : Addr} {cls : Value} {d : Option Addr} {ox : Obj} {fs : Array Value} (e : h.get? a = some ox) (z : Zc cls d ox) (q : ox.data = .fields fs) : ObjOk P w H h a (XO cls d a) :=
  ⟨⟨ox, fs, e, z, q⟩, ⟨ox, e⟩, fun h1 h2 ⟨o1, f1, a1, b1, c1⟩ st => ⟨o1, f1, st _ a1, b1, c1⟩⟩
section
variable {Y : Cx} {ps : List (Addr × Obj)} {τ : L2.St} {H : Hp} {t : Shared}
theorem inv_keepX {a : Addr} {ox : Obj} {fs : Array Value} {cls : Value} {d : Option Addr} (J : Inv Y ((a, ox) :: ps) τ H t) (hz : Zc cls d ox) (hd : ox.data = .fields fs) (h0 : Y.s_0.heap.get? a = none) (hne : ∀ p ∈ Y.pn ++ ps, p.1 ≠ a) : Inv Y ps τ (upd H a (XO cls d a)) t := by
  obtain ⟨g1, g2, g3, g4, g5⟩ := J.pin (a, ox) (List.mem_append_right _ List.mem_cons_self)
  have nb : ∀ {b : Addr} {o : HO}, H b = some o → b ≠ a := fun {b o} e => ne_of_none e g2
  refine ⟨J.ok, J.os, J.bare, ⟨J.base.keep, J.base.slot, fun b o e n hx => ?_, J.base.there, fun b xs e => ?_, fun b o u e => ?_, fun b ys e => ?_⟩, J.loc, J.cell, ?_, fun x c e => ?_, fun p hp => ?_, fun b u e => ?_, J.len⟩
  · have z : b ≠ a := fun q => by rw [q, h0] at e; cases e
    rw [upd_ne z]
    exact J.base.free b o e n hx
  · have q := J.base.tups b xs e
    rw [upd_ne (nb q)]
    exact q
  · have q := J.base.frzs b o u e
    rw [upd_ne (nb q)]
    exact q
  · obtain ⟨more, q⟩ := J.base.tbls b ys e
    exact ⟨more, by rw [upd_ne (nb q)]; exact q⟩
  · rw [upd_ne (Ne.symm g3)]
    exact J.free
  · obtain ⟨v, o, ho, hc⟩ := J.cell x c e
    have z : c ≠ a := fun q => by
      rw [q, g1] at ho
      cases ho
      exact g5 v hc
    rw [upd_ne z]
    exact J.freeC x c e
  · have hp' : p ∈ Y.pn ++ (a, ox) :: ps := by
      rcases List.mem_append.mp hp with q | q
      · exact List.mem_append_left _ q
      · exact List.mem_append_right _ (List.mem_cons_of_mem _ q)
    obtain ⟨r1, r2, r3, r4, r5⟩ := J.pin p hp'
    exact ⟨r1, by rw [upd_ne (hne p hp)]; exact r2, r3, r4, r5⟩
  · by_cases hb : b = a
    · subst hb
      rw [upd_same] at e
      cases e
      exact xo_ok g1 hz hd
    · rw [upd_ne hb] at e
      refine (J.hok b u e).stay (fun _ _ _ q => q) (fun c q => ?_) fun c xs q => ?_
      · rw [upd_ne (nb q)]; exact q
      · rw [upd_ne (nb q)]; exact q
theorem sky_new {B : Heap} {l : List Env} {a L : Addr} {Z : Obj → Prop} {h : Heap} (k : Sky B l a Z L h) : B.get? a = none := by
  rcases k with ⟨_, k, _⟩ | ⟨_, k, _⟩ | ⟨_, k, _⟩
  · exact k
  · exact k
  · exact k
/-- the wish of «except x as n: suite» whose exception is known from then on -/
def wKeep (K : PySem.W.Frag) (c : Value) (i : Nat) (ts : Addr → Value → Option Addr → TS) (Wo : WX) (D : Ends) : WX := fun cls d τ H =>
  ∃ b, PySem.W.exmOne K cls c = some b ∧ (b = true → ∀ a, H a = none → ts a cls d { nx := fun τ1 H1 => H1 a = none → D.nx (τ1.set i none) (upd H1 a (XO cls d a)), rt := fun _ _ => False, bk := fun _ _ => False, ct := fun _ _ => False } (τ.set i (some (.ref a))) H) ∧ (b = false → Wo cls d τ H)
theorem ps_keep {x n : Str} {c : Value} {i : Nat} {body sut : List Stmt} {s0 : Stmt} {q1 q2 q3 : Pos} {tb : WX → TS} {ts : Addr → Value → Option Addr → TS} {Wo : WX} (hst : Y.stack = Y.env :: Y.outer) (hfr : Y.env.frame = some Y.env.locals) (hex : Y.ex = []) (nd : Y.N.Nodup) (hi : Y.N[i]? = some n) (hkn : Y.env.kindOf n = some .local) (hcl : Names Y x c) (tk : Takes Y Wo)
    (hbo : ∀ (V : WX) (pl : List (Addr × Obj)) (xw : Value → Shared → Prop), Takes (Y.tr pl xw) V → PassesOwn (model Y.prog Y.w) Y.A Y.env xw → PSs (Y.tr pl xw) body (tb V))
    (hsu : ∀ (a : Addr) (ox : Obj) (cls : Value) (d : Option Addr) (pl : List (Addr × Obj)), Zc cls d ox → (∃ fs, ox.data = .fields fs) → PSs (Y.suite a ((a, ox) :: pl)) (s0 :: sut) (ts a cls d)) :
    PS Y (.Try body [.ExceptHandler (some (.Name x q1)) (some n) (s0 :: sut) q2] [] [] q3) (fun D τ H => tb (wKeep Y.K c i ts Wo D) D τ H) := by
  refine ⟨fun ps t τ H D J h => ?_⟩
  have yk := J.ok
  have afr : Y.A.frames = some (Y.env :: Y.outer) := by rw [yk.frames, hst]
  have nloc : Loc Y.env.scope n := .inl hkn
  refine wpAny_Try_except ?_
  refine wpAny_mono ((hbo (wKeep Y.K c i ts Wo D) (Y.pn ++ ps) (fun e t1 => wpAny (model Y.prog Y.w) Y.A (noteFrame e Y.env) (fun _ t2 => wpAny (model Y.prog Y.w) Y.A (setFlight e none) (fun _ t3 =>
    wpAny (model Y.prog Y.w) Y.A (handleBy e Y.env [.ExceptHandler (some (.Name x q1)) (some n) (s0 :: sut) q2]) (SP Y ps D) Y.xe t3) Y.xe t2) Y.xe t1) (fun u t' fly => ?_) PassesOwn.looking).run [] t τ H D (J.toTry _) h) (fun fl t1 hend => ?_) (fun _ _ he => he)
  · obtain ⟨a, B, tI, ps', τ', H', cls, d, rfl, J0, grd, ups, sky, na, hos, hag, b, hb1, yes, no⟩ := fly
    have JI : Inv Y ps τ' H' tI := J0.ofTry yk
    have newB := sky_new sky
    have skyS : Sky B (Y.env :: Y.outer) a (Zc cls d) Y.env.locals t'.heap := by rw [← hst]; exact sky
    show wpAny (model Y.prog Y.w) Y.A (noteFrame (.ref a) Y.env) _ _ _
    refine Sky.land Zc.steady afr hfr skyS fun h3 f3 u3 => ?_
    have J3 : Inv Y ps τ' H' { t' with heap := h3 } := JI.landed grd f3.1 (ups.trans u3) hos hag
    obtain ⟨ox3, fs3, ex3, ez3, ed3⟩ := f3.there
    have apart : a ∉ frs (Y.env :: Y.outer) := fun hm => by
      obtain ⟨_, o', e', hnf⟩ := f3.2.2.1.mem hm
      rw [ex3] at e'
      cases e'
      exact hnf _ ed3
    have aL : a ≠ Y.env.locals := fun z => apart (List.mem_filterMap.mpr ⟨Y.env, List.mem_cons_self, by rw [hfr, z]⟩)
    have aF : a ∉ Y.fs := fun hm => by
      obtain ⟨e, he, q⟩ := List.mem_filterMap.mp hm
      exact apart (List.mem_filterMap.mpr ⟨e, List.mem_cons_of_mem _ he, q⟩)
    have newI : tI.heap.get? a = none := by
      cases q : tI.heap.get? a with
      | none => rfl
      | some o =>
        have := grd a o q (by show a ∉ frs Y.stack; rw [hst]; exact apart)
        rw [newB] at this
        cases this
    have new0 : Y.s_0.heap.get? a = none := by
      cases q : Y.s_0.heap.get? a with
      | none => rfl
      | some o =>
        obtain ⟨o', q'⟩ := JI.base.there a o q (by rw [hex]; exact List.not_mem_nil)
        rw [newI] at q'
        cases q'
    have others : ∀ p ∈ Y.pn ++ ps, p.1 ≠ a := fun p hp z => by
      have := (JI.pin p hp).1
      rw [z, newI] at this
      cases this
    have S3 := J3.suite ex3 ed3 na aL aF
    refine wpAny_handleBy_cons (codeAny_handlers_test ?_) (by intro q; cases q)
    have tyA : PySem.W.Looks (model Y.prog Y.w) h3 (typeOf (.ref a)) cls := fun A Q E s k q => wpAny_typeOf_ref (k _ _ ex3) (by rw [ez3.1]; exact q)
    have look := PySem.W.exm_one (M := model Y.prog Y.w) (J3.kIn) tyA hb1
    have nameC : ∀ {Q : Value → Shared → Prop} {E : Value → Shared → Prop}, Q c { t' with heap := h3 } → wpAny (model Y.prog Y.w) (Y.A.mark (some (.ref a))) (eval (.Name x q1) Y.env) Q E { t' with heap := h3 } := fun {Q E} q => by
      obtain ⟨hg, hdb, hm | ⟨hm, hv, hnn⟩⟩ := hcl
      · exact ld_glob (X := Y.suite a ((a, ox3) :: (Y.pn ++ ps))) S3 hg hm q hdb
      · exact ld_blt (X := Y.suite a ((a, ox3) :: (Y.pn ++ ps))) S3 hg hm hv q hnn hdb
    refine nameC (look.here ?_)
    cases b with
    | true =>
      refine codeAny_handlers_suite_as ?_
      refine HandSPX.lands_againZ f3 fun h4 f4 u4 => ?_
      have J4 : Inv Y ps τ' H' { t' with heap := h4 } := JI.landed grd f4.1 ((ups.trans u3).trans u4) hos hag
      obtain ⟨ox4, fs4, ex4, ez4, ed4⟩ := f4.there
      have S4 := J4.suite ex4 ed4 na aL aF
      refine store_ok (X := Y.suite a ((a, ox4) :: (Y.pn ++ ps))) (v := .ref a) S4 nd hi nloc rfl (fun t5 S5 => ?_) (.inr hkn)
      refine wpAny_mono ((hsu a ox4 cls d (Y.pn ++ ps) ez4 ⟨_, ed4⟩).run [] t5 _ H' _ S5 (yes rfl a na)) (fun fl t6 hend => ?_) (fun _ _ z => False.elim z)
      cases fl with
      | next =>
        obtain ⟨τ6, H6, S6, q6⟩ := hend
        have K6 : Inv Y ((a, ox4) :: ps) τ6 H6 t6 := ⟨yk, S6.os, S6.bare, S6.base, S6.loc, S6.cell, S6.free, S6.freeC, fun p hp => S6.pin p (by
          rcases List.mem_append.mp hp with r | r
          · exact List.mem_append_left _ (List.mem_cons_of_mem _ (List.mem_append_left _ r))
          · rcases List.mem_cons.mp r with r | r
            · rw [r]
              exact List.mem_append_left _ List.mem_cons_self
            · exact List.mem_append_left _ (List.mem_cons_of_mem _ (List.mem_append_right _ r))), S6.hok, S6.len⟩
        have na6 : H6 a = none := (K6.pin (a, ox4) (List.mem_append_right _ List.mem_cons_self)).2.1
        exact gone_ok (Q := fun _ t7 => SP Y ps D .next t7) K6 nd hi hkn fun t7 K7 => ⟨_, _, inv_keepX K7 ez4 ed4 new0 others, q6 na6⟩
      | brk =>
        obtain ⟨τ6, H6, S6, q6⟩ := hend
        exact q6.elim
      | cont =>
        obtain ⟨τ6, H6, S6, q6⟩ := hend
        exact q6.elim
      | ret u =>
        obtain ⟨v6, τ6, H6, S6, r6, q6⟩ := hend
        exact q6.elim
    | false =>
      show wpAny _ Y.A (handleBy (.ref a) Y.env []) _ _ _
      refine wpAny_handleBy_nil ?_
      obtain ⟨k1, k2, k3, oy, ys, Tr, oT, tt, ky, kz, kd, kh, kr⟩ := id f3
      unfold PySem.passOn
      refine wpAny_bind (wpAny_field ky kd kh ?_)
      rw [if_neg (show ¬ ((Value.ref Tr == Value.none) = true) from by simp)]
      have last : wpAny (model Y.prog Y.w) Y.A (setFlight (.ref a) Y.env.frame) (fun _ t4 => wpAny (model Y.prog Y.w) Y.A (throw (.ref a) : Sem Flow) (SP Y ps D) Y.xe t4) Y.xe { t' with heap := h3 } := by
        rw [hfr]
        refine HandSPX.setFlight_upZ f3 fun h4 hh4 u4 => wpAny_throw (tk _ _ ?_)
        exact ⟨a, B, tI, ps, τ', H', cls, d, rfl, JI, grd, (ups.trans u3).trans u4, .inr (.inr (by rw [hst]; exact hh4)), na, hos, hag, no rfl⟩
      first
        | exact wpAny_bind (wpAny_pure (wpAny_bind last))
        | exact wpAny_bind last
  · cases fl with
    | next =>
      obtain ⟨τ1, H1, J1, q⟩ := hend
      exact wpAny_execs_nil ⟨τ1, H1, J1.ofTry yk, q⟩
    | brk =>
      obtain ⟨τ1, H1, J1, q⟩ := hend
      exact ⟨τ1, H1, J1.ofTry yk, q⟩
    | cont =>
      obtain ⟨τ1, H1, J1, q⟩ := hend
      exact ⟨τ1, H1, J1.ofTry yk, q⟩
    | ret u =>
      obtain ⟨v, τ1, H1, J1, r, q⟩ := hend
      exact ⟨v, τ1, H1, J1.ofTry yk, r, q⟩
end
end G
/-! raise, try .. except C as e: y = e; isinstance of what was caught. -/
namespace G
open PySem L2
/-- an own exception class without __init__, over ValueError -/
structure XF (K : PySem.W.Frag) (mg : Str → Option Value) (x : Str) (C : Addr) : Prop where
  ns : PySem.W.nsIn K mainGlobals x = some (some (.ref C))
  gl : mg x = some (.ref C)
  ex : PySem.W.excIn K C [.type "ValueError", .type "Exception", .type "BaseException", .type "object"] "ValueError.__new__" = true
  kp : PySem.W.keepIn K (.ref C) = true
  sb : PySem.W.subIn K (.ref C) (.type "BaseException") = some true
  ty : PySem.W.typeIn K (.ref C) = some (.type "type")
theorem XF.xr {K : PySem.W.Frag} {mg : Str → Option Value} {x : Str} {C : Addr} (h : XF K mg x C) : xrK K x = some (.ref C) := by
  unfold xrK
  rw [h.ns]
section
variable {ι : Type} {M : MI} {P : Program} {w : World} {K : PySem.W.Frag} {mg : Str → Option Value} {base : Heap} {N : List Str} {W : WX} {n : Nat} {X : ι → Cx}
def sRaise (x : Str) : Sm M Out := fun z => .ex ⟨x, none⟩ z
theorem ds_raise {x m : Str} {C : Addr} {j : Nat} {p1 p2 p3 pos : Pos} (p : Pc P w K mg base N W n X) (tk : ∀ j, Takes (X j) W) (f : XF K mg x C) (hg : ∀ j, Gl (X j) x := by intro _; rfl) (hdb : (x == ("__debug__" : Str)) = false := by decide) :
    DS M (xrK K) K X W (.Raise (some (.Call (.Name x p1) [.Constant (.str m) j p2] [] p3)) none pos) (sRaise x) := by
  refine ⟨fun _ σ H => W (.ref C) none σ H, fun q => ?_, fun G σ H F z D hK hx ok h => ?_⟩
  · exact ps_raise (p.c q) (tk q) (pmk_own PySem.F.excBase_ValueError (by rw [p.k q]; exact f.ex) (by rw [p.g q]; exact f.gl) (by rw [p.k q]; exact f.kp) (raises_own (by rw [p.k q]; exact f.sb) (by rw [p.k q]; exact f.ty)) (hg q) hdb)
  · exact h (.ref C) none σ H F (Same.refl _) ok ⟨by rw [hx]; exact f.xr, rfl⟩
/-! ### the contexts of a try's body -/
def Xt (X : ι → Cx) (V : WX) : {p : ι × List (Addr × Obj) × (Value → Shared → Prop) // Takes ((X p.1).tr p.2.1 p.2.2) V ∧ PassesOwn (model (X p.1).prog (X p.1).w) (X p.1).A (X p.1).env p.2.2} → Cx := fun q => (X q.1.1).tr q.1.2.1 q.1.2.2
theorem Pc.tr (p : Pc P w K mg base N W n X) (V : WX) : Pc P w K mg base N V n (Xt X V) :=
  ⟨⟨fun q => p.k q.1.1, fun q => p.c q.1.1, fun q => p.n q.1.1, p.nd, fun q => p.g q.1.1, fun q => p.u q.1.1⟩, fun q => p.pr q.1.1, fun q => p.pw q.1.1, fun q => p.pb q.1.1, fun q => p.room q.1.1, fun q σ => by
    have e := passAt q.2.1 σ
    have e1 : (Xt X V q).prog = P := p.pr q.1.1
    have e2 : (Xt X V q).w = w := p.pw q.1.1
    rw [show ((X q.1.1).tr q.1.2.1 q.1.2.2).prog = P from e1, show ((X q.1.1).tr q.1.2.1 q.1.2.2).w = w from e2] at e
    exact e, fun q => p.gd q.1.1⟩
def sCatch (i y : Nat) (tb : Str → Option Bool) (f : Sm M Out) : Sm M Out := fun z => match f z with
  | .ex x z1 => (match tb x.c, x.arg with
    | some true, none => if i < z1.rho.length then .ok .nx { z1 with rho := ((z1.rho.set i (some (.d (.exc x.c [])))).set y (some (.d (.exc x.c [])))).set i none } else .bad
    | some false, _ => .ex x z1
    | _, _ => .bad)
  | r => r
theorem Ok.unset {G : Gx} {σ : St} {H F : Hp} {z : Z M.T} (ok : Ok M G σ H F z) (i : Nat) : Ok M G (σ.set i none) H F { z with rho := z.rho.set i none } := ok.wipe [i]
theorem ds_catch {x nm yn : Str} {c : Value} {i y : Nat} {body : List Stmt} {f : Sm M Out} {tb : Str → Option Bool} {q1 q2 q3 q4 q5 q6 : Pos} (p : Pc P w K mg base N W n X) (hst : ∀ j, (X j).stack = (X j).env :: (X j).outer) (hfr : ∀ j, (X j).env.frame = some (X j).env.locals) (hex : ∀ j, (X j).ex = []) (tk : ∀ j, Takes (X j) W)
    (hi : ∀ j, (X j).N[i]? = some nm) (hk : ∀ j, (X j).env.kindOf nm = some .local) (hy : ∀ j, (X j).N[y]? = some yn) (hly : ∀ j, (X j).env.scope.names.lookup yn = some .local) (hln : ∀ j, (X j).env.scope.names.lookup nm = some .local) (hcl : ∀ j, Names (X j) x c)
    (htb : ∀ s b, tb s = some b → ∃ C, xrK K s = some (.ref C) ∧ PySem.W.exmOne K (.ref C) c = some b) (hb : ∀ V, DSs M (xrK K) K (Xt X V) V body f)
    (hs : ∀ j (a : Addr) (pl : List (Addr × Obj)), swapsWith (.Name nm q4) (some (.Name yn q5)) q6.line ((X j).suite a pl).env = pure false := by intro _ _ _; rfl)
    (hdn : (nm == ("__debug__" : Str)) = false := by decide) (hcn : (nm == ("__classdict__" : Str)) = false := by decide) :
    DS M (xrK K) K X W (.Try body [.ExceptHandler (some (.Name x q1)) (some nm) [.Assign [.Name yn q5] (.Name nm q4) q6] q2] [] [] q3) (sCatch i y tb f) := by
  refine ⟨fun D τ H => (hb (wKeep K c i (fun _ _ _ => tAsg (tVar i) (gName y)) W D)).choose D τ H, fun j => ?_, fun G σ H F z D hK hx ok hh => ?_⟩
  · have r := ps_keep (tb := fun V => (hb V).choose) (ts := fun _ _ _ => tAsg (tVar i) (gName y)) (q1 := q1) (q2 := q2) (q3 := q3) (s0 := .Assign [.Name yn q5] (.Name nm q4) q6) (sut := []) (hst j) (hfr j) (hex j) (p.toPl.nds j) (hi j) (hk j) (hcl j) (tk j) (fun V pl xw h1 h2 => (hb V).choose_spec.1 ⟨(j, pl, xw), h1, h2⟩) (fun a ox cls d pl hz hd => pss_one (ps_set (X := (X j).suite a ((a, ox) :: pl)) (p.toPl.nds j) (hy j) (.inl (hly j)) (pe_var (X := (X j).suite a ((a, ox) :: pl)) (hi j) (.inl (hln j)) hdn hcn) (hs j a _) (.inr (hly j))))
    rw [p.k j] at r
    exact r
  · refine (hb (wKeep K c i (fun _ _ _ => tAsg (tVar i) (gName y)) W D)).choose_spec.2 G σ H F z D hK hx ok ?_
    unfold sCatch at hh
    cases e : f z with
    | bad => rw [e] at hh; exact hh
    | ok o z1 =>
      rw [e] at hh
      cases o with
      | nx => exact hh
      | bk => exact hh
      | ct => exact hh
      | rt s => exact hh
    | ex xx z1 =>
      rw [e] at hh
      intro cls d σ1 H1 F1 s1 ok1 xo
      obtain ⟨xo1, xo2⟩ := xo
      rw [hx] at xo1
      cases et : tb xx.c with
      | none => simp only [et] at hh; exact hh.elim
      | some b =>
        obtain ⟨C, hC, hm⟩ := htb _ _ et
        rw [hC] at xo1
        cases xo1
        cases b with
        | false =>
          simp only [et] at hh
          exact ⟨false, hm, (fun z => by cases z), fun _ => hh (.ref C) d σ1 H1 F1 s1 ok1 ⟨by rw [hx]; exact hC, xo2⟩⟩
        | true =>
          cases ea : xx.arg with
          | some a => simp only [et, ea] at hh; exact hh.elim
          | none =>
            simp only [et, ea] at hh xo2
            subst xo2
            by_cases hl : i < z1.rho.length
            · rw [if_pos hl] at hh
              refine ⟨true, hm, fun _ a na => ?_, fun z => by cases z⟩
              refine ⟨.ref a, List.getElem?_set_self (by rw [← ok1.len]; exact hl), fun _ => ?_⟩
              have okA := ok1.newF na (XO (.ref C) none a) (fun _ e => by unfold XO at e; cases e)
              have da : Da G.K (upd F1 a (XO (.ref C) none a)) (.ref a) (.exc xx.c []) := .exc upd_same (by rw [hK]; exact hC)
              have okB := okA.set (i := i) (v := .ref a) (s := .d (.exc xx.c [])) da (fun _ e => by cases e)
              have okC := okB.set (i := y) (v := .ref a) (s := .d (.exc xx.c [])) da (fun _ e => by cases e)
              exact hh _ _ _ (s1.trans (same_upd (ok1.freshF na))) (okC.unset i)
            · rw [if_neg hl] at hh
              exact hh.elim
end
end G
namespace G
open PySem L2
/-! ### isinstance of an exception that was caught -/
def rIsX (K : PySem.W.Frag) : List V → Hp → VK → Prop := fun xs H Q => ∃ (a C : Addr) (c : V) (u : Value) (b : Bool), xs = [.ref a, c] ∧ H a = some (XO (.ref C) none a) ∧ ExcC K C ∧ (∀ v, RelV c v → v = u) ∧ PySem.W.kitOne K (.ref C) u = some b ∧ Q (.bl b) H
def rIsXT (K : PySem.W.Frag) : List V → Hp → VK → Prop := fun xs H Q => ∃ (a C tp : Addr) (cs : List V) (us : List Value) (b : Bool), xs = [.ref a, .ref tp] ∧ H a = some (XO (.ref C) none a) ∧ H tp = some (.tup cs) ∧ ExcC K C ∧ (∀ vs, Vals cs vs → vs = us) ∧ PySem.W.kitAny K (.ref C) us = some b ∧ Q (.bl b) H
theorem xo_inst {P : Program} {w : World} {H : Hp} {h : Heap} {a C : Addr} (k : HOk P w H h) (e : H a = some (XO (.ref C) none a)) : ∃ ox, PySem.W.InstAt h a ox C none := by
  obtain ⟨⟨ox, fs, g, z, d⟩, _⟩ := (show ObjOk P w H h a (XO (.ref C) none a) from k a _ e)
  obtain ⟨oc, od, oda, osl⟩ := ox
  obtain ⟨z1, z2⟩ := z
  dsimp only at z1 z2 d
  subst z1 z2 d
  exact ⟨_, g, rfl, rfl, trivial⟩
theorem call_isX {X : Cx} : CallR X (.builtin "isinstance") (rIsX X.K) := by
  intro pins s σ H xs us Q I r h
  obtain ⟨a, C, c, u, b, rfl, hH, E, hc, e, q⟩ := h
  obtain ⟨u1, u2, rfl, r1, r2⟩ := vals2 r
  cases (show u1 = Value.ref a from r1)
  have e2 := hc _ r2
  subst e2
  obtain ⟨ox, J⟩ := xo_inst I.hok hH
  exact PySem.W.kia_one (PySem.W.handS_kitx_exc E.hg E.hk E.hs E.hd E.ha E.hn E.ht E.hm) I.kIn J e (fun z => nomatch z) fun tk => ⟨.bl b, H, I.tok tk, rfl, q⟩
theorem call_isXT {X : Cx} : CallR X (.builtin "isinstance") (rIsXT X.K) := by
  intro pins s σ H xs us Q I r h
  obtain ⟨a, C, tp, cs, vs, b, rfl, hH, hT, E, hc, e, q⟩ := h
  obtain ⟨u1, u2, rfl, r1, r2⟩ := vals2 r
  cases (show u1 = Value.ref a from r1)
  cases (show u2 = Value.ref tp from r2)
  obtain ⟨ox, J⟩ := xo_inst I.hok hH
  obtain ⟨_, its, rv, o, h1, h2, k, h3⟩ := (show ObjOk X.prog X.w H s.heap tp (.tup cs) from I.hok tp _ hT)
  have e3 := hc _ rv
  subst e3
  obtain ⟨oc, od, dt, sl⟩ := o
  simp only at h2 h3
  subst h2 h3
  exact PySem.W.kia_tup (PySem.W.handS_kitx_exc E.hg E.hk E.hs E.hd E.ha E.hn E.ht E.hm) I.kIn J h1 e (fun z => nomatch z) fun tk => ⟨.bl b, H, I.tok tk, rfl, q⟩
section
variable {ι : Type} {M : MI} {xr : Str → Option Value} {K : PySem.W.Frag} {mg : Str → Option Value} {N : List Str} {W : WX} {X : ι → Cx}
def dIsX (tb : Str → Option Bool) : D → Option R := fun d => match d with
  | .exc c [] => (tb c).map fun b => .d (.bl b)
  | _ => none
theorem Rv.exc {F H : Hp} {v : V} {c : Str} (s : SameX F H) (h : Rv K F H v (.exc c [])) : ∃ a C, v = .ref a ∧ H a = some (XO (.ref C) none a) ∧ xrK K c = some (.ref C) := by
  rcases h with h | ⟨a, vs, xs, _, e, _⟩
  · cases h with
    | exc q r => exact ⟨_, _, rfl, s.ext q, r⟩
  · cases e
theorem de_isX {e eT : Expr} {vT : V} {u : Value} {tb : Str → Option Bool} {g : Sm M S} {pp pos : Pos} (p : Pl K X N mg) (hm : mg "isinstance" = none) (hT : ∀ j, PE (X j) eT (tC vT)) (hu : ∀ v, RelV vT v → v = u) (htb : ∀ s b, tb s = some b → ∃ C, xrK K s = some (.ref C) ∧ ExcC K C ∧ PySem.W.kitOne K (.ref C) u = some b) (h : DE M xr K X W e g) (hg : ∀ j, Gl (X j) "isinstance" := by intro _; rfl)
    (he : ∀ j, starEach [e, eT] (X j).env = (false, eval e (X j).env) :: starEach [eT] (X j).env := by intro _; rfl) (he2 : ∀ j, starEach [eT] (X j).env = (false, eval eT (X j).env) :: starEach [] (X j).env := by intro _; rfl) (hpl : ∀ j, (backTo pos (starEach [eT] (X j).env)).any (·.1) = false := by intro _; rfl) :
    DE M xr K X W (.Call (.Name "isinstance" pp) [e, eT] [] pos) (eUn (dIsX tb) g) := by
  obtain ⟨tt, pe, c⟩ := h
  refine ⟨tCB (rIsX K) (tCons tt (tCons (tC vT) tNil)), fun j => ?_, fun G σ H F z Q hK hx ok hh => ?_⟩
  · rw [← p.k j]
    exact pe_callB call_isX (hg j) (by rw [p.g j]; exact hm) PyProof.Rows.boot_isinstance (pa_cons (pe j) (pa_cons (hT j) pa_nil (he2 j)) (he j)) (by decide) (by decide) (he j) (hpl j)
  · refine cmp_opd c G σ H F z _ hK hx ok (hit_bind hh fun s z1 v H1 F1 _ sm1 ok1 e1 h1 => ?_)
    have q := fin_hit ok1 h1
    cases er : rd z1 s with
    | none => rw [er] at q; exact q.elim
    | some x =>
      rw [er] at q
      have q' : Hit0 G.K F1 H1 (dIsX tb x) Q := q
      unfold dIsX at q'
      split at q'
      · rename_i cn
        cases et : tb cn with
        | none => rw [et] at q'; exact q'.elim
        | some b =>
          rw [et] at q'
          obtain ⟨a, C, rfl, a1, a2⟩ := Rv.exc ok1.sub (EO.rv ok1 e1 er)
          obtain ⟨C', b1, b2, b3⟩ := htb _ _ et
          rw [hK, b1] at a2
          cases a2
          exact ⟨a, C, vT, u, b, rfl, a1, b2, hu, b3, q' _ (.bl b)⟩
      · exact q'.elim
/-- a row of constants -/
def tCs : List V → TA
  | [] => tNil
  | v :: r => tCons (tC v) (tCs r)
theorem tCs_is : ∀ (vs : List V) (σ : St) (H : Hp) (Q : List V → Hp → Prop), Q vs H → tCs vs σ H Q
  | [], _, _, _, h => h
  | v :: r, σ, H, Q, h => tCs_is r σ H (fun xs H2 => Q (v :: xs) H2) h
theorem de_isXT {e : Expr} {es : List Expr} {k : Nat} {vs : List V} {us : List Value} {tb : Str → Option Bool} {g : Sm M S} {pp pt pos : Pos} (p : Pl K X N mg) (hm : mg "isinstance" = none) (hl : vs.length ≤ sizeLine) (hT : ∀ j, PA (X j) es (tCs vs)) (hu : ∀ ws, Vals vs ws → ws = us) (htb : ∀ s b, tb s = some b → ∃ C, xrK K s = some (.ref C) ∧ ExcC K C ∧ PySem.W.kitAny K (.ref C) us = some b) (h : DE M xr K X W e g) (hg : ∀ j, Gl (X j) "isinstance" := by intro _; rfl)
    (he : ∀ j, starEach [e, .Tuple es k pt] (X j).env = (false, eval e (X j).env) :: starEach [.Tuple es k pt] (X j).env := by intro _; rfl) (he2 : ∀ j, starEach [.Tuple es k pt] (X j).env = (false, eval (.Tuple es k pt) (X j).env) :: starEach [] (X j).env := by intro _; rfl) (hpl : ∀ j, (backTo pos (starEach [.Tuple es k pt] (X j).env)).any (·.1) = false := by intro _; rfl) :
    DE M xr K X W (.Call (.Name "isinstance" pp) [e, .Tuple es k pt] [] pos) (eUn (dIsX tb) g) := by
  obtain ⟨tt, pe, c⟩ := h
  refine ⟨tCB (rIsXT K) (tCons tt (tCons (tTup (tCs vs)) tNil)), fun j => ?_, fun G σ H F z Q hK hx ok hh => ?_⟩
  · rw [← p.k j]
    exact pe_callB call_isXT (hg j) (by rw [p.g j]; exact hm) PyProof.Rows.boot_isinstance (pa_cons (pe j) (pa_cons (pe_tup (hT j)) pa_nil (he2 j)) (he j)) (by decide) (by decide) (he j) (hpl j)
  · refine cmp_opd c G σ H F z _ hK hx ok (hit_bind hh fun s z1 v H1 F1 _ sm1 ok1 e1 h1 => ?_)
    refine tCs_is vs σ H1 _ ⟨hl, fun t ht => ?_⟩
    have okT := ok1.new ht (.tup vs)
    have q := fin_hit okT h1
    cases er : rd z1 s with
    | none => rw [er] at q; exact q.elim
    | some x =>
      rw [er] at q
      have q' : Hit0 G.K F1 (upd H1 t (.tup vs)) (dIsX tb x) Q := q
      unfold dIsX at q'
      split at q'
      · rename_i cn
        cases et : tb cn with
        | none => rw [et] at q'; exact q'.elim
        | some b =>
          rw [et] at q'
          obtain ⟨a, C, rfl, a1, a2⟩ := Rv.exc okT.sub (EO.rv okT e1 er)
          obtain ⟨C', b1, b2, b3⟩ := htb _ _ et
          rw [hK, b1] at a2
          cases a2
          exact ⟨a, C, t, vs, us, b, rfl, a1, upd_same, b2, hu, b3, q' _ (.bl b)⟩
      · exact q'.elim
end
end G
/-! The law's own place in its script: a list of one number, told through all calls. -/
namespace G
open PySem L2
abbrev M0 : MI where
  T := Unit
  ok := fun _ _ _ ms _ => ms = []
  mono := fun _ _ _ h => h
abbrev M2 : MI where
  T := Int
  ok := fun _ _ H ms t => ∃ a, ms = [a] ∧ H a = some (.lst [.int t])
  mono := fun {K F F' H H' ms t} hF _ hm h => by
    obtain ⟨a, rfl, h1⟩ := h
    exact ⟨a, rfl, (hm a (by simp)).trans h1⟩
def eSpot (i : Nat) : Sm M2 S := fun z => match z.rho[i]? with
  | some (some (.m 0)) => .ok (.d (.int z.m)) z
  | _ => .bad
section
variable {ι : Type} {xr : Str → Option Value} {K : PySem.W.Frag} {X : ι → Cx} {W : WX} {N : List Str} {mg : Str → Option Value}
theorem de_spot (i : Nat) {x : Str} {j : Nat} {p1 p2 pos : Pos} (p : Pl K X N mg) (hN : ∀ j, (X j).N[i]? = some x := by intro _; rfl) (hv : ∀ j, Vis (X j).env.scope x := by first | exact fun _ => Or.inl rfl | exact fun _ => Or.inr (Or.inl rfl) | exact fun _ => Or.inr (Or.inr rfl)) (hd : (x == ("__debug__" : Str)) = false := by decide)
    (hcd : (x == ("__classdict__" : Str)) = false := by decide) : DE M2 xr K X W (.Subscript (.Name x p1) (.Constant (.int 0) j p2) pos) (eSpot i) := by
  refine ⟨tOp (rIxL K) (tVar i) (tC (.int 0)), fun q => by rw [← p.k q]; exact pe_ix ix_list (pe_var (hN q) (hv q) hd hcd) pe_int (fun _ _ => rfl), fun G σ H F z Q hK hx ok h => ?_⟩
  unfold eSpot at h
  split at h
  · rename_i hs
    obtain ⟨v, e, a, ha, rfl⟩ := ok.slot i _ hs
    obtain ⟨b, hb, hH⟩ := ok.mach
    rw [hb] at ha
    cases ha
    exact ⟨.ref a, e, a, [.int z.m], 0, .int z.m, rfl, rfl, SqL.of hH, rfl, h _ H F (Same.refl _) ok (.int _)⟩
  · exact h.elim
def sSpot (i : Nat) (f : Sm M2 S) : Sm M2 Out := fun z => (opd f z).bind fun s z1 => match rd z1 s, z1.rho[i]? with
  | some (.int n), some (some (.m 0)) => .ok .nx { z1 with m := n }
  | _, _ => .bad
theorem Ok.spot {G : Gx} {σ : St} {H F : Hp} {z : Z Int} (ok : Ok M2 G σ H F z) {a : Addr} (hm : G.ms = [a]) (n : Int) : Ok M2 G σ (upd H a (.lst [.int n])) F { z with m := n } where
  sub := same_updR ok.sub (ok.msF a (by rw [hm]; exact List.mem_cons_self))
  len := ok.len
  slot := fun i s e => by
    obtain ⟨v, h1, h2⟩ := ok.slot i s e
    refine ⟨v, h1, ?_⟩
    cases s with
    | d x => exact h2
    | l xs =>
      obtain ⟨b, vs, rfl, h3, h4, h5, h6, h7⟩ := h2
      have nb : b ≠ a := fun e => h7 (by rw [hm, e]; exact List.mem_cons_self)
      exact ⟨b, vs, rfl, by rw [upd_ne nb]; exact h3, h4, h5, h6, h7⟩
    | v _ => exact h2
    | m j => exact h2
  dist := ok.dist
  tg := fun b ps e => by
    have nb : b ≠ a := fun q => by rw [q, ok.msF a (by rw [hm]; exact List.mem_cons_self)] at e; cases e
    exact ⟨by rw [upd_ne nb]; exact (ok.tg b ps e).1, (ok.tg b ps e).2⟩
  mach := ⟨a, hm, upd_same⟩
  msF := ok.msF
  msP := ok.msP
  msH := fun b hb => by
    rw [hm] at hb
    cases List.mem_singleton.mp hb
    rw [upd_same]
    intro e
    cases e
  fr := fun b o q => by
    obtain ⟨h1, h2⟩ := ok.fr b o q
    have nb : b ≠ a := fun e => by
      rw [e, ok.msP a (by rw [hm]; exact List.mem_cons_self)] at q
      cases q
    exact ⟨by rw [upd_ne nb]; exact h1, h2⟩
theorem ds_spot (i : Nat) {x : Str} {j : Nat} {e : Expr} {f : Sm M2 S} {p1 p2 p3 pos : Pos} (p : Pl K X N mg) (h : DE M2 xr K X W e f) (hN : ∀ j, (X j).N[i]? = some x := by intro _; rfl) (hv : ∀ j, Vis (X j).env.scope x := by first | exact fun _ => Or.inl rfl | exact fun _ => Or.inr (Or.inl rfl) | exact fun _ => Or.inr (Or.inr rfl)) (hd : (x == ("__debug__" : Str)) = false := by decide)
    (hcd : (x == ("__classdict__" : Str)) = false := by decide)
    (hs : ∀ q, swapsWithSole [.Subscript (.Name x p1) (.Constant (.int 0) j p2) p3] e pos.line (X q).env = pure false := by intro _; rfl) (hw : ∀ q, swappedStores [.Subscript (.Name x p1) (.Constant (.int 0) j p2) p3] e (X q).env = pure none := by intro _; rfl)
    (h1 : ∀ q, (assignEach [.Subscript (.Name x p1) (.Constant (.int 0) j p2) p3] (X q).env).map (·.2) = [assign (.Subscript (.Name x p1) (.Constant (.int 0) j p2) p3) (X q).env] := by intro _; rfl) :
    DS M2 xr K X W (.Assign [.Subscript (.Name x p1) (.Constant (.int 0) j p2) p3] e pos) (sSpot i f) := by
  obtain ⟨t, pe, c⟩ := h
  refine ⟨tAsg t (gSub (tVar i) (tC (.int 0)) rSetL), fun q => ps_asg (pe q) (pg_sub (pe_var (hN q) (hv q) hd hcd) pe_int set_list) (hs q) (hw q) (h1 q), fun G σ H F z D hK hx ok hh => ?_⟩
  refine cmp_opd c G σ H F z _ hK hx ok (hits_bind hh fun s z1 v H1 F1 _ sm ok1 ev h2 => ?_)
  cases er : rd z1 s with
  | none => simp only [er] at h2; exact h2.elim
  | some d =>
    cases d with
    | int n =>
      have hv := (EO.rv ok1 ev er).int
      subst hv
      cases es : z1.rho[i]? with
      | none => simp only [er, es] at h2; exact h2.elim
      | some o =>
        cases o with
        | none => simp only [er, es] at h2; exact h2.elim
        | some s' =>
          match s', es, h2 with
          | .m 0, es, h2 =>
            simp only [er, es] at h2
            obtain ⟨v, e, a, ha, rfl⟩ := ok1.slot i _ es
            obtain ⟨b, hb, hH⟩ := ok1.mach
            rw [hb] at ha
            cases ha
            exact ⟨.ref a, e, a, [.int z1.m], 0, 0, rfl, rfl, hH, rfl, h2 σ _ F1 (Same.refl _) (ok1.spot hb n)⟩
          | .m (k + 1), es, h2 => simp only [er, es] at h2; exact h2.elim
          | .d _, es, h2 => simp only [er, es] at h2; exact h2.elim
          | .l _, es, h2 => simp only [er, es] at h2; exact h2.elim
          | .v _, es, h2 => simp only [er, es] at h2; exact h2.elim
    | _ => simp only [er] at h2; exact h2.elim
end
/-! ### the law: what comes ahead, the place made, the rest -/
def zS (n : Nat) (ns : List Int) : Z Unit := { rho := some (.d (.scr ns)) :: List.replicate n none, m := () }
theorem law_runS {K : PySem.W.Frag} {xr : Str → Option Value} {E : XK} {N : List Str} {i : Nat} {tp t : TS} {fp : Sm M0 Out} {f : Sm M2 Out} {vs : List V} {H : Hp} {Q : VK} (hN : 1 ≤ N.length)
    (hf : ∀ ns : List Int, ns.length ≤ 63 → (∀ z ∈ ns, Builtin.Int.intBits z ≤ 1048576) → ∃ z1 z', fp (zS (N.length - 1) ns) = .ok .nx z1 ∧ f ⟨z1.rho.set i (some (.m 0)), 0⟩ = .ok (.rt (.d (.bl true))) z')
    (cp : SR M0 K xr (fun cls d _ H => E cls d H) tp fp) (c : SR M2 K xr (fun cls d _ H => E cls d H) t f) (h : spLaw K vs H Q E) : tSeq tp (tSeq (tAsg (tLst (tCons (tC (.int 0)) tNil)) (gName i)) t) { nx := fun _ H' => Q .non H', rt := Q } (L2.start N vs) H := by
  obtain ⟨a, ns, rfl, hs, hl, hbits, hq⟩ := h
  obtain ⟨z1, z', e1, e2⟩ := hf ns hl hbits
  have st : L2.start N [.ref a] = some (.ref a) :: List.replicate (N.length - 1) none := rfl
  rw [st]
  let F : Hp := fun b => if b = a then H a else none
  have sF : Same F H := fun b o q => by
    have q' : (if b = a then H a else none) = some o := q
    by_cases e : b = a
    · rw [if_pos e] at q'; rw [e]; exact q'
    · rw [if_neg e] at q'; cases q'
  have hsF : SqL K F a (ns.map V.int) := by
    have Fa : ∀ o, H a = some o → F a = some o := fun o q => by
      show (if a = a then H a else none) = some o
      rw [if_pos rfl]
      exact q
    rcases hs with (q | ⟨o, q⟩) | q
    · exact .inl (.inl (Fa _ q))
    · exact .inl (.inr ⟨o, Fa _ q⟩)
    · exact .inr q
  have key : ∀ (k : Nat) (s : S), (zS (N.length - 1) ns).rho[k]? = some (some s) → k = 0 ∧ s = .d (.scr ns) := fun k s e => by
    have e' : (some (S.d (.scr ns)) :: List.replicate (N.length - 1) none)[k]? = some (some s) := e
    match k, e' with
    | 0, e' => cases e'; exact ⟨rfl, rfl⟩
    | k + 1, e' =>
      rw [List.getElem?_cons_succ, List.getElem?_replicate] at e'
      split at e' <;> cases e'
  refine cp ⟨K, xr, [], fun _ => none, F⟩ _ H F (zS (N.length - 1) ns) _ rfl rfl ⟨samX sF, by simp [zS], fun k s e => ?_, fun k j xs ys v q1 _ _ _ => ?_, rfl, (fun b hb => by cases hb), (fun b hb => by cases hb), (fun b hb => by cases hb), (fun b o q => by cases q), fun b ps e => ⟨(by rw [sF b _ e]; intro z; cases z), rfl⟩⟩ ?_
  · obtain ⟨rfl, rfl⟩ := key k s e
    exact ⟨_, rfl, Da.scr hsF⟩
  · obtain ⟨_, q⟩ := key k _ q1
    cases q
  · rw [e1]
    intro σ1 H1 F1 sm ok1
    refine ⟨by show 1 ≤ sizeLine; rw [sizeLine_eq]; decide, fun p hp => ?_⟩
    show t _ (σ1.set i (some (.ref p))) (upd H1 p (.lst [.int 0]))
    have hz : ∀ (k : Nat) (s : S), (z1.rho.set i (some (.m 0)))[k]? = some (some s) → (k = i ∧ s = .m 0) ∨ (k ≠ i ∧ z1.rho[k]? = some (some s)) := fun k s e => by
      by_cases hk : k = i
      · subst hk
        by_cases hlt : k < z1.rho.length
        · rw [List.getElem?_set_self hlt] at e
          cases e
          exact .inl ⟨rfl, rfl⟩
        · rw [List.getElem?_eq_none (by rw [List.length_set]; omega)] at e
          cases e
      · rw [List.getElem?_set_ne (Ne.symm hk)] at e
        exact .inr ⟨hk, e⟩
    refine c ⟨K, xr, [p], fun _ => none, F1⟩ _ _ F1 ⟨z1.rho.set i (some (.m 0)), 0⟩ _ rfl rfl ⟨same_updR ok1.sub (ok1.freshF hp), by simp [ok1.len], fun k s e => ?_, fun k j xs ys v q1 q2 q3 q4 => ?_, ⟨p, rfl, upd_same⟩, fun b hb => ?_, fun _ _ => rfl, fun b hb => ?_, fun b o q => (by cases q), fun b ps e => ⟨by rw [upd_ne (ne_of_none e (ok1.freshF hp))]; exact (ok1.tg b ps e).1, rfl⟩⟩ ?_
    · rcases hz k s e with ⟨rfl, rfl⟩ | ⟨hk, e'⟩
      · refine ⟨.ref p, List.getElem?_set_self ?_, p, rfl, rfl⟩
        have : k < (z1.rho.set k (some (S.m 0))).length := (List.getElem?_eq_some_iff.mp e).1
        rw [List.length_set, ok1.len] at this
        exact this
      · obtain ⟨v, h1, h2⟩ := ok1.slot k s e'
        refine ⟨v, by rw [List.getElem?_set_ne (Ne.symm hk)]; exact h1, ?_⟩
        cases s with
        | d x => exact h2
        | l xs =>
          obtain ⟨b, vs, rfl, h3, h4, h5, _, h7⟩ := h2
          have nb := ne_of_none h3 hp
          exact ⟨b, vs, rfl, by rw [upd_ne nb]; exact h3, h4, h5, rfl, fun q => nb (List.mem_singleton.mp q)⟩
        | v _ => exact h2
        | m j =>
          obtain ⟨b, hb, _⟩ := h2
          simp at hb
    · rcases hz k _ q1 with ⟨_, q⟩ | ⟨hk, q1'⟩
      · cases q
      · rcases hz j _ q2 with ⟨_, q⟩ | ⟨hj, q2'⟩
        · cases q
        · rw [List.getElem?_set_ne (Ne.symm hk)] at q3
          rw [List.getElem?_set_ne (Ne.symm hj)] at q4
          exact ok1.dist k j xs ys v q1' q2' q3 q4
    · cases List.mem_singleton.mp hb
      exact ok1.freshF hp
    · cases List.mem_singleton.mp hb
      rw [upd_same]
      intro e
      cases e
    · rw [e2]
      intro v H2 F2 s2 r
      have hv : v = .bl true := by
        have := r.val
        cases (show Da K F2 v (.bl true) from this)
        rfl
      rw [hv]
      exact hq H2
end G
/-! enumerate of lists and tuples. -/
namespace G
open PySem L2 PySem.Spec PyProof.Rows
theorem meets_enum1 {v : Value} {o : Obj} {H : Heap → Prop} (B : Begins v o H) :
    Meets (Builtin.«enumerate.__new__» ⟨[.type "enumerate", v], []⟩) (fun _ R s => H s.heap ∧
      R (.ok (.ret (.ref (s.heap.push o).objs.size))) { s with heap := (s.heap.push o).push { cls := .type "enumerate", data := .fields #[.none, .bool false, .ref s.heap.objs.size, rawInt 0, .none, .none] } }) :=
  .of_wp fun prog w A R s hh => by
    obtain ⟨hp, gs, dr, tk, os⟩ := s
    obtain ⟨h1, hr⟩ := hh
    have hsub := sub_enumerate
    have itr : ∀ {A' : Around} {E : Value → Shared → Prop} {Q : Value → Shared → Prop}, Q (.ref hp.objs.size) ⟨hp.push o, gs, dr, tk, os⟩ → wpAny (model prog w) A' (pyIter v) Q E ⟨hp, gs, dr, tk, os⟩ :=
      fun q => B.iter prog w _ _ ⟨hp, gs, dr, tk, os⟩ _ h1 q
    wp_walk using itr
    refine wpAny_stack_any fun st => wpAny_pure ?_
    split
    · rename_i c _ _ _ _ _
      cases (c == Value.type "enumerate")
      · wp_walk using itr
        exact ⟨_, rfl, hr⟩
      · wp_walk using itr
        exact ⟨_, rfl, hr⟩
    · wp_walk using itr
      exact ⟨_, rfl, hr⟩
theorem enum1_begins {prog : Program} {w : World} {A : Around} {E : Value → Shared → Prop} {s : Shared} {v : Value} {o : Obj} {H : Heap → Prop} {Q : Value → Shared → Prop} (B : Begins v o H) (h1 : H s.heap)
    (hq : ∀ h', IsEnum h' (s.heap.objs.size + 1) s.heap.objs.size 0 .none → h'.get? s.heap.objs.size = some o → h'.objs.size = s.heap.objs.size + 2 → (∀ b u, s.heap.get? b = some u → h'.get? b = some u) → Q (.ref (s.heap.objs.size + 1)) { s with heap := h' }) :
    wpAny (model prog w) A (call (.type "enumerate") [v]) Q E s := by
  refine callType_new F.called_enumerate (by decide) (F.typeCall_enumerate_1 _) (F.newCall_enumerate_1 _) (fun obj => F.args_object_init_2 obj _) F.entry_enumerate_new (meets_enum1 B) ⟨h1, ?_⟩
  have z1 : (s.heap.push o).objs.size = s.heap.objs.size + 1 := Heap.size_push ..
  show _ ∧ _
  rw [z1]
  have ie : IsEnum ((s.heap.push o).push { cls := .type "enumerate", data := .fields #[.none, .bool false, .ref s.heap.objs.size, rawInt 0, .none, .none] }) (s.heap.objs.size + 1) s.heap.objs.size 0 .none := by
    have q := Heap.get?_push_size (s.heap.push o) (o := { cls := .type "enumerate", data := .fields #[.none, .bool false, .ref s.heap.objs.size, rawInt 0, .none, .none] }) rfl
    rw [z1] at q
    exact q
  exact ⟨⟨_, ie, rfl⟩, hq _ ie (Heap.get?_push_of_some _ (Heap.get?_push_size _ B.free)) (by rw [Heap.size_push, z1]) fun b u x => Heap.get?_push_of_some _ (Heap.get?_push_of_some _ x)⟩
/-- a tuple's items, each in a new pair with its number -/
def IteT (K : PySem.W.Frag) (a : Addr) : It :=
  ⟨fun i H => ∃ (ys : List V) (y : V), SqT K H a ys ∧ ys[i]? = some y, fun i H v H' => ∃ T y, v = .ref T ∧ H T = none ∧ H' = upd H T (.tup [.int (i : Nat), y]) ∧ ∀ ys, SqT K H a ys → ys[i]? = some y, fun i H => ∃ ys : List V, SqT K H a ys ∧ ys.length = i⟩
theorem turn_enumT {P : Program} {w : World} {K : PySem.W.Frag} {elts : List Expr} {kk : Nat} {tpos : Pos} (a e it : Addr) :
    Turn P w K (.Tuple elts kk tpos) (IteT K a) [e, it] e (fun i h => (∃ old, IsEnum h e it ((i : Nat) : Int) old) ∧ h.IsTupleIter it a i ∧ e ≠ it) where
  mem := by simp
  obj := fun i h st b hb => by
    obtain ⟨⟨old, he⟩, ⟨o, ho, hc, hd⟩, _⟩ := st
    rcases (show b = e ∨ b = it by simpa using hb) with z | z
    · rw [z]; exact ⟨_, he, fun v q => nomatch q⟩
    · rw [z]; exact ⟨o, ho, fun v q => by rw [hd] at q; cases q⟩
  keep := fun i h h' st k => by
    obtain ⟨⟨old, he⟩, hi, hne⟩ := st
    exact ⟨⟨old, k e (by simp) _ he⟩, hi.at fun o q => k it (by simp) o q, hne⟩
  item := by
    intro X hP hw hK hc i pins s σ H E I hf st hg
    subst hP hw hK
    obtain ⟨⟨old, he⟩, hit, hne⟩ := st
    obtain ⟨ys, y, hq, hy⟩ := hg
    obtain ⟨its, rv, tp, hz⟩ := I.tuple hq
    have hil : i < its.toArray.size := by
      have := (List.getElem?_eq_some_iff.mp hy).1
      rw [List.size_toArray, ← rv.length]
      exact this
    have lte : e < s.heap.objs.size := Heap.lt_size he
    have lti : it < s.heap.objs.size := by obtain ⟨_, q, _⟩ := hit; exact Heap.lt_size q
    have ane : a ≠ e := fun z => by
      obtain ⟨o, g1, g2, _⟩ := tp
      rw [z, he] at g1
      cases g1
      exact absurd g2 (by simp)
    have ani : a ≠ it := fun z => by
      obtain ⟨o, g1, g2, _⟩ := tp
      obtain ⟨o', g3, g4, _⟩ := hit
      rw [z, g3] at g1
      cases g1
      rw [g4] at g2
      exact absurd g2 (by simp)
    refine wpAny_pyNext_enum_itemD (Draws.tuple (A := X.A.in1) (show X.A.handled = none from I.ok.hd hc) it a ani its.toArray) he ⟨hit, tp⟩ hil hne (by simp [hne, Ne.symm ane]) fun x h' tk hx ho hst hT hsz hk => ?_
    refine ⟨_, rfl, wpAny_letOwnedTupleGo_enum (s := { s with heap := h', toks := tk + 1 }) ho fun h2 he' sb => ?_⟩
    have hT2 : h2.get? s.heap.objs.size = some { cls := .type "tuple", data := .seq #[.int i tk, x] } := (sb.2 _ (Nat.ne_of_gt lte)).trans hT
    obtain ⟨u, hu, ru⟩ := rv.get hy
    have eu : x = u := by
      have hx' : its.toArray[i]? = some x := hx
      have : its.toArray[i]? = some u := by simpa using hu
      rw [hx'] at this
      exact Option.some.inj this
    subst eu
    have new : ObjOk X.prog X.w (upd H s.heap.objs.size (.tup [.int (i : Nat), y])) h2 s.heap.objs.size (.tup [.int (i : Nat), y]) :=
      ⟨by show 2 ≤ sizeLine; rw [sizeLine_eq]; decide, [.int i tk, x], .cons ⟨_, rfl⟩ (.cons ru .nil), ⟨_, hT2, rfl, _, rfl⟩⟩
    have I1 : Inv X pins σ (upd H s.heap.objs.size (.tup [.int (i : Nat), y])) { s with heap := h2, toks := tk + 1 } :=
      I.turnedNew (ch := [e, it]) (fun b ob hb q => (sb.2 b (fun z => hb (by simp [z]))).trans (hk b ob (fun z => hb (by simp [z])) (fun z => hb (by simp [z])) q)) hf (Nat.le_refl _) new
    refine ⟨.ref s.heap.objs.size, _, I1, rfl, ⟨_, y, rfl, I.hok.fresh (Nat.le_refl _), rfl, fun zs hy2 => by rw [I.tuple_inj hy2 hq]; exact hy⟩, ⟨⟨x, ?_⟩, hst.1.at fun o q => (sb.2 it (Ne.symm hne)).trans q, hne⟩, fun b hb => ?_⟩
    · have e1 : ((i + 1 : Nat) : Int) = (i : Int) + 1 := by omega
      rw [e1]
      exact he'
    · have lb : b < s.heap.objs.size := by
        rcases (show b = e ∨ b = it by simpa using hb) with z | z
        · rw [z]; exact lte
        · rw [z]; exact lti
      rw [upd_ne (Nat.ne_of_lt lb)]
      exact (hf b hb).1
  done := by
    intro X hP hw hK hc i pins s σ H E I hf st hg
    subst hP hw hK
    obtain ⟨⟨old, he⟩, hit, hne⟩ := st
    obtain ⟨ys, hq, hy⟩ := hg
    obtain ⟨its, rv, tp, hz⟩ := I.tuple hq
    obtain ⟨f0, f1, f2, f3, f4, f5⟩ := hf it (by simp)
    have ani : a ≠ it := fun z => by
      obtain ⟨o, g1, g2, _⟩ := tp
      obtain ⟨o', g3, g4, _⟩ := hit
      rw [z, g3] at g1
      cases g1
      rw [g4] at g2
      exact absurd g2 (by simp)
    have en : its.toArray.size = i := by rw [List.size_toArray, ← rv.length]; exact hy
    refine wpAny_pyNext_enum_endD (Draws.tuple (A := X.A.in1) (show X.A.handled = none from I.ok.hd hc) it a ani its.toArray) he (by rw [en]; exact ⟨hit, tp⟩) fun h' eb => ⟨rfl, I.turned (t' := s.toks) (fun b o hb q => eb b o hb q) f0 f1 f3 f4 f5⟩
  self := fun A i s Q E st h => by
    obtain ⟨⟨_, he⟩, _⟩ := st
    exact wpAny_pyIter_enum he h
def iEnumA (K : PySem.W.Frag) (te : TE) : TI := fun σ H R => te σ H fun v H1 => (∃ a ys, v = .ref a ∧ SqL K H1 a ys ∧ R (Ite K a) H1) ∨ (∃ a ys, v = .ref a ∧ SqT K H1 a ys ∧ R (IteT K a) H1)
theorem pi_enumA {X : Cx} {e : Expr} {te : TE} {p pos tpos : Pos} {elts : List Expr} {kk : Nat} (hg : Gl X "enumerate") (hm : X.mg "enumerate" = none) (he : PE X e te) (hs : starEach [e] X.env = (false, eval e X.env) :: starEach [] X.env := by rfl) :
    PI X (.Tuple elts kk tpos) (.Call (.Name "enumerate" p) [e] [] pos) (iEnumA X.K te) := by
  refine ⟨fun pins s σ H R I h => ?_⟩
  refine Call_ (ld_blt I hg hm boot_enumerate (PyProof.Rows.callWith_type1 (args_cons (thn (he.run pins s σ H _ I h) fun u s1 ⟨v, H1, I1, r1, q1⟩ => args_nil ?_) hs) hs))
  have new : ∀ b, (b = s1.heap.objs.size + 1 ∨ b = s1.heap.objs.size) → FpOk X pins H1 b := fun b e' => by
    have hle : s1.heap.objs.size ≤ b := by
      rcases e' with z | z
      · rw [z]; exact Nat.le_add_right _ _
      · rw [z]; exact Nat.le_refl _
    exact I1.fpOk hle (I1.hok.fresh hle)
  rcases q1 with ⟨a, ys, rfl, hq, q⟩ | ⟨a, ys, rfl, hq, q⟩
  · cases (show u = Value.ref a from r1)
    obtain ⟨its, rv, pl, hz⟩ := I1.list hq
    refine call_enumerate_list pl.isList fun h' ie hit hsz hk => wpAny_pyIter_enum ie ?_
    have I2 : Inv X pins σ H1 { s1 with heap := h' } := I1.kept (t' := s1.toks) hk
    exact ⟨s1.heap.objs.size + 1, [s1.heap.objs.size + 1, s1.heap.objs.size], _, _, H1, rfl, I2, turn_enum a (s1.heap.objs.size + 1) s1.heap.objs.size, ⟨⟨.none, ie⟩, hit, Nat.succ_ne_self _⟩, fun b hb => new b (by simpa using hb), q⟩
  · cases (show u = Value.ref a from r1)
    obtain ⟨its, rv, tp, hz⟩ := I1.tuple hq
    refine enum1_begins (begins_tuple a its.toArray) tp fun h' ie hit hsz hk => wpAny_pyIter_enum ie ?_
    have I2 : Inv X pins σ H1 { s1 with heap := h' } := I1.kept (t' := s1.toks) hk
    exact ⟨s1.heap.objs.size + 1, [s1.heap.objs.size + 1, s1.heap.objs.size], _, _, H1, rfl, I2, turn_enumT a (s1.heap.objs.size + 1) s1.heap.objs.size, ⟨⟨.none, ie⟩, ⟨_, hit, rfl, rfl⟩, Nat.succ_ne_self _⟩, fun b hb => new b (by simpa using hb), q⟩
/-! the rule -/
section
variable {ι : Type} {M : MI} {xr : Str → Option Value} {K : PySem.W.Frag} {X : ι → Cx} {W : WX} {N : List Str} {mg : Str → Option Value} {pos : Pos}
def enumD (ds : List D) : List D := (List.range ds.length).map fun (i : Nat) => D.tup [.int (i : Int), ds.getD i .non]
def iEnM (f : Sm M S) : Sm M (List D) := fun z => (escf f z).bind fun s z1 => match s with
  | .d (.lst ds) => .ok (enumD ds) z1
  | .d (.tup ds) => .ok (enumD ds) z1
  | _ => .bad
theorem enumD_len (ds : List D) : (enumD ds).length = ds.length := by unfold enumD; simp
theorem enumD_at {ds : List D} {i : Nat} {d : D} (h : ds[i]? = some d) : (enumD ds)[i]? = some (.tup [.int (i : Int), d]) := by
  have hi : i < ds.length := (List.getElem?_eq_some_iff.mp h).1
  unfold enumD
  rw [List.getElem?_map, List.getElem?_range hi, Option.map_some, List.getD_eq_getElem?_getD, h]
  rfl
theorem yd_pair {F H H' : Hp} {vs : List V} {ds : List D} {i : Nat} {v y : V} {T : Addr} (r : DaAll K F vs ds) (hi : vs[i]? = some y) (e1 : v = .ref T) (e2 : H T = none) (e3 : H' = upd H T (.tup [.int (i : Nat), y])) : YD K F (enumD ds) i H v H' := by
  subst e1 e3
  obtain ⟨d, hd, da⟩ := r.getV hi
  refine ⟨_, enumD_at hd, fun F1 s1 s2 st => ⟨upd F1 T (.tup [.int (i : Nat), y]), same_upd (freeX s2 st e2), same_upd2 s2, fun b o e => ?_, fun a ps e => (tgk_newF (o := .tup [.int (i : Nat), y]) (H := H) (u := .tup []) (freeX s2 st e2) tupNT a ps e).1, .tup (SqT.of upd_same) (.cons (.int _) (.cons ((da.mono s1).mono (same_upd (freeX s2 st e2))) .nil))⟩⟩
  have nb := ne_of_none e e2
  exact ⟨by rw [upd_ne nb]; exact e, upd_ne nb⟩
theorem walk_enumT {a : Addr} {ys : List V} : Walk (IteT K a) ys.length (fun H => SqT K H a ys) (YPair (fun i => some (.int (i : Nat))) (fun i => ys[i]?)) := by
  refine ⟨fun i _ hi q => ⟨ys, ys[i], q, by simp [hi]⟩, fun _ q => ⟨ys, q, rfl⟩, fun i H v H' _ q y => ?_⟩
  obtain ⟨T, x, h1, h2, h3, h4⟩ := y
  exact ⟨T, .int (i : Nat), x, h1, h2, h3, rfl, h4 ys q⟩
theorem di_enum {elts : List Expr} {kk : Nat} {tpos pp : Pos} {e : Expr} {g : Sm M S} (p : Pl K X N mg) (hm : mg "enumerate" = none) (h : DE M xr K X W e g) (hg : ∀ j, Gl (X j) "enumerate" := by intro _; rfl) (hs : ∀ j, starEach [e] (X j).env = (false, eval e (X j).env) :: starEach [] (X j).env := by intro _; rfl) :
    DI M xr K X W (.Tuple elts kk tpos) (.Call (.Name "enumerate" pp) [e] [] pos) (iEnM g) := by
  obtain ⟨t, pe, c⟩ := h
  refine ⟨iEnumA K t, fun j => by rw [← p.k j]; exact pi_enumA (hg j) (by rw [p.g j]; exact hm) (pe j) (hs j), fun G σ H F z Q hK hx ok hh => ?_⟩
  refine cmp_esc c G σ H F z _ hK hx ok (hit_bind hh fun s z1 v H1 F1 _ sm ok1 ev h1 => ?_)
  subst hK
  clear hh
  match s, ev, h1 with
  | .d (.lst ds), ev, h1 =>
    have ev' : Da G.K F1 v (.lst ds) := ev
    clear ev
    cases ev' with
    | lst q r =>
      rename_i a vs
      refine .inl ⟨a, vs, rfl, SqL.of (ok1.sub.lst q), h1 _ H1 F1 (Same.refl _) ok1 ?_⟩
      have wk := (walk_enum (K := G.K) (a := a) (xs := vs)).mono (G' := fun H => SameX F1 H) (Y' := YD G.K F1 (enumD ds)) (fun H s => SqL.of (s.lst q)) (fun i H x H' hi _ ⟨T, x1, y1, e1, e2, e3, e4, e5⟩ => by
        cases e4
        exact yd_pair r e5 e1 e2 e3)
      rw [r.length, ← enumD_len ds] at wk
      exact wk
  | .d (.tup ds), ev, h1 =>
    have ev' : Da G.K F1 v (.tup ds) := ev
    clear ev
    cases ev' with
    | tup q r =>
      rename_i a vs
      refine .inr ⟨a, vs, rfl, ok1.sub.tup q, h1 _ H1 F1 (Same.refl _) ok1 ?_⟩
      have wk := (walk_enumT (K := G.K) (a := a) (ys := vs)).mono (G' := fun H => SameX F1 H) (Y' := YD G.K F1 (enumD ds)) (fun H s => s.tup q) (fun i H x H' hi _ ⟨T, x1, y1, e1, e2, e3, e4, e5⟩ => by
        cases e4
        exact yd_pair r e5 e1 e2 e3)
      rw [r.length, ← enumD_len ds] at wk
      exact wk
  | .d .non, _, h1 => exact h1.elim
  | .d (.bl _), _, h1 => exact h1.elim
  | .d (.int _), _, h1 => exact h1.elim
  | .d (.str _), _, h1 => exact h1.elim
  | .d (.scr _), _, h1 => exact h1.elim
  | .d .emp, _, h1 => exact h1.elim
  | .d (.exc _ _), _, h1 => exact h1.elim
  | .d (.o _), _, h1 => exact h1.elim
  | .l _, _, h1 => exact h1.elim
  | .v _, _, h1 => exact h1.elim
  | .m _, _, h1 => exact h1.elim
end
end G
/-! t[::-1] -/
namespace G
open PySem L2 PySem.Spec PyProof.Rows HT
section
variable {prog : Program} {w : World} {A : Around} {E : Value → Shared → Prop} {s : Shared}
theorem places_rev (n : Nat) : Builtin.Slice.slicePlaces ((n : Int) - 1) (-1) (-1) = n := by
  unfold Builtin.Slice.slicePlaces
  have h1 : ¬ ((-1 : Int) > 0) := by decide
  simp only [h1, if_false]
  split
  · have e : (- (-1 : Int)) = 1 := by decide
    rw [e, Int.ediv_one]
    omega
  · omega
theorem applied_rev {sl : Addr} {vs : Value} {n : Nat} {Q : Int × Int × Nat → Shared → Prop} (hs : s.heap.IsSliceOf sl .none .none vs) (ps : IsPart vs (some (-1))) (h : Q ((n : Int) - 1, -1, n) s) :
    wpAny (model prog w) A (Builtin.Slice.sliceApplied (.ref sl) (pure (n : Int))) Q E s := by
  obtain ⟨ob, hob, hcb, hdb⟩ := id hs
  unfold Builtin.Slice.sliceApplied Builtin.Slice.sliceFields
  refine wpAny_bind (wpAny_bind (wpAny_field hob hdb (x := .none) rfl (wpAny_bind (wpAny_field hob hdb (x := .none) rfl (wpAny_bind (wpAny_field hob hdb (x := vs) rfl (wpAny_pure ?_)))))))
  refine wpAny_bind (slicePart_ ps ?_)
  show wpAny _ _ (if ((-1 : Int) == 0) = true then _ else _) _ _ s
  rw [if_neg (by decide)]
  refine wpAny_bind (slicePart_none (wpAny_bind (slicePart_none (wpAny_bind (wpAny_pure ?_)))))
  show wpAny _ _ (pure ((n : Int) - 1, (-1 : Int), Builtin.Slice.slicePlaces ((n : Int) - 1) (-1) (-1))) _ _ s
  rw [places_rev]
  exact wpAny_pure h
theorem fm_congr {α β : Type} {f g : α → Option β} : ∀ {l : List α}, (∀ x ∈ l, f x = g x) → l.filterMap f = l.filterMap g
  | [], _ => rfl
  | x :: r, h => by
    rw [List.filterMap_cons, List.filterMap_cons, h x List.mem_cons_self, fm_congr fun y hy => h y (List.mem_cons_of_mem _ hy)]
theorem pick_rev (xs : Array Value) : ((List.range xs.size).filterMap fun (m : Nat) => xs[((xs.size : Int) - 1 + (m : Int) * (-1)).toNat]?).toArray = xs.toList.reverse.toArray := by
  have e : (List.range xs.size).filterMap (fun (m : Nat) => xs[((xs.size : Int) - 1 + (m : Int) * (-1)).toNat]?) = (List.range xs.size).filterMap fun m => xs[xs.size - 1 - m]? := by
    refine fm_congr fun m hm => ?_
    have : m < xs.size := List.mem_range.mp hm
    have e : ((xs.size : Int) - 1 + (m : Int) * (-1)).toNat = xs.size - 1 - m := by omega
    rw [e]
  have e2 : (List.range xs.size).filterMap (fun m => xs[xs.size - 1 - m]?) = ((List.range xs.size).map fun k => xs.size - 1 - k).filterMap (xs[·]?) := by rw [List.filterMap_map]; rfl
  rw [e, e2, PySem.W.krv_range, List.filterMap_reverse, PySem.W.krv_all]
theorem getItem_rev {t sl : Addr} {items : Array Value} {vs : Value} {Q : Value → Shared → Prop} (ht : IsTup s.heap t items) (hs : s.heap.IsSliceOf sl .none .none vs) (ps : IsPart vs (some (-1)))
    (h : Q (.ref s.heap.objs.size) { s with heap := s.heap.push { cls := .type "tuple", data := .seq items.toList.reverse.toArray } }) (hsz : items.size ≤ sizeLine) : wpAny (model prog w) A (getItem (.ref t) (.ref sl)) Q E s := by
  have fits : sizeOk (.seq items.toList.reverse.toArray) := by
    show items.toList.reverse.toArray.size ≤ sizeLine
    rw [List.size_toArray, List.length_reverse, Array.length_toList]
    exact hsz
  obtain ⟨ob, hob, hcb, hdb⟩ := id hs
  have tyS : s.TypeIs (.ref sl) "slice" := ⟨ob, hob, hcb⟩
  unfold getItem
  try with_reducible refine wpAny_holding ?_
  first | refine wpAny_bind (wpAny_pure ?_) | skip
  refine wpAny_bind (wpAny_sequenceKey ht.typeIs (by decide) ?_)
  refine wpAny_bind (wpAny_callSpecial?_slot (name := Str.ofString "__getitem__") ht.typeIs PyProof.Rows.slot_tuple_getitem (wpAny_call_entry PyProof.Rows.slot_tuple_getitem ht.typeIs entry_tuple_getitem ?_ (args_tuple_getitem _ _)))
  show wpAny _ _ (Builtin.Tuple.tupleItemsOf (.ref t) >>= _) _ _ s
  refine wpAny_bind (tupleItemsOf_ ht ?_)
  refine wpAny_bind (wpAny_typeOf tyS ?_)
  rw [if_pos (by decide)]
  refine wpAny_bind (applied_rev hs ps ?_)
  have no : ¬ ((((items.size : Int) - 1) == 0 && (-1 : Int) == 1 && items.size == items.size) = true) := by simp
  show wpAny _ _ (if (((items.size : Int) - 1) == 0 && (-1 : Int) == 1 && items.size == items.size) = true then _ else _) _ _ s
  rw [if_neg no, pick_rev]
  first
    | exact wpAny_bind (m := Builtin.Tuple.tupleExact _) (wpAny_newObj_type (wpAny_pure ⟨_, rfl, wpAny_pure h⟩) fits)
    | exact wpAny_bind (m := Builtin.Tuple.tupleExact _) (wpAny_newObj_type (wpAny_bind (wpAny_pure (wpAny_pure ⟨_, rfl, wpAny_pure h⟩))) fits)
    | exact wpAny_bind (wpAny_bind (m := Builtin.Tuple.tupleExact _) (wpAny_newObj_type (wpAny_pure (wpAny_pure ⟨_, rfl, wpAny_pure h⟩)) fits))
    | exact wpAny_bind (wpAny_bind (m := Builtin.Tuple.tupleExact _) (wpAny_newObj_type (wpAny_pure ⟨_, rfl, wpAny_pure h⟩) fits))
end
def tRevA (K : PySem.W.Frag) (te : TE) : TE := fun σ H Q => te σ H fun x H1 => (∃ a ys, x = .ref a ∧ SqL K H1 a ys ∧ ∀ q, H1 q = none → Q (.ref q) (upd H1 q (.lst ys.reverse))) ∨ (∃ a ys, x = .ref a ∧ SqT K H1 a ys ∧ ∀ q, H1 q = none → Q (.ref q) (upd H1 q (.tup ys.reverse)))
theorem pe_revA {X : Cx} {e : Expr} {te : TE} {k : Nat} {p1 p2 p3 pos : Pos} (he : PE X e te) : PE X (.Subscript e (.Slice none none (some (.UnaryOp .USub (.Constant (.int 1) k p1) p2)) p3) pos) (tRevA X.K te) := by
  refine ⟨fun pins s σ H Q I h => ?_⟩
  refine Subscript_ (thn (he.run pins s σ H _ I h) fun v s1 ⟨x, H1, I1, r1, q1⟩ => ?_)
  have hst : PO X (some (.UnaryOp .USub (.Constant (.int 1) k p1) p2)) (tPart (tUn (rU fun i => .int (-i)) (tC (.int 1)))) := po_some (pe_un un_neg pe_int)
  refine wpAny_Slice (thn (po_none.run pins s1 σ H1 (fun o H2 => o = none ∧ H2 = H1) I1 ⟨rfl, rfl⟩) fun vl s2 ⟨l, H2, I2, pl, el, e2⟩ => ?_)
  subst el e2
  refine thn (po_none.run pins s2 σ H2 (fun o H3 => o = none ∧ H3 = H2) I2 ⟨rfl, rfl⟩) fun vu s3 ⟨u, H3, I3, pu, eu, e3⟩ => ?_
  subst eu e3
  refine thn (hst.run pins s3 σ H3 (fun o H4 => o = some (-1) ∧ H4 = H3) I3 ⟨1, rfl, -1, rfl, rfl, rfl⟩) fun vs s4 ⟨o, H4, I4, ps, eo, e4⟩ => ?_
  subst eo e4
  have I5 : Inv X pins σ H4 { s4 with heap := s4.heap.push { cls := .type "slice", data := .fields #[vl, vu, vs] } } := I4.kept (t' := s4.toks) fun b ob q => Heap.get?_push_of_some _ q
  rcases q1 with ⟨a, ys, ex, hx, q⟩ | ⟨a, ys, ex, hx, q⟩
  · subst ex
    cases r1
    obtain ⟨its, r, ht, hz⟩ := I5.list hx
    have hlen := r.length
    show wpAny (model X.prog X.w) X.A (subscriptTail e (.Slice none none (some (.UnaryOp .USub (.Constant (.int 1) k p1) p2)) p3) (.ref a) (.ref s4.heap.objs.size)) (EP X pins σ Q) X.xe _
    refine tail_any (ops := [.ref a, .ref s4.heap.objs.size]) ht.isList.typeIs (PySem.slot_list_getitem.lookup) ?_ (by with_unfolding_all rfl)
    refine wpAny_getItem_list_slice ht.isList (Heap.IsSliceOf.new _ vl vu vs) pl pu ps (by decide) ?_ (by rw [List.size_toArray]; omega)
    rw [PySem.W.krv_pick]
    exact ⟨.ref _, _, I5.laid (t' := s4.toks) (o := .lst ys.reverse) (fun b ob q => Heap.get?_push_of_some _ q) (Nat.le_refl _) ⟨by rw [List.length_reverse]; exact hz, _, 0, r.reverse, Heap.get?_push_size _ rfl⟩, rfl, q _ (I5.hok.fresh (Nat.le_refl _))⟩
  · subst ex
    cases r1
    obtain ⟨its, r, ht, hz⟩ := I5.tuple hx
    have hlen := r.length
    cases pl
    cases pu
    show wpAny (model X.prog X.w) X.A (subscriptTail e (.Slice none none (some (.UnaryOp .USub (.Constant (.int 1) k p1) p2)) p3) (.ref a) (.ref s4.heap.objs.size)) (EP X pins σ Q) X.xe _
    refine tail_any (ops := [.ref a, .ref s4.heap.objs.size]) ht.typeIs (PyProof.Rows.slot_tuple_getitem.lookup) ?_ (by with_unfolding_all rfl)
    refine getItem_rev ht (Heap.IsSliceOf.new _ .none .none vs) ps ?_ (by rw [List.size_toArray]; omega)
    exact ⟨.ref _, _, I5.laid (t' := s4.toks) (o := .tup ys.reverse) (fun b ob q => Heap.get?_push_of_some _ q) (Nat.le_refl _) ⟨by rw [List.length_reverse]; exact hz, _, r.reverse, IsTup.new _ _⟩, rfl, q _ (I5.hok.fresh (Nat.le_refl _))⟩
def dRev : D → Option R := fun d => match d with
  | .tup xs => some (.t xs.reverse)
  | .lst xs => some (.l xs.reverse)
  | _ => none
section
variable {ι : Type} {M : MI} {xr : Str → Option Value} {K : PySem.W.Frag} {X : ι → Cx} {W : WX} {N : List Str} {mg : Str → Option Value} {pos : Pos}
theorem de_rev {e : Expr} {g : Sm M S} {k : Nat} {p1 p2 p3 pos : Pos} (p : Pl K X N mg) (h : DE M xr K X W e g) : DE M xr K X W (.Subscript e (.Slice none none (some (.UnaryOp .USub (.Constant (.int 1) k p1) p2)) p3) pos) (eUn dRev g) := by
  obtain ⟨t, pe, c⟩ := h
  refine ⟨tRevA K t, fun j => by rw [← p.k j]; exact pe_revA (pe j), fun G σ H F z Q hK hx ok hh => ?_⟩
  refine cmp_opd c G σ H F z _ hK hx ok (hit_bind hh fun s z1 v H1 F1 _ sm1 ok1 e1 h1 => ?_)
  have q := fin_hit ok1 h1
  cases er : rd z1 s with
  | none => rw [er] at q; exact q.elim
  | some x =>
    rw [er] at q
    have q' : Hit0 G.K F1 H1 (dRev x) Q := q
    have rv := EO.rv ok1 e1 er
    subst hK
    unfold dRev at q'
    split at q'
    · obtain ⟨a, vs, rfl, a1, a2⟩ := rv.tup ok1.sub
      exact .inr ⟨a, vs, rfl, a1, fun p hp => q'.2 p _ hp a2.reverse⟩
    · obtain ⟨a, vs, rfl, a1, a2⟩ := rv.lst ok1.sub
      exact .inl ⟨a, vs, rfl, SqL.of a1, fun p hp => q' p _ hp a2.reverse⟩
    · exact q'.elim
end
end G
namespace G
open PySem L2
def dBand := dI (fun _ _ => true) fun i j => .int (Builtin.bitAnd i j)
section
variable {ι : Type} {M : MI} {xr : Str → Option Value} {K : PySem.W.Frag} {X : ι → Cx} {W : WX} {a b : Expr} {f f' : Sm M S} {pos : Pos}
theorem de_band (ha : DE M xr K X W a f) (hb : DE M xr K X W b f') : DE M xr K X W (.BinOp a .BitAnd b pos) (eBin dBand f f') := de_bin (fun j => op_and) (op2_I0 fun _ _ _ => .int _) ha hb
end
/-- a table of one class -/
def tb1 (c : Str) (b : Bool) : Str → Option Bool := fun s => if s = c then some b else none
theorem tb1_ok {c : Str} {b : Bool} {P : Str → Bool → Prop} (h : P c b) : ∀ s b', tb1 c b s = some b' → P s b' := fun s b' e => by
  unfold tb1 at e
  split at e
  · rename_i hs
    cases e
    subst hs
    exact h
  · cases e
theorem vals_refs : ∀ {as : List Addr} {ws : List Value}, Vals (as.map V.ref) ws → ws = as.map Value.ref
  | [], _, .nil => rfl
  | a :: r, _, .cons h t => by
    cases (show _ = Value.ref a from h)
    rw [vals_refs t]
    rfl
end G
namespace G
open PySem L2
theorem kit_own {K : PySem.W.Frag} {C E : Addr} {b : Bool} (hd : PySem.W.hasDictIn K E = true) (ty : PySem.W.typeIn K (.ref E) = some (.type "type")) (s : PySem.W.subIn K (.ref C) (.ref E) = some b) (ne : (Value.ref C == Value.ref E) = false) : PySem.W.kitOne K (.ref C) (.ref E) = some b := by
  obtain ⟨cd, hc, _⟩ := PySem.W.any_some hd
  unfold PySem.W.kitOne
  rw [ne, if_neg Bool.false_ne_true]
  show (if ((PySem.W.clsIn K E).isSome && PySem.W.typeIn K (.ref E) == some (.type "type")) = true then PySem.W.subIn K (.ref C) (.ref E) else none) = some b
  rw [if_pos (by rw [hc, ty]; rfl)]
  exact s
theorem kit_self {K : PySem.W.Frag} {C : Addr} : PySem.W.kitOne K (.ref C) (.ref C) = some true := by
  unfold PySem.W.kitOne
  rw [if_pos (beq_self_eq_true _)]
theorem kit_blt {K : PySem.W.Frag} {C : Addr} {T : String} {b : Bool} (m : PySem.W.kitMeta T = true) (s : PySem.W.subIn K (.ref C) (.type T) = some b) : PySem.W.kitOne K (.ref C) (.type T) = some b := by
  unfold PySem.W.kitOne
  have ne : (Value.ref C == Value.type T) = false := rfl
  rw [ne, if_neg Bool.false_ne_true]
  show (if PySem.W.kitMeta T = true then PySem.W.subIn K (.ref C) (.type T) else none) = some b
  rw [if_pos m]
  exact s
theorem any_nil {K : PySem.W.Frag} {t : Value} : PySem.W.kitAny K t [] = some false := rfl
theorem any_no {K : PySem.W.Frag} {t c : Value} {cs : List Value} {r : Bool} (h : PySem.W.kitOne K t c = some false) (hr : PySem.W.kitAny K t cs = some r) : PySem.W.kitAny K t (c :: cs) = some r := kitAny_cons h (fun _ => hr) (fun z => by cases z)
theorem any_yes {K : PySem.W.Frag} {t c : Value} {cs : List Value} (h : PySem.W.kitOne K t c = some true) : PySem.W.kitAny K t (c :: cs) = some true := kitAny_cons h (fun z => by cases z) (fun _ => rfl)
end G
namespace G
open PySem L2
theorem ofString_inj (a b : String) : (Str.ofString a = Str.ofString b) = (a = b) := by
  refine propext ⟨fun h => ?_, fun h => by rw [h]⟩
  have e : ∀ s : String, (Str.ofString s).cps.toList = s.toList.map Char.toNat := fun s => by
    show (cpsOfBytes 0 0 s.toByteArray.data.toList).toArray.toList = _
    rw [List.toList_toArray, cpsOfBytes_string]
  have h1 := e a
  rw [h, e b] at h1
  have inj : ∀ {l m : List Char}, l.map Char.toNat = m.map Char.toNat → l = m := fun {l} => by
    induction l with
    | nil => intro m h; cases m with
      | nil => rfl
      | cons _ _ => cases h
    | cons c r ih => intro m h; cases m with
      | nil => cases h
      | cons d s =>
        rw [List.map_cons, List.map_cons] at h
        injection h with h1 h2
        rw [ih h2, Char.toNat_inj.mp h1]
  exact String.toList_inj.mp (inj h1).symm
theorem ofString_beq (a b : String) : (Str.ofString a == Str.ofString b) = (a == b) := by
  rw [Bool.eq_iff_iff, beq_iff_eq, beq_iff_eq, ofString_inj]
theorem ofString_dec (a b : String) : decide (Str.ofString a = Str.ofString b) = decide (a = b) := by
  rw [decide_eq_decide, ofString_inj]
end G
namespace G
open PySem L2
/-! ### terms and statements -/
inductive Th where
  | var (k : Int)
  | call (f : Str) (as : List Th)
  | rel (r : Str) (as : List Th)
  | same (a b : Th)
  | no
  | and (a b : Th)
  | or (a b : Th)
  | imp (a b : Th)
  | all (s : Str) (a : Th)
  | some (s : Str) (a : Th)
mutual
def enc : Th → D
  | .var k => .tup [.str "var", .int k]
  | .call f as => .tup [.str "call", .str f, .tup (encs as)]
  | .rel f as => .tup [.str "rel", .str f, .tup (encs as)]
  | .same a b => .tup [.str "same", enc a, enc b]
  | .no => .tup [.str "no"]
  | .and a b => .tup [.str "and", enc a, enc b]
  | .or a b => .tup [.str "or", enc a, enc b]
  | .imp a b => .tup [.str "if", enc a, enc b]
  | .all s a => .tup [.str "all", .str s, enc a]
  | .some s a => .tup [.str "some", .str s, enc a]
def encs : List Th → List D
  | [] => []
  | t :: r => enc t :: encs r
end
def kids : Th → List Th
  | .var _ => []
  | .call _ as => as
  | .rel _ as => as
  | .same a b => [a, b]
  | .no => []
  | .and a b => [a, b]
  | .or a b => [a, b]
  | .imp a b => [a, b]
  | .all _ a => [a]
  | .some _ a => [a]
mutual
def size : Th → Nat
  | .var _ => 1
  | .call _ as => 1 + sizes as
  | .rel _ as => 1 + sizes as
  | .same a b => 1 + (size a + size b)
  | .no => 1
  | .and a b => 1 + (size a + size b)
  | .or a b => 1 + (size a + size b)
  | .imp a b => 1 + (size a + size b)
  | .all _ a => 1 + size a
  | .some _ a => 1 + size a
def sizes : List Th → Nat
  | [] => 0
  | t :: r => size t + sizes r
end
mutual
def depth : Th → Nat
  | .var _ => 1
  | .call _ as => 1 + depths as
  | .rel _ as => 1 + depths as
  | .same a b => 1 + max (depth a) (depth b)
  | .no => 1
  | .and a b => 1 + max (depth a) (depth b)
  | .or a b => 1 + max (depth a) (depth b)
  | .imp a b => 1 + max (depth a) (depth b)
  | .all _ a => 1 + depth a
  | .some _ a => 1 + depth a
def depths : List Th → Nat
  | [] => 0
  | t :: r => max (depth t) (depths r)
end
theorem encs_map : ∀ ts : List Th, encs ts = ts.map enc
  | [] => by rw [encs]; rfl
  | t :: r => by rw [encs, encs_map r]; rfl
theorem size_kids (t : Th) : size t = 1 + sizes (kids t) := by
  cases t <;> simp [size, kids, sizes]
theorem depth_kids (t : Th) : depth t = 1 + depths (kids t) := by
  cases t <;> simp [depth, kids, depths]
theorem sizes_append : ∀ xs ys : List Th, sizes (xs ++ ys) = sizes xs + sizes ys
  | [], ys => by simp [sizes]
  | x :: r, ys => by simp only [List.cons_append, sizes, sizes_append r ys]; omega
end G
namespace G
open PySem L2
/-! ### names that are texts, sizes -/
mutual
def nms : Th → Bool
  | .var _ => true
  | .call f as => PyData.strOk f && nmss as
  | .rel f as => PyData.strOk f && nmss as
  | .same a b => nms a && nms b
  | .no => true
  | .and a b => nms a && nms b
  | .or a b => nms a && nms b
  | .imp a b => nms a && nms b
  | .all s a => PyData.strOk s && nms a
  | .some s a => PyData.strOk s && nms a
def nmss : List Th → Bool
  | [] => true
  | t :: r => nms t && nmss r
end
theorem sk_var : PyData.strOk (Str.ofString "var") = true := by decide +kernel
theorem sk_call : PyData.strOk (Str.ofString "call") = true := by decide +kernel
theorem sk_rel : PyData.strOk (Str.ofString "rel") = true := by decide +kernel
theorem sk_same : PyData.strOk (Str.ofString "same") = true := by decide +kernel
theorem sk_no : PyData.strOk (Str.ofString "no") = true := by decide +kernel
theorem sk_and : PyData.strOk (Str.ofString "and") = true := by decide +kernel
theorem sk_or : PyData.strOk (Str.ofString "or") = true := by decide +kernel
theorem sk_if : PyData.strOk (Str.ofString "if") = true := by decide +kernel
theorem sk_all : PyData.strOk (Str.ofString "all") = true := by decide +kernel
theorem sk_some : PyData.strOk (Str.ofString "some") = true := by decide +kernel
mutual
theorem lay_enc : ∀ t : Th, lay (enc t) = nms t
  | .var _ => by simp [enc, lay, lays, nms, sk_var]
  | .call f as => by simp [enc, lay, lays, nms, sk_call, lays_encs as]
  | .rel f as => by simp [enc, lay, lays, nms, sk_rel, lays_encs as]
  | .same a b => by simp [enc, lay, lays, nms, sk_same, lay_enc a, lay_enc b]
  | .no => by simp [enc, lay, lays, nms, sk_no]
  | .and a b => by simp [enc, lay, lays, nms, sk_and, lay_enc a, lay_enc b]
  | .or a b => by simp [enc, lay, lays, nms, sk_or, lay_enc a, lay_enc b]
  | .imp a b => by simp [enc, lay, lays, nms, sk_if, lay_enc a, lay_enc b]
  | .all s a => by simp [enc, lay, lays, nms, sk_all, lay_enc a]
  | .some s a => by simp [enc, lay, lays, nms, sk_some, lay_enc a]
theorem lays_encs : ∀ ts : List Th, lays (encs ts) = nmss ts
  | [] => by simp [encs, lays, nmss]
  | t :: r => by simp [encs, lays, nmss, lay_enc t, lays_encs r]
end
theorem nms_kids {t : Th} (h : nms t = true) : nmss (kids t) = true := by
  cases t <;> simp_all [nms, kids, nmss]
theorem nmss_append : ∀ xs ys : List Th, nmss (xs ++ ys) = (nmss xs && nmss ys)
  | [], ys => by simp [nmss]
  | x :: r, ys => by simp [nmss, nmss_append r ys, Bool.and_assoc]
theorem lays_append : ∀ xs ys : List D, lays (xs ++ ys) = (lays xs && lays ys)
  | [], ys => by simp [lays]
  | x :: r, ys => by simp [lays, lays_append r ys, Bool.and_assoc]
theorem encs_append : ∀ xs ys : List Th, encs (xs ++ ys) = encs xs ++ encs ys
  | [], ys => by simp [encs]
  | x :: r, ys => by simp [encs, encs_append r ys]
theorem encs_length : ∀ xs : List Th, (encs xs).length = xs.length
  | [] => by simp [encs]
  | x :: r => by simp [encs, encs_length r]
theorem sizes_len : ∀ ts : List Th, ts.length ≤ sizes ts
  | [] => by simp [sizes]
  | t :: r => by
    have h := sizes_len r
    have h2 := size_kids t
    simp only [List.length_cons, sizes]
    omega
theorem eqD_nil (xs : List D) : eqD (.lst xs) (.lst []) = xs.isEmpty := by
  cases xs with
  | nil => simp [eqD, toPy, toPys, PyData.eqv, PyData.eqvAll]
  | cons _ _ => simp [eqD, toPy, toPys, PyData.eqv, PyData.eqvAll]
theorem ne_nil {xs : List D} (h : lays xs = true) : dNe (.lst xs) (.lst []) = some (.d (.bl (!xs.isEmpty))) := by
  unfold dNe eqOk
  simp only [lay, h, lays, dep, deps, Bool.true_and, Nat.zero_add]
  rw [if_pos (decide_eq_true (by omega)), eqD_nil]
theorem eq_nil {xs : List D} (h : lays xs = true) : dEq (.lst xs) (.lst []) = some (.d (.bl xs.isEmpty)) := by
  unfold dEq eqOk
  simp only [lay, h, lays, dep, deps, Bool.true_and, Nat.zero_add]
  rw [if_pos (decide_eq_true (by omega)), eqD_nil]
/-! ### comprehensions that map -/
theorem lc_map {M : MI} {i : Nat} {e : Sm M S} {g : D → D} {z : Z M.T} (hz : wipeZ z [i] = z) : ∀ (ds acc : List D), acc.length + ds.length ≤ lim →
    (∀ d ∈ ds, ∃ z1, escf e { z with rho := z.rho.set i (some (.d d)) } = .ok (.d (g d)) z1 ∧ wipeZ z1 [i] = z) → lcL (kName i) (fun z => .ok true z) e [i] ds acc z = .ok (acc ++ ds.map g) z
  | [], acc, _, _ => by simp [lcL]
  | d :: r, acc, hl, h => by
    obtain ⟨z1, h1, h2⟩ := h d List.mem_cons_self
    rw [List.length_cons] at hl
    unfold lcL
    simp only [kName, nox, Rs.bind_ok, if_true, h1]
    rw [if_pos (by omega), h2, lc_map hz r (acc ++ [g d]) (by rw [List.length_append, List.length_singleton]; omega) (fun d hd => h d (List.mem_cons_of_mem _ hd))]
    simp
/-! ### draws -/
theorem next_le {t : Mach} {many : Int} (h : 0 < many) : 0 ≤ (nextM t many).1 ∧ (nextM t many).1 < many ∧ (nextM t many).2.at_ = t.at_ + 1 := by
  unfold nextM
  split
  · exact ⟨Int.emod_nonneg _ (by omega), Int.emod_lt_of_pos _ h, rfl⟩
  · exact ⟨Int.emod_nonneg _ (by omega), Int.emod_lt_of_pos _ h, rfl⟩
theorem next_ok {t : Mach} {many : Int} (h : 0 < many) (h2 : many < 1073741824) (h3 : t.at_ < drawLim) : ∃ (r : Int) (t' : Mach), nextS [.m 0, .d (.int many)] t = .ok (.d (.int r)) t' ∧ 0 ≤ r ∧ r < many ∧ t'.at_ = t.at_ + 1 := by
  obtain ⟨q1, q2, q3⟩ := next_le (t := t) h
  exact ⟨_, _, if_pos ⟨h, h2, h3⟩, q1, q2, q3⟩
theorem sum_map_cast : ∀ ts : List Th, (ts.map fun t => ((size t : Nat) : Int)).sum = ((sizes ts : Nat) : Int)
  | [] => by simp [sizes]
  | t :: r => by simp only [List.map_cons, List.sum_cons, sum_map_cast r, sizes]; omega
end G
namespace G
theorem lm0 : (0 ≤ lim) = True := eq_true (by decide)
theorem lm1 : (0 + 1 ≤ lim) = True := eq_true (by decide)
theorem lm2 : (0 + 1 + 1 ≤ lim) = True := eq_true (by decide)
theorem lm3 : (0 + 1 + 1 + 1 ≤ lim) = True := eq_true (by decide)
theorem lm4 : (0 + 1 + 1 + 1 + 1 ≤ lim) = True := eq_true (by decide)
theorem lm5 : (0 + 1 + 1 + 1 + 1 + 1 ≤ lim) = True := eq_true (by decide)
theorem lm6 : (0 + 1 + 1 + 1 + 1 + 1 + 1 ≤ lim) = True := eq_true (by decide)
theorem lm7 : (0 + 1 + 1 + 1 + 1 + 1 + 1 + 1 ≤ lim) = True := eq_true (by decide)
theorem lm8 : (0 + 1 + 1 + 1 + 1 + 1 + 1 + 1 + 1 ≤ lim) = True := eq_true (by decide)
theorem lm9 : (0 + 1 + 1 + 1 + 1 + 1 + 1 + 1 + 1 + 1 ≤ lim) = True := eq_true (by decide)
theorem lm10 : (0 + 1 + 1 + 1 + 1 + 1 + 1 + 1 + 1 + 1 + 1 ≤ lim) = True := eq_true (by decide)
theorem lm11 : (0 + 1 + 1 + 1 + 1 + 1 + 1 + 1 + 1 + 1 + 1 + 1 ≤ lim) = True := eq_true (by decide)
theorem lm12 : (0 + 1 + 1 + 1 + 1 + 1 + 1 + 1 + 1 + 1 + 1 + 1 + 1 ≤ lim) = True := eq_true (by decide)
end G
namespace G
open PySem L2
theorem lc_mapE {M : MI} {i : Nat} {e : Sm M S} {α : Type} (en : α → D) {g : α → D} {z : Z M.T} (hz : wipeZ z [i] = z) : ∀ (ts : List α) (acc : List D), acc.length + ts.length ≤ lim →
    (∀ t ∈ ts, ∃ z1, escf e { z with rho := z.rho.set i (some (.d (en t))) } = .ok (.d (g t)) z1 ∧ wipeZ z1 [i] = z) → lcL (kName i) (fun z => .ok true z) e [i] (ts.map en) acc z = .ok (acc ++ ts.map g) z
  | [], acc, _, _ => by simp [lcL]
  | d :: r, acc, hl, h => by
    obtain ⟨z1, h1, h2⟩ := h d List.mem_cons_self
    rw [List.length_cons] at hl
    rw [List.map_cons]
    unfold lcL
    simp only [kName, nox, Rs.bind_ok, if_true, h1]
    rw [if_pos (by omega), h2, lc_mapE en hz r (acc ++ [g d]) (by rw [List.length_append, List.length_singleton]; omega) (fun d hd => h d (List.mem_cons_of_mem _ hd))]
    simp
theorem intsOf_map {α : Type} (f : α → Int) : ∀ ts : List α, intsOf (ts.map fun t => D.int (f t)) = some (ts.map f)
  | [] => rfl
  | t :: r => by rw [List.map_cons, intsOf, intsOf_map f r]; rfl
theorem maxL_depths : ∀ ts : List Th, maxL (0 :: ts.map fun t => ((depth t : Nat) : Int)) = ((depths ts : Nat) : Int)
  | [] => by simp [maxL, depths]
  | t :: r => by
    have h := maxL_is (ns := 0 :: (t :: r).map fun t => ((depth t : Nat) : Int)) (by intro e; cases e)
    have up : ∀ ts : List Th, ∀ y ∈ (ts.map fun t => ((depth t : Nat) : Int)), y ≤ ((depths ts : Nat) : Int) := fun ts => by
      induction ts with
      | nil => intro y hy; cases hy
      | cons t r ih =>
        intro y hy
        rw [List.map_cons] at hy
        rw [depths]
        rcases List.mem_cons.mp hy with rfl | hy
        · omega
        · have := ih y hy; omega
    have lo : ∀ ts : List Th, ts = [] ∨ ((depths ts : Nat) : Int) ∈ (ts.map fun t => ((depth t : Nat) : Int)) := fun ts => by
      induction ts with
      | nil => exact .inl rfl
      | cons t r ih =>
        refine .inr ?_
        rw [depths, List.map_cons]
        rcases ih with rfl | ih
        · rw [depths]
          simp
        · by_cases c : depth t ≤ depths r
          · rw [Nat.max_eq_right c]; exact List.mem_cons_of_mem _ ih
          · rw [Nat.max_eq_left (by omega)]; exact List.mem_cons_self
    refine Int.le_antisymm ?_ ?_
    · rcases List.mem_cons.mp h.1 with e | e
      · rw [e]; omega
      · exact up (t :: r) _ e
    · rcases lo (t :: r) with e | e
      · cases e
      · exact h.2 _ (List.mem_cons_of_mem _ e)
theorem kb_int_bool : kitB "int" "bool" = some false := by decide +kernel
theorem kb_int_int : kitB "int" "int" = some true := by decide +kernel
theorem eqD_int (i j : Int) : eqD (.int i) (.int j) = (i == j) := by simp [eqD, toPy, PyData.eqv]
theorem eqD_str (i j : Str) : eqD (.str i) (.str j) = (i == j) := by simp [eqD, toPy, PyData.eqv]
def eqDs : List D → List D → Bool
  | [], [] => true
  | x :: r, y :: s => eqD x y && eqDs r s
  | _, _ => false
theorem eqvAll_toPys : ∀ xs ys : List D, PyData.eqvAll (toPys xs) (toPys ys) = eqDs xs ys
  | [], [] => by simp [toPys, PyData.eqvAll, eqDs]
  | [], _ :: _ => by simp [toPys, PyData.eqvAll, eqDs]
  | _ :: _, [] => by simp [toPys, PyData.eqvAll, eqDs]
  | x :: r, y :: s => by simp only [toPys, PyData.eqvAll, eqDs, eqD, eqvAll_toPys r s]
theorem eqD_lst (xs ys : List D) : eqD (.lst xs) (.lst ys) = eqDs xs ys := by
  unfold eqD
  rw [toPy, toPy, PyData.eqv, eqvAll_toPys]
theorem eqD_tup (xs ys : List D) : eqD (.tup xs) (.tup ys) = eqDs xs ys := by
  unfold eqD
  rw [toPy, toPy, PyData.eqv, eqvAll_toPys]
end G
namespace G
open PySem L2
theorem noOwn_one {rho : List (Option S)} {i : Nat} (h : rho.set i none = rho) : noOwn rho [i] = true := by
  unfold noOwn
  rw [List.all_cons, List.all_nil, Bool.and_true, ← h, List.getElem?_set]
  simp only [if_true]
  split
  · rename_i h; split at h <;> cases h
  · rfl
theorem rest_one {rho : List (Option S)} {i : Nat} (h : rho.set i none = rho) : restR rho rho [i] = rho := by
  unfold restR restR
  have e : rho[i]?.getD none = none := by
    rw [← h, List.getElem?_set]
    simp only [if_true]
    split <;> rfl
  rw [e, h]
/-- a comprehension that maps and leaves the machine -/
theorem elc_map {M : MI} {i : Nat} {its : Sm M (List D)} {e : Sm M S} {α : Type} (en : α → D) {g : α → D} {ts : List α} {z z0 : Z M.T} (h0 : its z0 = .ok (ts.map en) z) (hi : z.rho.set i none = z.rho) (hl : ts.length ≤ lim)
    (h : ∀ t ∈ ts, escf e { z with rho := z.rho.set i (some (.d (en t))) } = .ok (.d (g t)) { z with rho := z.rho.set i (some (.d (en t))) }) : eLc its (kName i) (fun z => .ok true z) e [i] z0 = .ok (.l (ts.map g)) z := by
  have hw : wipeZ z [i] = z := by unfold wipeZ wipeR wipeR; rw [hi]
  unfold eLc
  rw [h0, Rs.bind_ok, if_pos (noOwn_one hi), hw, lc_mapE en hw ts [] (by rw [List.length_nil]; omega) (fun t ht => ⟨_, h t ht, by unfold wipeZ wipeR wipeR; simp only [List.set_set, hi]⟩), Rs.bind_ok, rest_one hi]
  rfl
/-- a comprehension whose body draws -/
theorem lc_run {M : MI} {i : Nat} {e : Sm M S} {α : Type} {en : α → D} {P : α → Prop} {Q : Nat → M.T → Prop} {rho : List (Option S)} (hi : rho.set i none = rho)
    (h : ∀ k d m, Q (k + 1) m → ∃ t m', escf e ⟨rho.set i (some (.d d)), m⟩ = .ok (.d (en t)) ⟨rho.set i (some (.d d)), m'⟩ ∧ P t ∧ Q k m') :
    ∀ (ds : List D) (acc : List D) (m : M.T), acc.length + ds.length ≤ lim → Q ds.length m → ∃ (ts : List α) (m' : M.T), lcL (M := M) (kName i) (fun z => .ok true z) e [i] ds acc ⟨rho, m⟩ = .ok (acc ++ ts.map en) ⟨rho, m'⟩ ∧ ts.length = ds.length ∧ (∀ t ∈ ts, P t) ∧ Q 0 m'
  | [], acc, m, _, q => ⟨[], m, by simp [lcL], rfl, (fun t ht => by cases ht), q⟩
  | d :: r, acc, m, hl, q => by
    rw [List.length_cons] at hl q
    obtain ⟨t, m1, h1, h2, h3⟩ := h _ d m q
    obtain ⟨ts, m2, g1, g2, g3, g4⟩ := lc_run hi h r (acc ++ [en t]) m1 (by rw [List.length_append, List.length_singleton]; omega) h3
    refine ⟨t :: ts, m2, ?_, by rw [List.length_cons, g2, List.length_cons], ?_, g4⟩
    · unfold lcL
      simp only [kName, nox, Rs.bind_ok, if_true, h1]
      rw [if_pos (by omega)]
      have hw : wipeZ (⟨rho.set i (some (.d d)), m1⟩ : Z M.T) [i] = ⟨rho, m1⟩ := by unfold wipeZ wipeR wipeR; simp only [List.set_set, hi]
      rw [hw, g1]
      simp
    · intro u hu
      rcases List.mem_cons.mp hu with rfl | hu
      · exact h2
      · exact g3 u hu
theorem elc_run {M : MI} {i : Nat} {its : Sm M (List D)} {e : Sm M S} {α : Type} {en : α → D} {P : α → Prop} {Q : Nat → M.T → Prop} {rho : List (Option S)} {z0 : Z M.T} {ds : List D} {m : M.T} (h0 : its z0 = .ok ds ⟨rho, m⟩) (hi : rho.set i none = rho) (hl : ds.length ≤ lim) (q : Q ds.length m)
    (h : ∀ k d m, Q (k + 1) m → ∃ t m', escf e ⟨rho.set i (some (.d d)), m⟩ = .ok (.d (en t)) ⟨rho.set i (some (.d d)), m'⟩ ∧ P t ∧ Q k m') :
    ∃ (ts : List α) (m' : M.T), eLc its (kName i) (fun z => .ok true z) e [i] z0 = .ok (.l (ts.map en)) ⟨rho, m'⟩ ∧ ts.length = ds.length ∧ (∀ t ∈ ts, P t) ∧ Q 0 m' := by
  obtain ⟨ts, m', g1, g2, g3, g4⟩ := lc_run (M := M) hi h ds [] m (by rw [List.length_nil]; omega) q
  refine ⟨ts, m', ?_, g2, g3, g4⟩
  have hw : wipeZ (⟨rho, m⟩ : Z M.T) [i] = ⟨rho, m⟩ := by unfold wipeZ wipeR wipeR; simp only [hi]
  unfold eLc
  rw [h0, Rs.bind_ok, if_pos (noOwn_one hi), hw, g1, Rs.bind_ok]
  simp only [rest_one hi]
  rfl
end G
namespace G
open PySem L2
theorem atI0 {α : Type} (x : α) (r : List α) : atI (x :: r) 0 = some x := by
  unfold atI ixN
  simp
theorem atI1 {α : Type} (x y : α) (r : List α) : atI (x :: y :: r) 1 = some y := by
  unfold atI ixN
  have h : (1 : Int) < ((r.length + 1 + 1 : Nat) : Int) := by omega
  simp only [List.length_cons]
  rw [if_pos h]
  rfl
theorem atI2 {α : Type} (x y w : α) (r : List α) : atI (x :: y :: w :: r) 2 = some w := by
  unfold atI ixN
  have h : (2 : Int) < ((r.length + 1 + 1 + 1 : Nat) : Int) := by omega
  simp only [List.length_cons]
  rw [if_pos h]
  rfl
end G
namespace G
open PySem L2
theorem rg_lim {j : Int} (h0 : 0 ≤ j) (h1 : j ≤ 1000000) : -(2 ^ 62) ≤ j ∧ j < 2 ^ 62 := by
  have e : (2 : Int) ^ 62 = 4611686018427387904 := by decide +kernel
  rw [e]
  omega
theorem and_ok {ζ : Type} {a b : Prop} [Decidable a] [Decidable b] (z : ζ) : (if decide a = true then Rs.ok (decide b) z else Rs.ok false z) = Rs.ok (decide (a ∧ b)) z := by
  by_cases ha : a <;> by_cases hb : b <;> simp [ha, hb]
theorem or_ok {ζ : Type} {a b : Prop} [Decidable a] [Decidable b] (z : ζ) : (if decide a = true then Rs.ok true z else Rs.ok (decide b) z) = Rs.ok (decide (a ∨ b)) z := by
  by_cases ha : a <;> by_cases hb : b <;> simp [ha, hb]
theorem range_len (n : Nat) : (rangeD 0 n).length = n := by unfold rangeD; rw [List.length_map, List.length_range]
end G
namespace G
open PySem L2
theorem dSub_i (i j : Int) : dSub (.int i) (.int j) = some (.d (.int (i - j))) := rfl
theorem dLt_i (i j : Int) : dLt (.int i) (.int j) = some (.d (.bl (decide (i < j)))) := rfl
theorem dLe_i (i j : Int) : dLe (.int i) (.int j) = some (.d (.bl (decide (i ≤ j)))) := rfl
theorem dGt_i (i j : Int) : dGt (.int i) (.int j) = some (.d (.bl (decide (j < i)))) := rfl
theorem dGe_i (i j : Int) : dGe (.int i) (.int j) = some (.d (.bl (decide (j ≤ i)))) := rfl
theorem dAdd_i (i j : Int) : dAdd (.int i) (.int j) = some (.d (.int (i + j))) := rfl
theorem dEq_i (i j : Int) : dEq (.int i) (.int j) = some (.d (.bl (decide (i = j)))) := by
  unfold dEq
  rw [if_pos (by rfl), eqD_int]
  rfl
theorem dNe_i (i j : Int) : dNe (.int i) (.int j) = some (.d (.bl (!decide (i = j)))) := by
  unfold dNe
  rw [if_pos (by rfl), eqD_int]
  rfl
end G
namespace G
open PySem L2
theorem seq_nx {M : MI} {f g : Sm M Out} {z z1 : Z M.T} (h : f z = .ok .nx z1) : sSeq f g z = g z1 := by
  simp only [sSeq, h, Rs.bind_ok]
theorem seq_rt {M : MI} {f g : Sm M Out} {z z1 : Z M.T} {s : S} (h : f z = .ok (.rt s) z1) : sSeq f g z = .ok (.rt s) z1 := by
  simp only [sSeq, h, Rs.bind_ok]
theorem fnM_d {M : MI} {n : Nat} {b : Sm M Out} {args : List S} {t t' : M.T} {x : D} {rho' : List (Option S)} (h : b { rho := args.map some ++ List.replicate (n - args.length) none, m := t } = .ok (.rt (.d x)) ⟨rho', t'⟩) : fnM n b args t = .ok (.d x) t' := by
  simp only [fnM, h]
end G
namespace G
open PySem L2
/-! ### texts -/
theorem dAdd_s {x y : Str} (h : x.length + y.length ≤ lim) : dAdd (.str x) (.str y) = some (.d (.str (x ++ y))) := by
  unfold dAdd
  exact if_pos h
theorem fLen_s {w : Str} (h : w.length ≤ lim) : fLen [.str w] = some (.d (.int (w.length : Nat))) := by
  unfold fLen
  exact if_pos h
def sg (c : Nat) (s : Str) : Bool := decide (c ∈ s.cps.toList)
theorem dIn_c (c : Nat) (z : Str) : dIn (.str ⟨#[c]⟩) (.str z) = some (.d (.bl (sg c z))) := rfl
theorem dNotIn_c (c : Nat) (z : Str) : dNotIn (.str ⟨#[c]⟩) (.str z) = some (.d (.bl (!sg c z))) := rfl
def okS (w : Str) : Prop := ∀ c ∈ w.cps.toList, c < 0x110000
theorem okS_app {x y : Str} (a : okS x) (b : okS y) : okS (x ++ y) := by
  intro c hc
  have e : (x ++ y).cps.toList = x.cps.toList ++ y.cps.toList := by
    show (x.cps ++ y.cps).toList = _
    simp
  rw [e] at hc
  rcases List.mem_append.mp hc with h | h
  · exact a c h
  · exact b c h
theorem okS_cut {x : Str} (a : okS x) (lo hi : Option Int) : okS (cutS x lo hi) := by
  intro c hc
  unfold cutS at hc
  exact a c (List.mem_of_mem_drop (List.mem_of_mem_take hc))
theorem len_app (x y : Str) : (x ++ y).length = x.length + y.length := by
  show (x.cps ++ y.cps).size = x.cps.size + y.cps.size
  simp
theorem okS_of {x : Str} (h : PyData.strOk x = true) : okS x := by
  intro c hc
  unfold PyData.strOk at h
  rw [Array.all_eq_true_iff_forall_mem] at h
  have := h c (by simpa using hc)
  simpa using this
theorem atI_mem {α : Type} {xs : List α} {i : Int} (h : 0 ≤ i) (h2 : i < xs.length) : ∃ x ∈ xs, atI xs i = some x := by
  unfold atI ixN
  rw [if_pos h, if_pos h2]
  have hl : i.toNat < xs.length := by omega
  exact ⟨xs[i.toNat], List.getElem_mem hl, by rw [Option.bind_some, List.getElem?_eq_getElem hl]⟩
theorem dIx_s {z : Str} {i : Int} (hz : z.length ≤ lim) (ho : okS z) (h : 0 ≤ i) (h2 : i < z.length) : ∃ c, dIx (.str z) (.int i) = some (.d (.str ⟨#[c]⟩)) ∧ c < 0x110000 := by
  obtain ⟨c, hc, e⟩ := atI_mem (xs := z.cps.toList) h (by rw [Array.length_toList]; exact h2)
  refine ⟨c, ?_, ho c hc⟩
  unfold dIx
  refine (if_pos hz).trans ?_
  rw [e]
  rfl
theorem okS_one {c : Nat} (h : c < 0x110000) : okS ⟨#[c]⟩ := by
  intro d hd
  rcases List.mem_singleton.mp hd with rfl
  exact h
/-- a comprehension that sieves -/
theorem lc_filt {M : MI} {i : Nat} {t : Sm M Bool} {e : Sm M S} {α : Type} (en : α → D) {g : α → D} {p : α → Bool} {z : Z M.T} (hi : z.rho.set i none = z.rho) : ∀ (ts : List α) (acc : List D), acc.length + ts.length ≤ lim →
    (∀ x ∈ ts, t { z with rho := z.rho.set i (some (.d (en x))) } = .ok (p x) { z with rho := z.rho.set i (some (.d (en x))) } ∧ escf e { z with rho := z.rho.set i (some (.d (en x))) } = .ok (.d (g x)) { z with rho := z.rho.set i (some (.d (en x))) }) → lcL (kName i) t e [i] (ts.map en) acc z = .ok (acc ++ (ts.filter p).map g) z
  | [], acc, _, _ => by simp [lcL]
  | d :: r, acc, hl, h => by
    obtain ⟨h1, h2⟩ := h d List.mem_cons_self
    rw [List.length_cons] at hl
    have hw : wipeZ ({ z with rho := z.rho.set i (some (.d (en d))) } : Z M.T) [i] = z := by unfold wipeZ wipeR wipeR; simp only [List.set_set, hi]
    rw [List.map_cons]
    unfold lcL
    simp only [kName, nox, Rs.bind_ok, h1]
    cases hp : p d with
    | true =>
      simp only [if_true, h2, Rs.bind_ok]
      rw [if_pos (by omega), hw, lc_filt en hi r (acc ++ [g d]) (by rw [List.length_append, List.length_singleton]; omega) (fun x hx => h x (List.mem_cons_of_mem _ hx)), List.filter_cons_of_pos hp]
      simp
    | false =>
      simp only [Bool.false_eq_true, if_false]
      rw [hw, lc_filt en hi r acc (by omega) (fun x hx => h x (List.mem_cons_of_mem _ hx)), List.filter_cons_of_neg (by rw [hp]; exact Bool.false_ne_true)]
theorem elc_filt {M : MI} {i : Nat} {its : Sm M (List D)} {t : Sm M Bool} {e : Sm M S} {α : Type} (en : α → D) {g : α → D} {p : α → Bool} {ts : List α} {z z0 : Z M.T} (h0 : its z0 = .ok (ts.map en) z) (hi : z.rho.set i none = z.rho) (hl : ts.length ≤ lim)
    (h : ∀ x ∈ ts, t { z with rho := z.rho.set i (some (.d (en x))) } = .ok (p x) { z with rho := z.rho.set i (some (.d (en x))) } ∧ escf e { z with rho := z.rho.set i (some (.d (en x))) } = .ok (.d (g x)) { z with rho := z.rho.set i (some (.d (en x))) }) : eLc its (kName i) t e [i] z0 = .ok (.l ((ts.filter p).map g)) z := by
  have hw : wipeZ z [i] = z := by unfold wipeZ wipeR wipeR; rw [hi]
  unfold eLc
  rw [h0, Rs.bind_ok, if_pos (noOwn_one hi), hw, lc_filt en hi ts [] (by rw [List.length_nil]; omega) h, Rs.bind_ok, rest_one hi]
  rfl
theorem blsOf_map {α : Type} (f : α → Bool) : ∀ ts : List α, blsOf (ts.map fun t => D.bl (f t)) = some (ts.map f)
  | [] => rfl
  | t :: r => by rw [List.map_cons, blsOf, blsOf_map f r]; rfl
end G
/-! A lambda handed to a def of the text: its cells are held while that def runs. -/
namespace G
open PySem L2 PySem.Spec PyProof.Rows LamX NdefX
structure LamP where
  qual : Str
  params : Arguments
  body : Expr
  scope : Scope
  fr : List Str
/-- a cell's very object -/
def CelO (o : Obj) : HO := .frz o (.own 0)
/-- the lambda's object at f -/
def LamO (L : LamP) (cl : List (Str × Addr)) (f c : Addr) : HO := .ext fun h => ∃ pm ctv : Value, h.get? f = some (PySem.W.kla_obj "<lambda>" L.qual L.params L.body L.scope cl pm c ctv)
def drp (A : List Addr) (H : Hp) : Hp := fun b => if b ∈ A then none else H b
def mrg (A : List Addr) (H0 H : Hp) : Hp := fun b => if b ∈ A then H0 b else H b
def trc (A : List Addr) (obj : Addr → Obj) (H : Hp) : Hp := fun b => if b ∈ A then some (CelO (obj b)) else H b
theorem drp_in {A : List Addr} {H : Hp} {b : Addr} (h : b ∈ A) : drp A H b = none := if_pos h
theorem drp_out {A : List Addr} {H : Hp} {b : Addr} (h : b ∉ A) : drp A H b = H b := if_neg h
theorem mrg_in {A : List Addr} {H0 H : Hp} {b : Addr} (h : b ∈ A) : mrg A H0 H b = H0 b := if_pos h
theorem mrg_out {A : List Addr} {H0 H : Hp} {b : Addr} (h : b ∉ A) : mrg A H0 H b = H b := if_neg h
theorem trc_in {A : List Addr} {obj : Addr → Obj} {H : Hp} {b : Addr} (h : b ∈ A) : trc A obj H b = some (CelO (obj b)) := if_pos h
theorem trc_out {A : List Addr} {obj : Addr → Obj} {H : Hp} {b : Addr} (h : b ∉ A) : trc A obj H b = H b := if_neg h
/-- the addresses in A hold cells, told to the object -/
def Held (A : List Addr) (H : Hp) : Prop := ∀ a ∈ A, ∃ o, H a = some (CelO o)
theorem Held.out {A : List Addr} {H : Hp} (h : Held A H) {b : Addr} {u : HO} (e : H b = some u) (n : ∀ o, u ≠ CelO o) : b ∉ A := fun hb => by
  obtain ⟨o, q⟩ := h b hb
  rw [e] at q
  exact n o (Option.some.inj q)
theorem own_ne {x : Addr} (o : Obj) : HO.own x ≠ CelO o := fun e => by cases e
theorem tup_ne {xs : List V} (o : Obj) : HO.tup xs ≠ CelO o := fun e => by cases e
theorem lst_ne {xs : List V} (o : Obj) : HO.lst xs ≠ CelO o := fun e => by cases e
theorem ext_ne {φ : Heap → Prop} (o : Obj) : HO.ext φ ≠ CelO o := fun e => by cases e
theorem tbl_ne {ps : Array Value} (o : Obj) : HO.tbl ps ≠ CelO o := fun e => by cases e
section
variable {P : Program} {w : World} {K : PySem.W.Frag} {mg : Str → Option Value} {base : Heap} {B : Around} {outer : List Env} {s s' : Shared} {H : Hp} {A : List Addr} {Q Q2 : VK} {u : Value} {obj : Addr → Obj}
theorem hok_cel {h : Heap} {a : Addr} {o : Obj} (ok : HOk P w H h) (e : H a = some (CelO o)) : h.get? a = some o := (ok a _ e).1
theorem env0_drp (e0 : Env0 P w K mg base B outer s H) (hA : Held A H) : Env0 P w K mg base B outer s (drp A H) where
  frames := e0.frames
  mod := e0.mod
  bs := fun b o e => ⟨(e0.bs b o e).1, by
    by_cases q : b ∈ A
    · exact drp_in q
    · rw [drp_out q]; exact (e0.bs b o e).2⟩
  bsz := e0.bsz
  funs := e0.funs
  frf := fun b hb => by
    by_cases q : b ∈ A
    · exact drp_in q
    · rw [drp_out q]; exact e0.frf b hb
  hok := fun b o q => by
    by_cases hb : b ∈ A
    · rw [drp_in hb] at q; cases q
    · rw [drp_out hb] at q
      exact (e0.hok b o q).stay (fun _ _ _ r => r) (fun c r => by rw [drp_out (hA.out r own_ne)]; exact r) (fun c xs r => by rw [drp_out (hA.out r tup_ne)]; exact r)
  bare := e0.bare
/-- what was run without the cells was run with them -/
theorem ce_mrg (e0 : Env0 P w K mg base B outer s H) (hA : Held A H) (h : CE outer P w (drp A H) s (fun v H' => (∀ a ∈ A, H' a = none) → Q v (mrg A H H')) u s') : CE outer P w H s Q u s' := by
  obtain ⟨v, H', os, bare, un, hok, rv, q⟩ := h
  have nf : ∀ a ∈ A, a ∉ frs outer := fun a ha z => by
    obtain ⟨o, e⟩ := hA a ha
    rw [e0.frf a z] at e; cases e
  have ga : ∀ a ∈ A, ∃ o, H a = some (CelO o) ∧ s'.heap.get? a = some o ∧ H' a = none := fun a ha => by
    obtain ⟨o, e⟩ := hA a ha
    have g := hok_cel e0.hok e
    exact ⟨o, e, un.keep a o g (drp_in ha) (nf a ha) (by simp), un.free a o g (drp_in ha) (by simp)⟩
  have out : ∀ b, H b = none → b ∉ A := fun b e hb => by
    obtain ⟨o, q⟩ := hA b hb
    rw [e] at q; cases q
  refine ⟨v, mrg A H H', os, bare, ⟨fun b o e n h1 h2 => ?_, fun b o e n h1 h2 => ?_, fun b o e n h2 => ?_, un.there, fun b xs e => ?_, fun b o x e => ?_, fun b ps e => ?_⟩, fun b o e => ?_, rv, q fun a ha => (ga a ha).choose_spec.2.2⟩
  · exact un.keep b o e (by rw [drp_out (out b n)]; exact n) h1 h2
  · exact un.slot b o e (by rw [drp_out (out b n)]; exact n) h1 h2
  · rw [mrg_out (out b n)]
    exact un.free b o e (by rw [drp_out (out b n)]; exact n) h2
  · have nb := hA.out e tup_ne
    rw [mrg_out nb]
    exact un.tups b xs (by rw [drp_out nb]; exact e)
  · by_cases nb : b ∈ A
    · rw [mrg_in nb]; exact e
    · rw [mrg_out nb]
      exact un.frzs b o x (by rw [drp_out nb]; exact e)
  · have nb := hA.out e tbl_ne
    rw [mrg_out nb]
    exact un.tbls b ps (by rw [drp_out nb]; exact e)
  · by_cases nb : b ∈ A
    · rw [mrg_in nb] at e
      obtain ⟨o2, e2, g2, _⟩ := ga b nb
      rw [e] at e2
      cases e2
      exact ⟨g2, _, g2⟩
    · rw [mrg_out nb] at e
      have nn : ∀ c x, H' c = some x → c ∉ A := fun c x e hc => by
        obtain ⟨_, _, _, n⟩ := ga c hc
        rw [n] at e; cases e
      exact (hok b o e).stay (fun _ _ _ r => r) (fun c r => by rw [mrg_out (nn c _ r)]; exact r) (fun c xs r => by rw [mrg_out (nn c _ r)]; exact r)
theorem env0_trc (e0 : Env0 P w K mg base B outer s H) (hA : ∀ a ∈ A, H a = none ∧ s.heap.get? a = some (obj a) ∧ base.get? a = none ∧ a ∉ frs outer) : Env0 P w K mg base B outer s (trc A obj H) where
  frames := e0.frames
  mod := e0.mod
  bs := fun b o e => ⟨(e0.bs b o e).1, by
    have q : b ∉ A := fun q => by
      have := (hA b q).2.2.1
      rw [e] at this; cases this
    rw [trc_out q]; exact (e0.bs b o e).2⟩
  bsz := e0.bsz
  funs := e0.funs
  frf := fun b hb => by
    have q : b ∉ A := fun q => (hA b q).2.2.2 hb
    rw [trc_out q]; exact e0.frf b hb
  hok := fun b o q => by
    by_cases hb : b ∈ A
    · rw [trc_in hb] at q
      cases q
      have g := (hA b hb).2.1
      exact ⟨g, _, g⟩
    · rw [trc_out hb] at q
      have nn : ∀ c x, H c = some x → c ∉ A := fun c x e hc => by
        rw [(hA c hc).1] at e; cases e
      exact (e0.hok b o q).stay (fun _ _ _ r => r) (fun c r => by rw [trc_out (nn c _ r)]; exact r) (fun c xs r => by rw [trc_out (nn c _ r)]; exact r)
  bare := e0.bare
theorem ce_unt (hA : ∀ a ∈ A, H a = none ∧ s.heap.get? a = some (obj a) ∧ base.get? a = none ∧ a ∉ frs outer) (h : CE outer P w (trc A obj H) s (fun v H3 => (∀ a ∈ A, H3 a = some (CelO (obj a))) ∧ Q v (drp A H3)) u s') : CE outer P w H s Q u s' := by
  obtain ⟨v, H3, os, bare, un, hok, rv, hx, q⟩ := h
  have held : Held A H3 := fun a ha => ⟨_, hx a ha⟩
  have nn : ∀ c x, H c = some x → c ∉ A := fun c x e hc => by
    rw [(hA c hc).1] at e; cases e
  refine ⟨v, drp A H3, os, bare, ⟨fun b o e n h1 h2 => ?_, fun b o e n h1 h2 => ?_, fun b o e n h2 => ?_, un.there, fun b xs e => ?_, fun b o x e => ?_, fun b ps e => ?_⟩, fun b o e => ?_, rv, q⟩
  · by_cases hb : b ∈ A
    · have g := hok_cel hok (hx b hb)
      have := (hA b hb).2.1
      rw [e] at this
      cases this
      exact g
    · exact un.keep b o e (by rw [trc_out hb]; exact n) h1 h2
  · have hb : b ∉ A := fun hb => (hA b hb).2.2.2 h1
    exact un.slot b o e (by rw [trc_out hb]; exact n) h1 h2
  · by_cases hb : b ∈ A
    · exact drp_in hb
    · rw [drp_out hb]
      exact un.free b o e (by rw [trc_out hb]; exact n) h2
  · have nb := nn _ _ e
    rw [drp_out nb]
    exact un.tups b xs (by rw [trc_out nb]; exact e)
  · have nb := nn _ _ e
    rw [drp_out nb]
    exact un.frzs b o x (by rw [trc_out nb]; exact e)
  · have nb := nn _ _ e
    rw [drp_out nb]
    exact un.tbls b ps (by rw [trc_out nb]; exact e)
  · by_cases hb : b ∈ A
    · rw [drp_in hb] at e; cases e
    · rw [drp_out hb] at e
      exact (hok b o e).stay (fun _ _ _ r => r) (fun c r => by rw [drp_out (held.out r own_ne)]; exact r) (fun c xs r => by rw [drp_out (held.out r tup_ne)]; exact r)
end
/-! ### data without the cells -/
section
variable {K : PySem.W.Frag} {F : Hp} {A : List Addr}
theorem frz_ne {o : Obj} {u : HO} (h : ∀ x, u ≠ .own x) (o2 : Obj) : HO.frz o u ≠ CelO o2 := fun e => by
  cases e
  exact h 0 rfl
theorem dK_ne {kvs : List (Key × V)} (o : Obj) : HO.dK kvs ≠ CelO o := fun e => by cases e
mutual
theorem Da.drp (hA : Held A F) : ∀ {v : V} {d : D}, Da K F v d → Da K (G.drp A F) v d
  | _, _, .non => .non
  | _, _, .bl b => .bl b
  | _, _, .int i => .int i
  | _, _, .str x => .str x
  | _, _, .tup q r => .tup (by
      rcases q with (q | ⟨o, q⟩) | q
      · exact .inl (.inl (by rw [drp_out (hA.out q tup_ne)]; exact q))
      · exact .inl (.inr ⟨o, by rw [drp_out (hA.out q (frz_ne (fun x e => by cases e)))]; exact q⟩)
      · exact .inr q) (DaAll.drp hA r)
  | _, _, .lst q r => .lst (by rw [drp_out (hA.out q lst_ne)]; exact q) (DaAll.drp hA r)
  | _, _, .scr q => .scr (by
      rcases q with (q | ⟨o, q⟩) | q
      · exact .inl (.inl (by rw [drp_out (hA.out q lst_ne)]; exact q))
      · exact .inl (.inr ⟨o, by rw [drp_out (hA.out q (frz_ne (fun x e => by cases e)))]; exact q⟩)
      · exact .inr q)
  | _, _, .emp q => .emp (by rw [drp_out (hA.out q dK_ne)]; exact q)
  | _, _, .exc q r => .exc (by rw [drp_out (hA.out q ext_ne)]; exact q) r
  | _, _, .o q => .o (by rw [drp_out (hA.out q tbl_ne)]; exact q)
theorem DaAll.drp (hA : Held A F) : ∀ {vs : List V} {ds : List D}, DaAll K F vs ds → DaAll K (G.drp A F) vs ds
  | _, _, .nil => .nil
  | _, _, .cons a b => .cons (Da.drp hA a) (DaAll.drp hA b)
end
end
/-! ### the lambda's machine -/
/-- the addresses that the names of cl have -/
def adr (cl : List (Str × Addr)) : List Addr := cl.filterMap fun p => cl.lookup p.1
theorem mem_adr {cl : List (Str × Addr)} {a : Addr} : a ∈ adr cl ↔ ∃ y, cl.lookup y = some a := by
  unfold adr
  rw [List.mem_filterMap]
  constructor
  · rintro ⟨p, _, e⟩
    exact ⟨_, e⟩
  · rintro ⟨y, e⟩
    exact ⟨(y, a), PySem.mem_of_lookup e, e⟩
structure Cels (K : PySem.W.Frag) (F : Hp) (fr : List Str) (cl : List (Str × Addr)) (xs : List D) : Prop where
  all : ∀ y a, cl.lookup y = some a → ∃ o v, F a = some (CelO o) ∧ o.data = .cell v
  inj : ∀ x y c, cl.lookup x = some c → cl.lookup y = some c → x = y
  has : ∃ vs : List V, DaAll K F vs xs ∧ vs.length = fr.length ∧ ∀ (i : Nat) (y : Str) (v : V), fr[i]? = some y → vs[i]? = some v → ∃ a o u, cl.lookup y = some a ∧ F a = some (CelO o) ∧ o.data = .cell (some u) ∧ RelV v u
theorem Cels.mono {K : PySem.W.Frag} {F F' : Hp} {fr : List Str} {cl : List (Str × Addr)} {xs : List D} (h : Cels K F fr cl xs) (s : Same F F') : Cels K F' fr cl xs := by
  obtain ⟨h1, h2, vs, h3, h4, h5⟩ := h
  refine ⟨fun y a e => ?_, h2, vs, h3.mono s, h4, fun i y v e1 e2 => ?_⟩
  · obtain ⟨o, v, e, d⟩ := h1 y a e
    exact ⟨o, v, s _ _ e, d⟩
  · obtain ⟨a, o, u, q1, q2, q3, q4⟩ := h5 i y v e1 e2
    exact ⟨a, o, u, q1, s _ _ q2, q3, q4⟩
theorem Cels.held {K : PySem.W.Frag} {F : Hp} {fr : List Str} {cl : List (Str × Addr)} {xs : List D} (h : Cels K F fr cl xs) : Held (adr cl) F := fun a ha => by
  obtain ⟨y, e⟩ := mem_adr.mp ha
  obtain ⟨o, v, q, _⟩ := h.all y a e
  exact ⟨o, q⟩
abbrev ML (L : LamP) : MI where
  T := List D
  ok := fun K F H ms xs => noMark F ∧ ∃ f c cl, ms = [f] ∧ H f = some (LamO L cl f c) ∧ F c = some (CodeO c L.qual) ∧ Cels K F L.fr cl xs
  mono := fun {K F F' H H' ms t} hF ht hm h => by
    obtain ⟨n, f, c, cl, rfl, h1, h2, h3⟩ := h
    exact ⟨fun a ps e => n a ps (ht a ps e).1, f, c, cl, rfl, (hm f (by simp)).trans h1, hF _ _ h2, h3.mono hF⟩
abbrev MU : MI where
  T := Unit
  ok := fun _ F _ ms _ => noMark F ∧ ms = []
  mono := fun {K F F' H H' ms t} hF ht hm h => ⟨fun a ps e => h.1 a ps (ht a ps e).1, h.2⟩
def nf (L : LamP) (cl : List (Str × Addr)) (c : Addr) : NF := ⟨"<lambda>", L.qual, L.params, [], L.scope, cl, c⟩
/-! ### the lambda's run -/
section
variable {P : Program} {w : World} {K : PySem.W.Frag} {mg : Str → Option Value} {base : Heap} {L : LamP} {N ps : List Str} {k : Nat} {B : Around} {outer : List Env} {s : Shared} {H : Hp} {us : List Value} {vs : List V} {ws : List (Option V)} {Q : VK} {f c : Addr} {cl : List (Str × Addr)}
def LamBind (L : LamP) (ps : List Str) : Prop := ∀ (cl : List (Str × Addr)) (pm cv ctv : Value) (us : List Value), us.length = ps.length → bindArgs (PySem.W.kla_fn "<lambda>" L.qual L.params L.body L.scope cl pm cv ctv) ⟨us, []⟩ = pure (ps.zip us)
theorem lam_run (S : NScope N ps L.fr L.scope) (hb : LamBind L ps) (hr : Room (k + 1) B) (e0 : Env0 P w K mg base B outer s H) (hf : ∃ pm ctv : Value, s.heap.get? f = some (PySem.W.kla_obj "<lambda>" L.qual L.params L.body L.scope cl pm c ctv)) (hc : H c = some (CodeO c L.qual)) (C : CellsAt cl L.fr ws s.heap H)
    (r : Vals vs us) (hl : vs.length = ps.length) (hbody : Room k (B.deeper (envF (nf L cl c) f s.heap.objs.size)) → ∃ t, PE (ncx (L2.CX P w) P w K mg base N (nf L cl c) f B outer s H (fun _ _ _ => False)) L.body t ∧ t (startF N vs ws) H Q) :
    codeAny (model P w) B (.call (.ref f) ⟨us, []⟩) (CR (L2.CX P w) outer P w H s Q fun _ _ _ => False) s := by
  obtain ⟨pm, ctv, ho⟩ := hf
  have nl : s.heap.NoLimit := e0.mod.nolimit.keeps fun b o e => (e0.bs b o e).1
  apply PySem.W.kla_callFunE hr.depth ho rfl S.co S.gen rfl (codeO_at e0.hok hc)
  rw [hb cl pm (.ref c) ctv us (r.length.symm.trans hl)]
  apply wpAny_pure
  refine wpAny_newFunctionEnv S.nocell (fun y hy => S.par y.1 (List.of_mem_zip hy).1) (fun h1 hns hsb => And.intro (nl.fresh _ hsb) ?_) S.kind
  show codeAny _ _ (.expr L.body (envF (nf L cl c) f s.heap.objs.size)) _ _
  have kp : ∀ b o, s.heap.get? b = some o → h1.get? b = some o := fun b o e => hsb.extBut b o (Nat.ne_of_lt (Heap.lt_size e)) (Heap.get?_push_of_some _ e)
  obtain ⟨t, pt, ht⟩ := hbody (hr.deeper _)
  have J : Inv (ncx (L2.CX P w) P w K mg base N (nf L cl c) f B outer s H (fun _ _ _ => False)) [] (startF N vs ws) H { s with heap := h1, toks := s.toks + (ps.zip us).length } := inv_startN (F := nf L cl c) S hr.hd e0 hl r C hns kp
  apply PySem.W.kla_codeExpr
  refine wpAny_mono (pt.run [] _ (startF N vs ws) H Q J ht) ?_ (fun e s' hs => hs)
  intro u s' hs
  obtain ⟨v, H1, J1, rv, q⟩ := hs
  exact ⟨v, H1, J1.os, J1.bare, J1.base, J1.hok, rv, q⟩
end
end G
/-! The rule of a def called with a lambda, and of the lambda called by that def. -/
namespace G
open PySem L2 PySem.Spec PyProof.Rows LamX NdefX
/-- how the tracked heap lies behind the lambda's making -/
def MadeH (P : Addr) (q : Str) (pos : Pos) (ps : Array Value) (H : Hp) (c : Addr) (H1 : Hp) : Prop :=
  (H1 = H ∧ codeAmong pos ps.toList = some (.ref c)) ∨ (H c = none ∧ H1 = upd (upd H P (.tbl (ps ++ #[rawInt pos.line, rawInt pos.col, .ref c]))) c (CodeO c q))
section
variable {X : Cx} {pins : List (Addr × Obj)} {σ : L2.St} {H : Hp} {s : Shared}
theorem inv_lam {params : Arguments} {body : Expr} {scope : Scope} {q : Str} {cl : List (Str × Addr)} {pm : Value} {c : Addr} {ctv : Value} {L : LamP} {t' : Nat} (I : Inv X pins σ H s) (hL : L.qual = q ∧ L.params = params ∧ L.body = body ∧ L.scope = scope) :
    Inv X pins σ (upd H s.heap.objs.size (LamO L cl s.heap.objs.size c)) { s with heap := s.heap.push (PySem.W.kla_obj "<lambda>" q params body scope cl pm c ctv), toks := t' } := by
  obtain ⟨rfl, rfl, rfl, rfl⟩ := hL
  have e : (s.heap.push (PySem.W.kla_obj "<lambda>" L.qual L.params L.body L.scope cl pm c ctv)).get? s.heap.objs.size = some (PySem.W.kla_obj "<lambda>" L.qual L.params L.body L.scope cl pm c ctv) := Heap.get?_push_size _ rfl
  refine I.laid (fun b u q => Heap.get?_push_of_some _ q) (Nat.le_refl _) ⟨⟨pm, ctv, e⟩, ⟨_, e⟩, fun h1 h2 ⟨p, t, z⟩ st => ⟨p, t, st _ z⟩⟩
theorem lam_born {P k : Addr} {pos : Pos} {ps : Array Value} {L : LamP} {E Q : Value → Shared → Prop} (I : Inv X pins σ H s) (tb : TabB X.base X.mg k P) (hk : X.env.code = .ref k) (hd : defaultsOf L.params X.env = ([], [])) (hq : X.env.qual ++ "<lambda>" = L.qual)
    (hf : ∀ y ∈ L.scope.names, y.2 = .free → ∃ c, X.env.cells.lookup y.1 = some c) (hP : H P = some (.tbl ps)) (ht : TriplesOk ps.toList) (hc : ∀ (pos : Pos) (cv : Value), codeAmong pos ps.toList = some cv → ∃ c, cv = .ref c ∧ H c = some (CodeO c L.qual))
    (go : ∀ (f c : Addr) (H1 : Hp) (s1 : Shared), MadeH P L.qual pos ps H c H1 → H1 f = none → H1 c = some (CodeO c L.qual) → Inv X pins σ (upd H1 f (LamO L (cloFrom X.env.cells L.scope.names []) f c)) s1 → (∃ pm ctv : Value, s1.heap.get? f = some (PySem.W.kla_obj "<lambda>" L.qual L.params L.body L.scope (cloFrom X.env.cells L.scope.names []) pm c ctv)) → Q (.ref f) s1) :
    wpAny (model X.prog X.w) X.A (eval (.Lambda L.params L.body L.scope pos) X.env) Q E s := by
  have bP : s.heap.BuiltinsAt X.mg P := tb.bm.keeps I.bk
  have sP : s.heap.get? P = some { cls := .none, data := .fields ps } := I.hok P _ hP
  apply PySem.W.kla_eval hd
  rw [hq]
  cases hm : codeAmong pos ps.toList with
  | some cv =>
    obtain ⟨c, rfl, hco⟩ := hc pos cv hm
    apply PySem.W.kla_makeFunctionHit (closure_ok hf) I.ok.glob (I.mod.glob.keeps I.bk) hk (tb.code.keeps I.bk) sP ht hm bP
    intro ctv h' tk kp hsz
    have I1 : Inv X pins σ H { s with heap := h', toks := tk } := I.kept kp
    exact go _ c H _ (.inl ⟨rfl, hm⟩) (I1.hok.fresh (Nat.le_refl _)) hco (inv_lam (L := L) I1 ⟨rfl, rfl, rfl, rfl⟩) ⟨_, _, Heap.get?_push_size _ rfl⟩
  | none =>
    apply PySem.W.kla_makeFunction (closure_ok hf) I.ok.glob (I.mod.glob.keeps I.bk) hk (tb.code.keeps I.bk) sP ht hm tb.gP bP
    intro c ctv h' tk hx hge hlt hrec htb
    obtain ⟨d, oc, vs, tq, e1, e2, e3, e4⟩ := hrec
    cases e1
    have I1 := inv_table (t' := tk) I hP (fun b o nb e => hx b o nb e) htb hge ⟨oc, vs, tq, e2, e3, e4⟩
    exact go _ c _ _ (.inr ⟨I.hok.fresh hge, rfl⟩) (I1.hok.fresh (Nat.le_refl _)) upd_same (inv_lam (L := L) I1 ⟨rfl, rfl, rfl, rfl⟩) ⟨_, _, Heap.get?_push_size _ rfl⟩
/-- cells of the running def: not of the base, no frame -/
theorem inv_apart (I : Inv X pins σ H s) (hfn : ∀ y, X.fn y = true) {y : Str} {c : Addr} (e : X.env.cells.lookup y = some c) : X.base.get? c = none ∧ c ∉ frs X.stack := by
  have hge := I.ok.cab y c (hfn y) e
  constructor
  · cases q : X.base.get? c with
    | none => rfl
    | some o => exact absurd (Nat.lt_of_lt_of_le (Heap.lt_size q) (Nat.le_trans I.ok.bsz hge)) (Nat.lt_irrefl _)
  · intro z
    rcases List.mem_cons.mp (I.stkSub c z) with rfl | z
    · obtain ⟨v, o, ho, hd⟩ := I.cell y _ e
      obtain ⟨m, ⟨o2, es, ep, ho2, hd2, _⟩, _⟩ := I.loc
      rw [ho] at ho2
      cases ho2
      rw [hd] at hd2
      cases hd2
    · obtain ⟨_, o, ho, _⟩ := I.ok.funs.mem z
      exact absurd (Nat.lt_of_lt_of_le (Heap.lt_size ho) hge) (Nat.lt_irrefl _)
end
/-- what the captured names' cells hold, told to the object -/
structure CelR (σ : L2.St) (js : List Nat) (fr : List Str) (cl : List (Str × Addr)) (obj : Addr → Obj) : Prop where
  all : ∀ y a, cl.lookup y = some a → ∃ v, (obj a).data = .cell v
  inj : ∀ x y c, cl.lookup x = some c → cl.lookup y = some c → x = y
  has : ∀ (i : Nat) (y : Str) (v : V), fr[i]? = some y → (js.map (slotAt σ))[i]? = some (some v) → ∃ a u, cl.lookup y = some a ∧ RelV v u ∧ (obj a).data = .cell (some u)
def tLamC (P : Addr) (L : LamP) (js : List Nat) (pos : Pos) (sp : Sp) (te : TE) : TE := fun σ H Q => te σ H fun v H1 => ∃ ps : Array Value, H1 P = some (.tbl ps) ∧ TriplesOk ps.toList ∧ (∀ (pos : Pos) (cv : Value), codeAmong pos ps.toList = some cv → ∃ c, cv = .ref c ∧ H1 c = some (CodeO c L.qual)) ∧
  ∀ (f c : Addr) (cl : List (Str × Addr)) (obj : Addr → Obj) (H2 : Hp), MadeH P L.qual pos ps H1 c H2 → H2 f = none → H2 c = some (CodeO c L.qual) → (∀ a ∈ adr cl, upd H2 f (LamO L cl f c) a = none) → CelR σ js L.fr cl obj →
    sp [v, .ref f] (trc (adr cl) obj (upd H2 f (LamO L cl f c))) (fun v' H3 => (∀ a ∈ adr cl, H3 a = some (CelO (obj a))) ∧ Q v' (drp (adr cl) H3)) fun _ _ _ => False
section
variable {X : Cx}
theorem pe_lamC {P k g : Addr} {L : LamP} {js : List Nat} {x : Str} {n : Nat} {fd : FuncData} {ps : List Str} {sp : Sp} {e : Expr} {te : TE} {p lpos pos : Pos} (hg : Gl X x) (hm : X.mg x = some (.ref g)) (hk : PySem.W.keepIn X.K (.ref g) = true)
    (F : FnG X.prog X.w X.K X.mg X.base (L2.CX X.prog X.w) n g fd ps sp) (hr : Room n X.A) (hgu : X.A.guards = some []) (hb : Binds X.K fd ps []) (he : PE X e te) (tb : TabB X.base X.mg k P) (hcode : X.env.code = .ref k) (hq : X.env.qual ++ "<lambda>" = L.qual) (hd : defaultsOf L.params X.env = ([], []))
    (hf : ∀ y ∈ L.scope.names, y.2 = .free → X.env.scope.names.lookup y.1 = some .cell ∨ X.env.scope.names.lookup y.1 = some .free) (hfr : ∀ y ∈ L.fr, (y, NameKind.free) ∈ L.scope.names) (hjs : js.map (fun j => X.N[j]?) = L.fr.map some) (hfn : ∀ y, X.fn y = true)
    (hdb : (x == ("__debug__" : Str)) = false) (hs : starEach [e, .Lambda L.params L.body L.scope lpos] X.env = (false, eval e X.env) :: starEach [.Lambda L.params L.body L.scope lpos] X.env) (hs1 : starEach [.Lambda L.params L.body L.scope lpos] X.env = (false, eval (.Lambda L.params L.body L.scope lpos) X.env) :: starEach [] X.env)
    (hpl : (backTo pos (starEach [.Lambda L.params L.body L.scope lpos] X.env)).any (·.1) = false) :
    PE X (.Call (.Name x p) [e, .Lambda L.params L.body L.scope lpos] [] pos) (tLamC P L js lpos sp te) := by
  constructor
  intro pins s σ H Q I h
  apply wpAny_Call_Name_kw
  apply ld_glob I hg hm _ hdb
  refine PySem.W.callWith_K (h₀ := X.base) I.ok.mod.kin hk ?_ hs hpl
  rw [hs, hs1]
  show wpAny _ _ (spliced ((false, eval e X.env) :: (false, eval (.Lambda L.params L.body L.scope lpos) X.env) :: backTo pos (starEach [] X.env))) _ _ s
  apply Calls.spliced_cons
  apply thn (he.run pins s σ H _ I h)
  rintro u s1 ⟨v, H1, I1, rv, tab, hP, ht, hc, h1⟩
  apply Calls.spliced_cons
  have hfc : ∀ y ∈ L.scope.names, y.2 = .free → ∃ c, X.env.cells.lookup y.1 = some c := fun y hy q => (hf y hy q).elim (fun z => I.ok.has _ (.inl z)) fun z => I.ok.has _ (.inr z)
  apply lam_born I1 tb hcode hd hq hfc hP ht hc
  intro f c H2 s2 mh f2 c2 I2 ho
  have cp : Caps X (cloFrom X.env.cells L.scope.names []) L.fr js := Caps.made I2.ok hf hfr hjs
  have C := cells_of I2 cp
  generalize cloFrom X.env.cells L.scope.names [] = cl at cp C I2 ho
  let obj : Addr → Obj := fun a => (s2.heap.get? a).getD default
  have ob : ∀ {a : Addr} {o : Obj}, s2.heap.get? a = some o → obj a = o := fun {a o} q => by
    show (s2.heap.get? a).getD default = o
    rw [q]
    rfl
  have Aall : ∀ a ∈ adr cl, upd H2 f (LamO L cl f c) a = none ∧ s2.heap.get? a = some (obj a) ∧ X.base.get? a = none ∧ a ∉ frs X.stack := fun a ha => by
    obtain ⟨y, e1⟩ := mem_adr.mp ha
    obtain ⟨n1, v1, o1, q1, q2⟩ := C.all y a e1
    obtain ⟨b1, b2⟩ := inv_apart I2 hfn (cp.sub y a e1)
    exact ⟨n1, by rw [ob q1]; exact q1, b1, b2⟩
  have CR : CelR σ js L.fr cl obj := ⟨fun y a e1 => by
      obtain ⟨n1, v1, o1, q1, q2⟩ := C.all y a e1
      exact ⟨v1, by rw [ob q1]; exact q2⟩, C.inj, fun i y w e1 e2 => by
      obtain ⟨a, e3, e4⟩ := C.has i y e1
      obtain ⟨w2, r2, o2, q1, q2⟩ := e4 w e2
      exact ⟨a, w2, e3, r2, by rw [ob q1]; exact q2⟩⟩
  have h2 := h1 f c cl obj H2 mh f2 c2 (fun a ha => (Aall a ha).1) CR
  apply Calls.spliced_nil
  refine ⟨I2.kIn, ?_⟩
  apply wpAny_call
  have vals : Vals [v, V.ref f] [u, Value.ref f] := .cons rv (.cons rfl .nil)
  have ll : ([u, Value.ref f] : List Value).length = ps.length := vals.length.symm.trans (F.len _ _ _ _ h2)
  have run := F.run X.A X.stack s2 _ ⟨[u, .ref f], []⟩ ([u, .ref f] ++ []) [v, .ref f] _ _ hr hgu (env0_trc I2.env0 Aall) (hb s2 [u, .ref f] I2.kIn (by rw [List.append_nil]; exact ll)) (by rw [List.append_nil]; exact vals) h2
  apply codeAny_mono run
  intro r s' hq2
  match r, hq2 with
  | .error e, hq2 =>
    obtain ⟨_, _, _, _, _, _, _, _, _, _, _, _, z⟩ := hq2
    exact z.elim
  | .ok (.ret u), hq2 => exact I2.after (ce_unt Aall hq2)
  | .ok .next, hq2 => exact hq2.elim
  | .ok .brk, hq2 => exact hq2.elim
  | .ok .cont, hq2 => exact hq2.elim
end
end G
/-! The mirrors of a def called with a lambda, and of the lambda called by that def. -/
namespace G
open PySem L2 PySem.Spec PyProof.Rows LamX NdefX
/-! ### lists in slots frozen, captured names read -/
def frz1 {T : Type} (z : Z T) (j : Nat) : Z T := match z.rho[j]? with
  | some (some (.l xs)) => { z with rho := z.rho.set j (some (.d (.lst xs))) }
  | _ => z
def frzs {T : Type} : List Nat → Z T → Z T
  | [], z => z
  | j :: r, z => frzs r (frz1 z j)
def caps {T : Type} (z : Z T) : List Nat → Option (List D)
  | [] => some []
  | j :: r => match z.rho[j]? with
    | some (some (.d d)) => (caps z r).bind fun xs => some (d :: xs)
    | _ => none
section
variable {M : MI} {G : Gx} {σ : L2.St} {H F : Hp} {z : Z M.T}
theorem frz1_ok (ok : Ok M G σ H F z) (j : Nat) : ∃ F', Same F F' ∧ Ok M G σ H F' (frz1 z j) := by
  unfold frz1
  split
  · rename_i xs e
    obtain ⟨v, ev, _⟩ := ok.slot j _ e
    obtain ⟨F', s, ok', _⟩ := ok.frzSlot e ev
    exact ⟨F', s, ok'⟩
  · exact ⟨F, Same.refl F, ok⟩
theorem frzs_ok : ∀ (js : List Nat) {F : Hp} {z : Z M.T}, Ok M G σ H F z → ∃ F', Same F F' ∧ Ok M G σ H F' (frzs js z)
  | [], F, z, ok => ⟨F, Same.refl F, ok⟩
  | j :: r, F, z, ok => by
    obtain ⟨F1, s1, ok1⟩ := frz1_ok ok j
    obtain ⟨F2, s2, ok2⟩ := frzs_ok r ok1
    exact ⟨F2, s1.trans s2, ok2⟩
theorem caps_ok (ok : Ok M G σ H F z) : ∀ {js : List Nat} {xs : List D}, caps z js = some xs → ∃ vs : List V, js.map (slotAt σ) = vs.map some ∧ DaAll G.K F vs xs
  | [], xs, e => by cases e; exact ⟨[], rfl, .nil⟩
  | j :: r, xs, e => by
    unfold caps at e
    split at e
    · rename_i d ed
      cases er : caps z r with
      | none => rw [er] at e; cases e
      | some ys =>
        rw [er] at e
        cases e
        obtain ⟨vs, h1, h2⟩ := caps_ok ok er
        obtain ⟨v, hv, hd⟩ := ok.slot j _ ed
        exact ⟨v :: vs, by rw [List.map_cons, List.map_cons, h1, slotAt_of hv], .cons hd h2⟩
    · cases e
end
/-! ### the table written -/
section
variable {G : Gx} {σ : L2.St} {H F : Hp} {P : Addr} {q : Str} {z : Z (MT [(P, q)]).T}
theorem Ok.tabW (ok : Ok (MT [(P, q)]) G σ H F z) {ps : Array Value} (hn : TriplesOk ps.toList) (hc : ∀ (pos : Pos) (cv : Value), codeAmong pos ps.toList = some cv → ∃ c, cv = .ref c ∧ F c = some (CodeO c q)) : Ok (MT [(P, q)]) G σ (upd H P (.tbl ps)) F z := by
  obtain ⟨nm, tb, m, lf, cc, ems, hne, e1, e2, e3, e4⟩ := ok.mach
  have hPm : P ∈ G.ms := by rw [ems]; simp
  obtain ⟨ps0, hP0, _⟩ := tb (P, q) (by simp)
  have hP0' : H P = some (.tbl ps0) := hP0
  have hF := ok.msF P hPm
  refine ⟨same_updR ok.sub hF, ok.len, fun i s e => ?_, ok.dist, ⟨nm, fun p hp => ?_, m, lf, cc, ems, hne, ?_, ?_, e3, e4⟩, ok.msF, ok.msP, fun a ha => ?_, fun b o e => ?_, fun a ps' e => (nm (by simp) a ps' e).elim⟩
  · obtain ⟨v, h1, h2⟩ := ok.slot i s e
    refine ⟨v, h1, ?_⟩
    cases s with
    | d x => exact h2
    | l xs =>
      obtain ⟨a, vs, rfl, q1, q2, q3, q4, q5⟩ := h2
      exact ⟨a, vs, rfl, (upd_ne (fun y => q5 (by rw [y]; exact hPm))).trans q1, q2, q3, q4, q5⟩
    | v _ => exact h2
    | m j => exact h2
  · have ep : p = (P, q) := by simpa using hp
    subst ep
    exact ⟨ps, upd_same, hn, hc⟩
  · rw [upd_ne (fun y => by rw [y, hP0'] at e1; cases e1)]; exact e1
  · rw [upd_ne (fun y => by rw [y, hP0'] at e2; cases e2)]; exact e2
  · by_cases h : a = P
    · rw [h, upd_same]; intro y; cases y
    · rw [upd_ne h]; exact ok.msH a ha
  · obtain ⟨h1, h2⟩ := ok.fr b o e
    refine ⟨?_, h2⟩
    rw [upd_ne (fun y => by rw [y, ok.msP P hPm] at e; cases e)]
    exact h1
theorem codeO_nt {c : Addr} {q : Str} : ∀ ps, CodeO c q ≠ .tbl ps := codeO_ne
theorem Ok.made (ok : Ok (MT [(P, q)]) G σ H F z) {pos : Pos} {ps : Array Value} {c : Addr} {H1 : Hp} (hP : H P = some (.tbl ps)) (m : MadeH P q pos ps H c H1) : ∃ F', Same F F' ∧ Ok (MT [(P, q)]) G σ H1 F' z ∧ F' c = some (CodeO c q) := by
  obtain ⟨nm, tb, mm, lf, cc, ems, _⟩ := ok.mach
  have hPm : P ∈ G.ms := by rw [ems]; simp
  obtain ⟨ps0, hP0, ht, hc⟩ := tb (P, q) (by simp)
  have hP0' : H P = some (.tbl ps0) := hP0
  rw [hP] at hP0'
  cases hP0'
  rcases m with ⟨rfl, e⟩ | ⟨hn, rfl⟩
  · obtain ⟨c', e1, e2⟩ := hc pos _ e
    cases e1
    exact ⟨F, Same.refl F, ok, e2⟩
  · have ok1 := ok.newF hn (CodeO c q) codeO_nt
    have s1 : Same F (upd F c (CodeO c q)) := same_upd (ok.freshF hn)
    have nPc : P ≠ c := ne_of_none hP hn
    have ok2 := ok1.tabW (ps := ps ++ #[rawInt pos.line, rawInt pos.col, .ref c]) (by rw [Array.toList_append]; exact TriplesOk_snoc _ _ _ _ ht) (fun p' cv e => by
      rw [Array.toList_append] at e
      rcases among_app _ ht e with y | y
      · obtain ⟨c', e1, e2⟩ := hc p' cv y
        exact ⟨c', e1, s1 _ _ e2⟩
      · exact ⟨c, y, upd_same⟩)
    have e : upd (upd H c (CodeO c q)) P (.tbl (ps ++ #[rawInt pos.line, rawInt pos.col, .ref c])) = upd (upd H P (.tbl (ps ++ #[rawInt pos.line, rawInt pos.col, .ref c]))) c (CodeO c q) := by
      funext b
      by_cases h1 : b = P
      · rw [h1, upd_same, upd_ne nPc, upd_same]
      · by_cases h2 : b = c
        · rw [h2, upd_same, upd_ne nPc.symm, upd_same]
        · rw [upd_ne h1, upd_ne h2, upd_ne h2, upd_ne h1]
    rw [e] at ok2
    exact ⟨_, s1, ok2, upd_same⟩
end
/-! ### f(e, lambda ..) -/
def eLamC {T : Type} {M : MI} (js : List Nat) (cX : List S → T → Rs S T) (ini : List D → T) (f : Sm M S) : Sm M S := fun z => (f z).bind fun s z1 => match s with
  | .d x => (match caps (frzs js z1) js with
    | some xs => (match cX [.d x, .m 0] (ini xs) with
      | .ok (.d y) _ => .ok (.d y) (frzs js z1)
      | _ => .bad)
    | none => .bad)
  | _ => .bad
section
variable {K : PySem.W.Frag} {xr xr2 : Str → Option Value} {W : WX} {P : Addr} {L : LamP} {js : List Nat} {pos : Pos} {te : TE} {cX : List S → List D → Rs S (List D)}
theorem trc_same {A : List Addr} {obj : Addr → Obj} {F : Hp} (h : ∀ a ∈ A, F a = none) : Same F (trc A obj F) := fun b o e => by
  rw [trc_out (fun hb => by rw [h b hb] at e; cases e)]
  exact e
theorem cmp_lamC {f : Sm (MT [(P, L.qual)]) S} (hf : Cmp (MT [(P, L.qual)]) K xr W te RelE f) (hjl : js.length = L.fr.length) :
    Cmp (MT [(P, L.qual)]) K xr W (tLamC P L js pos (spM (ML L) K xr2 2 cX) te) RelE (eLamC js cX id f) := by
  intro G σ H F z Q hK hx ok h
  refine hf G σ H F z _ hK hx ok (hit_bind h fun s z1 v H1 F1 _ sm ok1 ev h1 => ?_)
  cases s with
  | l _ => exact h1.elim
  | v _ => exact h1.elim
  | m _ => exact h1.elim
  | d x =>
    obtain ⟨F2, s2, ok2⟩ := frzs_ok js ok1
    have ev2 : Da G.K F2 v x := Da.mono s2 ev
    replace h1 := HitG.mono h1 s2
    simp only at h1
    generalize frzs js z1 = z2 at h1 ok2
    cases ec : caps z2 js with
    | none => simp only [ec] at h1; exact h1.elim
    | some xs =>
      simp only [ec, id] at h1
      have mach2 := ok2.mach
      obtain ⟨nm, tb, m, lf, cc, ems, hne, w1, w2, w3, w4⟩ := mach2
      obtain ⟨ps, hP, ht, hc⟩ := tb (P, L.qual) (by simp)
      have hP' : H1 P = some (.tbl ps) := hP
      refine ⟨ps, hP', ht, fun pos cv e => ?_, fun f c cl obj H2 mh f2 c2 Ad CR => ?_⟩
      · obtain ⟨c, e1, e2⟩ := hc pos cv e
        exact ⟨c, e1, ok2.sub _ _ e2 codeO_nt⟩
      · obtain ⟨F3, s3, okm, hcF⟩ := ok2.made hP' mh
        have ok3 := okm.new f2 (LamO L cl f c)
        have nm3 : noMark F3 := okm.mach.1 (by simp)
        have fF : F3 f = none := okm.freshF f2
        generalize hH3 : upd H2 f (LamO L cl f c) = H3 at ok3 Ad
        have H3f : H3 f = some (LamO L cl f c) := by rw [← hH3]; exact upd_same
        have H3c : H3 c = some (CodeO c L.qual) := ok3.sub _ _ hcF codeO_nt
        have outA : ∀ b o, H3 b = some o → b ∉ adr cl := fun b o e hb => by rw [Ad b hb] at e; cases e
        have FA : ∀ a ∈ adr cl, F3 a = none := fun a ha => ok3.freshF (Ad a ha)
        have sT := trc_same (obj := obj) FA
        obtain ⟨vs, ev3, dv3⟩ := caps_ok ok2 ec
        have ll : vs.length = L.fr.length := by
          have := congrArg List.length ev3
          rw [List.length_map, List.length_map] at this
          omega
        subst hK
        refine ⟨rfl, [f], trc (adr cl) obj F3, [.d x, .m 0], xs, fun b o e n => ?_, ⟨fun a ps' e => ?_, f, c, cl, rfl, ?_, ?_, ⟨fun y a e => ?_, CR.inj, vs, (dv3.mono s3).mono sT, ll, fun i y w e1 e2 => ?_⟩⟩, fun a ha => ?_, fun a ps' e => ?_, .cons ((ev2.mono s3).mono sT) (.cons ⟨f, rfl, rfl⟩ .nil), ?_⟩
        · by_cases hb : b ∈ adr cl
          · rw [trc_in hb] at e ⊢; exact e
          · rw [trc_out hb] at e ⊢; exact ok3.sub b o e n
        · by_cases hb : a ∈ adr cl
          · rw [trc_in hb] at e; cases e
          · rw [trc_out hb] at e; exact nm3 a ps' e
        · rw [trc_out (outA f _ H3f)]; exact H3f
        · rw [trc_out (outA c _ H3c)]; exact hcF
        · obtain ⟨w, hw⟩ := CR.all y a e
          exact ⟨obj a, w, trc_in (mem_adr.mpr ⟨y, e⟩), hw⟩
        · obtain ⟨a, u, q1, q2, q3⟩ := CR.has i y w e1 (by rw [ev3, List.getElem?_map, e2]; rfl)
          exact ⟨a, obj a, u, q1, trc_in (mem_adr.mpr ⟨y, q1⟩), q3, q2⟩
        · have ea : a = f := by simpa using ha
          subst ea
          exact ⟨by rw [trc_out (outA a _ H3f)]; exact fF, by rw [trc_out (outA a _ H3f), H3f]; intro y; cases y⟩
        · exfalso
          by_cases hb : a ∈ adr cl
          · rw [trc_in hb] at e; cases e
          · rw [trc_out hb] at e; exact nm3 a ps' e
        · cases eX : cX [.d x, .m 0] xs with
          | bad => simp only [eX] at h1; exact h1.elim
          | ex _ _ => simp only [eX] at h1; exact h1.elim
          | ok s' t' =>
            cases s' with
            | l _ => simp only [eX] at h1; exact h1.elim
            | v _ => simp only [eX] at h1; exact h1.elim
            | m _ => simp only [eX] at h1; exact h1.elim
            | d y =>
              simp only [eX] at h1
              intro v' H' F' sF r rv
              have FA' : ∀ a ∈ adr cl, F' a = some (CelO (obj a)) := fun a ha => sF _ _ (trc_in ha)
              have hel : Held (adr cl) F' := fun a ha => ⟨_, FA' a ha⟩
              refine ⟨fun a ha => r.sub _ _ (FA' a ha) (fun ps e => by cases e), ?_⟩
              have nmF' : noMark F' := r.mach.1
              have outF : ∀ b o, F3 b = some o → b ∉ adr cl := fun b o e hb => by rw [FA b hb] at e; cases e
              have sD : Same F3 (drp (adr cl) F') := fun b o e => by
                have nb := outF b o e
                rw [drp_out nb]
                exact sF _ _ (by rw [trc_out nb]; exact e)
              have kp : ∀ b o, H3 b = some o → b ≠ f → drp (adr cl) H' b = some o ∧ drp (adr cl) F' b = F3 b := fun b o e n => by
                have nb := outA b o e
                obtain ⟨q1, q2⟩ := r.fr b o (by rw [trc_out nb]; exact e) (by simpa using n) (fun ps' e2 => by rw [trc_out nb] at e2; exact nm3 b ps' e2)
                rw [drp_out nb, drp_out nb]
                exact ⟨q1, q2.trans (trc_out nb)⟩
              have nf : ∀ b o, H2 b = some o → b ≠ f := fun b o e y => by rw [y, f2] at e; cases e
              have okE : Ok (MT [(P, L.qual)]) G σ (drp (adr cl) H') (drp (adr cl) F') z2 := by
                refine ok3.step sD (fun a ps' e => ?_) (fun b o e n => ?_) (fun a ow => ?_) (fun a ha => ?_) (fun b o e => ?_)
                · exfalso
                  by_cases hb : a ∈ adr cl
                  · rw [drp_in hb] at e; cases e
                  · rw [drp_out hb] at e; exact nmF' a ps' e
                · by_cases hb : b ∈ adr cl
                  · rw [drp_in hb] at e; cases e
                  · rw [drp_out hb] at e ⊢; exact r.sub b o e n
                · obtain ⟨us, q1, q2, _⟩ := okm.ownH ow
                  have q3 : H3 a = some (.lst us) := by rw [← hH3, upd_ne (nf a _ q1)]; exact q1
                  obtain ⟨k1, k2⟩ := kp a _ q3 (nf a _ q1)
                  exact ⟨k1.trans q3.symm, k2.trans q2⟩
                · obtain ⟨o, q1⟩ := Option.ne_none_iff_exists'.mp (okm.msH a ha)
                  have q3 : H3 a = some o := by rw [← hH3, upd_ne (nf a _ q1)]; exact q1
                  obtain ⟨k1, k2⟩ := kp a _ q3 (nf a _ q1)
                  exact ⟨k1.trans q3.symm, k2.trans (okm.msF a ha)⟩
                · obtain ⟨q1, q2⟩ := okm.fr b o e
                  have q3 : H3 b = some o := by rw [← hH3, upd_ne (nf b _ q1)]; exact q1
                  obtain ⟨k1, k2⟩ := kp b _ q3 (nf b _ q1)
                  exact ⟨k1, k2.trans q2⟩
              exact h1 v' _ _ (s3.trans sD) okE (Da.drp hel rv)
end
section
variable {ι : Type} {Pr : Program} {w : World} {K : PySem.W.Frag} {mg : Str → Option Value} {base : Heap} {N : List Str} {W : WX} {n : Nat} {X : ι → Cx} {xr xr2 : Str → Option Value} {P k : Addr} {L : LamP} {js : List Nat} {cX : List S → List D → Rs S (List D)}
theorem de_lamC {x : Str} {ps : List Str} {e : Expr} {f : Sm (MT [(P, L.qual)]) S} {pp lpos pos : Pos} (p : Pc Pr w K mg base N W n X) (h : FnAt (ML L) Pr w K mg base xr2 n x ps [] cX) (hps : ps.length = 2) (he : DE (MT [(P, L.qual)]) xr K X W e f) (tb : TabB base mg k P) (hcode : ∀ j, (X j).env.code = .ref k)
    (hq : ∀ j, (X j).env.qual ++ "<lambda>" = L.qual) (hd : ∀ j, defaultsOf L.params (X j).env = ([], [])) (hf : ∀ j, ∀ y ∈ L.scope.names, y.2 = .free → (X j).env.scope.names.lookup y.1 = some .cell ∨ (X j).env.scope.names.lookup y.1 = some .free) (hfr : ∀ y ∈ L.fr, (y, NameKind.free) ∈ L.scope.names)
    (hjs : js.map (fun j => N[j]?) = L.fr.map some) (hfn : ∀ j y, (X j).fn y = true) (hg : ∀ j, Gl (X j) x := by intro _; rfl) (hdb : (x == ("__debug__" : Str)) = false := by decide)
    (hs : ∀ j, starEach [e, .Lambda L.params L.body L.scope lpos] (X j).env = (false, eval e (X j).env) :: starEach [.Lambda L.params L.body L.scope lpos] (X j).env := by intro _; rfl)
    (hs1 : ∀ j, starEach [.Lambda L.params L.body L.scope lpos] (X j).env = (false, eval (.Lambda L.params L.body L.scope lpos) (X j).env) :: starEach [] (X j).env := by intro _; rfl)
    (hpl : ∀ j, (backTo pos (starEach [.Lambda L.params L.body L.scope lpos] (X j).env)).any (·.1) = false := by intro _; rfl) :
    DE (MT [(P, L.qual)]) xr K X W (.Call (.Name x pp) [e, .Lambda L.params L.body L.scope lpos] [] pos) (eLamC js cX id f) := by
  obtain ⟨g, fd, hF, hb, _, hk, hm⟩ := h
  obtain ⟨te, pe, ce⟩ := he
  have hjl : js.length = L.fr.length := by
    have := congrArg List.length hjs
    simpa using this
  rw [hps] at hF
  refine ⟨tLamC P L js lpos (spM (ML L) K xr2 2 cX) te, fun j => ?_, cmp_lamC ce hjl⟩
  exact pe_lamC (hg j) (by rw [p.g j]; exact hm) (by rw [p.k j]; exact hk) (by rw [p.pr j, p.pw j, p.k j, p.g j, p.pb j]; exact hF) (p.room j) (p.gd j) (by rw [p.k j]; exact hb) (pe j) (by rw [p.pb j, p.g j]; exact tb) (hcode j) (hq j) (hd j) (hf j) hfr (by rw [p.n j]; exact hjs) (hfn j) hdb (hs j) (hs1 j) (hpl j)
end
end G
/-! The lambda called by the def that got it; the law's own walk with a table. -/
namespace G
open PySem L2 PySem.Spec PyProof.Rows LamX NdefX
/-- a run of the lambda: all that its context hangs on -/
structure LIx (k : Nat) (L : LamP) where
  f : Addr
  c : Addr
  cl : List (Str × Addr)
  B : Around
  outer : List Env
  s : Shared
  H : Hp
  hr : Room k (B.deeper (envF (nf L cl c) f s.heap.objs.size))
  hg : B.guards = some []
abbrev lcx (P : Program) (w : World) (K : PySem.W.Frag) (mg : Str → Option Value) (base : Heap) (N : List Str) {k : Nat} {L : LamP} (i : LIx k L) : Cx := ncx (L2.CX P w) P w K mg base N (nf L i.cl i.c) i.f i.B i.outer i.s i.H (fun _ _ _ => False)
/-- the place of a lambda's body: what the rules of expressions ask of it -/
structure PlX {ι : Type} (K : PySem.W.Frag) (X : ι → Cx) (N : List Str) (mg : Str → Option Value) : Prop extends Pl K X N mg
theorem pl_lam {P : Program} {w : World} {K : PySem.W.Frag} {mg : Str → Option Value} {base : Heap} {N : List Str} {n : Nat} {L : LamP} (nd : N.Nodup) : PlX K (fun i : LIx (n + 7) L => lcx P w K mg base N i) N mg :=
  ⟨⟨fun _ => rfl, fun _ => rfl, fun _ => rfl, nd, fun _ => rfl, fun i => by have := i.hr.un; show (i.B.deeper _).units + 300 < cLine; omega⟩⟩
def tLamV (L : LamP) (N : List Str) (i : Nat) (te tb : TE) : TE := fun σ H Q => ∃ f, σ[i]? = some (some (.ref f)) ∧ (∃ c cl, H f = some (LamO L cl f c)) ∧ te σ H fun v H1 => ∃ (c : Addr) (cl : List (Str × Addr)) (ws : List V), H1 f = some (LamO L cl f c) ∧ H1 c = some (CodeO c L.qual) ∧
  (∀ y a, cl.lookup y = some a → ∃ o v, H1 a = some (CelO o) ∧ o.data = .cell v) ∧ (∀ x y c, cl.lookup x = some c → cl.lookup y = some c → x = y) ∧ ws.length = L.fr.length ∧
  (∀ (i : Nat) (y : Str) (v : V), L.fr[i]? = some y → ws[i]? = some v → ∃ a o u, cl.lookup y = some a ∧ H1 a = some (CelO o) ∧ o.data = .cell (some u) ∧ RelV v u) ∧
  tb (startF N [v] (ws.map some)) (drp (adr cl) H1) fun v' H' => (∀ a ∈ adr cl, H' a = none) → Q v' (mrg (adr cl) H1 H')
section
variable {X : Cx}
theorem lamO_at {P : Program} {w : World} {H : Hp} {h : Heap} {L : LamP} {cl : List (Str × Addr)} {f c : Addr} (hok : HOk P w H h) (e : H f = some (LamO L cl f c)) : ∃ pm ctv : Value, h.get? f = some (PySem.W.kla_obj "<lambda>" L.qual L.params L.body L.scope cl pm c ctv) := (hok f _ e).1
theorem pe_lamV {L : LamP} {N ps : List Str} {k i : Nat} {y : Str} {e : Expr} {te tb : TE} {p pos : Pos} (S : NScope N ps L.fr L.scope) (hps : ps.length = 1) (hb : LamBind L ps) (hr : Room (k + 1) X.A) (hgu : X.A.guards = some []) (hN : X.N[i]? = some y) (hv : Vis X.env.scope y) (he : PE X e te)
    (hbody : ∀ j : LIx k L, PE (lcx X.prog X.w X.K X.mg X.base N j) L.body tb) (hd : (y == ("__debug__" : Str)) = false) (hcd : (y == ("__classdict__" : Str)) = false) (hs : starEach [e] X.env = (false, eval e X.env) :: starEach [] X.env) (hpl : (backTo pos (starEach [] X.env)).any (·.1) = false)
    (hx : ∀ σ, PassesAt (L2.CX X.prog X.w) X σ (fun _ _ _ => False)) : PE X (.Call (.Name y p) [e] [] pos) (tLamV L N i te tb) := by
  constructor
  intro pins s σ H Q I h
  obtain ⟨f, hσ, ⟨c0, cl0, h0⟩, h1⟩ := h
  apply wpAny_Call_Name_kw
  apply thn ((pe_var (pos := p) hN hv hd hcd).run pins s σ H (fun v H1 => v = .ref f ∧ H1 = H) I ⟨.ref f, hσ, rfl, rfl⟩)
  rintro u s1 ⟨v, H1, I1, r1, rfl, rfl⟩
  cases (show u = Value.ref f from r1)
  obtain ⟨pm0, ct0, o0⟩ := lamO_at I1.hok h0
  refine PySem.W.callWith_F (first := []) ⟨_, _, _, _, o0⟩ ?_ hs hpl
  rw [hs]
  show wpAny _ _ (spliced ((false, eval e X.env) :: backTo pos (starEach [] X.env))) _ _ s1
  apply Calls.spliced_cons
  apply thn (he.run pins s1 σ H1 _ I1 h1)
  rintro u s2 ⟨v, H2, I2, rv, c, cl, ws, e1, e2, e3, e4, e5, e6, e7⟩
  have o2 := lamO_at I2.hok e1
  have hel : Held (adr cl) H2 := fun a ha => by
    obtain ⟨y, q⟩ := mem_adr.mp ha
    obtain ⟨o, _, q2, _⟩ := e3 y a q
    exact ⟨o, q2⟩
  have nc : c ∉ adr cl := hel.out e2 ext_ne
  apply Calls.spliced_nil
  obtain ⟨pm2, ct2, o2'⟩ := id o2
  refine ⟨⟨_, _, _, _, o2'⟩, ?_⟩
  show wpAny _ _ (call (.ref f) [u]) _ _ _
  apply wpAny_call
  have cels : CellsAt cl L.fr (ws.map some) s2.heap (drp (adr cl) H2) := ⟨by rw [List.length_map]; exact e5, fun y a q => ⟨drp_in (mem_adr.mpr ⟨y, q⟩), by
      obtain ⟨o, v, q2, q3⟩ := e3 y a q
      exact ⟨v, o, hok_cel I2.hok q2, q3⟩⟩, e4, fun i y q => by
      have hi : i < ws.length := by rw [e5]; exact (List.getElem?_eq_some_iff.mp q).1
      obtain ⟨a, o, u2, q1, q2, q3, q4⟩ := e6 i y _ q (List.getElem?_eq_getElem hi)
      refine ⟨a, q1, fun v2 q5 => ?_⟩
      rw [List.getElem?_map, List.getElem?_eq_getElem hi] at q5
      cases q5
      exact ⟨u2, q4, o, hok_cel I2.hok q2, q3⟩⟩
  have run := lam_run (k := k) (Q := fun v' H' => (∀ a ∈ adr cl, H' a = none) → Q v' (mrg (adr cl) H2 H')) S hb hr (env0_drp I2.env0 hel) o2 (by rw [drp_out nc]; exact e2) cels (.cons rv .nil) (by rw [hps]; rfl) (fun hr2 => ⟨tb, hbody ⟨f, c, cl, X.A, X.stack, s2, drp (adr cl) H2, hr2, hgu⟩, e7⟩)
  apply codeAny_mono run
  intro r s' hq2
  match r, hq2 with
  | .error e, hq2 =>
    obtain ⟨_, _, _, _, _, _, _, _, _, _, _, _, z⟩ := hq2
    exact z.elim
  | .ok (.ret u), hq2 =>
    refine I2.after (ce_mrg I2.env0 hel ?_)
    obtain ⟨v', H', q1, q2, q3, q4, q5, q6⟩ := hq2
    exact ⟨v', H', q1, q2, q3, q4, q5, fun hn => q6 hn⟩
  | .ok .next, hq2 => exact hq2.elim
  | .ok .brk, hq2 => exact hq2.elim
  | .ok .cont, hq2 => exact hq2.elim
end
/-! ### its mirror -/
def eLamV (n i : Nat) (b : Sm MU S) {L : LamP} (f : Sm (ML L) S) : Sm (ML L) S := fun z => match z.rho[i]? with
  | some (some (.m 0)) => (f z).bind fun s z1 => match s with
    | .d x => (match b { rho := (S.d x :: z1.m.map S.d).map some ++ List.replicate (n - (S.d x :: z1.m.map S.d).length) none, m := () } with
      | .ok (.d y) _ => .ok (.d y) z1
      | _ => .bad)
    | _ => .bad
  | _ => .bad
theorem startF_eq {N : List Str} {v : V} {ws : List V} : startF N [v] (ws.map some) = L2.start N (v :: ws) := by
  unfold startF L2.start
  rw [List.map_cons, List.map_nil, List.length_map, List.length_cons, List.length_cons, List.length_nil]
  show some v :: (ws.map some ++ _) = some v :: ws.map some ++ _
  rw [show N.length - (0 + 1) - ws.length = N.length - (ws.length + 1) by omega]
  rfl
theorem paired_d {K : PySem.W.Frag} {F : Hp} {ms : List Addr} : ∀ {vs : List V} {xs : List D}, DaAll K F vs xs → Paired (AV K F ms) vs (xs.map S.d)
  | _, _, .nil => .nil
  | _, _, .cons a b => .cons a (paired_d b)
theorem cmp_lamV {K : PySem.W.Frag} {xr xr2 : Str → Option Value} {W : WX} {L : LamP} {N : List Str} {i : Nat} {te tb : TE} {f : Sm (ML L) S} {b : Sm MU S} (hf : Cmp (ML L) K xr W te RelE f) (hb : Cmp MU K xr2 W0 tb RelE b) : Cmp (ML L) K xr W (tLamV L N i te tb) RelE (eLamV N.length i b f) := by
  intro G σ H F z Q hK hx ok h
  unfold eLamV at h
  split at h
  · rename_i ei
    obtain ⟨v0, hσ, a0, ha0, rfl⟩ := ok.slot i _ ei
    obtain ⟨nm, f0, c, cl, ems, m1, m2, m3⟩ := id ok.mach
    rw [ems] at ha0
    cases ha0
    refine ⟨a0, hσ, ⟨c, cl, m1⟩, ?_⟩
    refine hf G σ H F z _ hK hx ok (hit_bind h fun s z1 v H1 F1 _ sm ok1 ev h1 => ?_)
    cases s with
    | l _ => exact h1.elim
    | v _ => exact h1.elim
    | m _ => exact h1.elim
    | d x =>
      obtain ⟨nm1, f1, c1, cl1, ems1, n1, n2, n3⟩ := id ok1.mach
      rw [ems] at ems1
      cases ems1
      subst hK
      have n3' := n3
      obtain ⟨k1, k2, ws, k3, k4, k5⟩ := n3
      have hel : Held (adr cl1) F1 := n3'.held
      have helH : Held (adr cl1) H1 := fun a ha => by
        obtain ⟨o, e⟩ := hel a ha
        exact ⟨o, ok1.sub _ _ e (fun ps e => by cases e)⟩
      have nmD : noMark (drp (adr cl1) F1) := fun a ps e => by
        by_cases q : a ∈ adr cl1
        · rw [drp_in q] at e; cases e
        · rw [drp_out q] at e; exact nm1 a ps e
      refine ⟨c1, cl1, ws, n1, ok1.sub _ _ n2 codeO_nt, fun y a e => ?_, k2, k4, fun i y v e1 e2 => ?_, ?_⟩
      · obtain ⟨o, v, q1, q2⟩ := k1 y a e
        exact ⟨o, v, ok1.sub _ _ q1 (fun ps e => by cases e), q2⟩
      · obtain ⟨a, o, u, q1, q2, q3, q4⟩ := k5 i y v e1 e2
        exact ⟨a, o, u, q1, ok1.sub _ _ q2 (fun ps e => by cases e), q3, q4⟩
      · rw [startF_eq]
        have subD : SameX (drp (adr cl1) F1) (drp (adr cl1) H1) := fun b o e n => by
          by_cases q : b ∈ adr cl1
          · rw [drp_in q] at e; cases e
          · rw [drp_out q] at e ⊢; exact ok1.sub b o e n
        have ok0 := start_ok (M := MU) (K := G.K) (xr := xr2) (N := N) (vs := v :: ws) (args := S.d x :: z1.m.map S.d) (t := ()) (ms := []) subD ⟨nmD, rfl⟩ (fun a ha => by cases ha) (fun a ps e => (nmD a ps e).elim) (paired_d (ms := []) (.cons (Da.drp hel ev) (DaAll.drp hel k3)))
        refine hb ⟨G.K, xr2, [], prP [] (drp (adr cl1) H1) (drp (adr cl1) F1), drp (adr cl1) F1⟩ _ _ (drp (adr cl1) F1) _ _ rfl rfl ok0 ?_
        simp only at h1
        cases eb : b { rho := (S.d x :: z1.m.map S.d).map some ++ List.replicate (N.length - (S.d x :: z1.m.map S.d).length) none, m := () } with
        | bad => rw [eb] at h1; exact h1.elim
        | ex _ _ => rw [eb] at h1; exact h1.elim
        | ok s' z' =>
          rw [eb] at h1
          cases s' with
          | l _ => exact h1.elim
          | v _ => exact h1.elim
          | m _ => exact h1.elim
          | d y =>
            intro v' H' F' sF okB rv hn
            have nmF' : noMark F' := okB.mach.1
            have Fn : ∀ a ∈ adr cl1, F' a = none := fun a ha => by
              cases q : F' a with
              | none => rfl
              | some o =>
                have := okB.sub a o q (fun ps e => nmF' a ps (by rw [q, e]))
                rw [hn a ha] at this
                cases this
            have sM : Same F' (mrg (adr cl1) F1 F') := fun b o e => by
              rw [mrg_out (fun hb => by rw [Fn b hb] at e; cases e)]
              exact e
            have sM1 : Same F1 (mrg (adr cl1) F1 F') := fun b o e => by
              by_cases q : b ∈ adr cl1
              · rw [mrg_in q]; exact e
              · rw [mrg_out q]
                exact sF b o (by rw [drp_out q]; exact e)
            have frB : ∀ b o, H1 b = some o → b ∉ adr cl1 → H' b = some o ∧ F' b = F1 b := fun b o e q => by
              have g := okB.fr b o (by
                show prP [] (drp (adr cl1) H1) (drp (adr cl1) F1) b = some o
                rw [prP_out (fun y => y.elim (fun y => by cases y) fun ⟨ps, y⟩ => nmD b ps y), drp_out q]
                exact e)
              exact ⟨g.1, g.2.trans (drp_out q)⟩
            have okE : Ok (ML L) G σ (mrg (adr cl1) H1 H') (mrg (adr cl1) F1 F') z1 := by
              have keepH : ∀ b o, H1 b = some o → mrg (adr cl1) H1 H' b = some o ∧ mrg (adr cl1) F1 F' b = F1 b := fun b o e => by
                by_cases q : b ∈ adr cl1
                · rw [mrg_in q, mrg_in q]; exact ⟨e, rfl⟩
                · rw [mrg_out q, mrg_out q]; exact frB b o e q
              refine ok1.step sM1 (fun a ps' e => ?_) (fun b o e n => ?_) (fun a ow => ?_) (fun a ha => ?_) (fun b o e => ?_)
              · exfalso
                by_cases q : a ∈ adr cl1
                · rw [mrg_in q] at e; exact nm1 a ps' e
                · rw [mrg_out q] at e; exact nmF' a ps' e
              · by_cases q : b ∈ adr cl1
                · rw [mrg_in q] at e ⊢; exact ok1.sub b o e n
                · rw [mrg_out q] at e ⊢; exact okB.sub b o e n
              · obtain ⟨us, q1, q2, _⟩ := ok1.ownH ow
                obtain ⟨g1, g2⟩ := keepH a _ q1
                exact ⟨g1.trans q1.symm, g2.trans q2⟩
              · obtain ⟨o, q1⟩ := Option.ne_none_iff_exists'.mp (ok1.msH a ha)
                obtain ⟨g1, g2⟩ := keepH a _ q1
                exact ⟨g1.trans q1.symm, g2.trans (ok1.msF a ha)⟩
              · obtain ⟨q1, q2⟩ := ok1.fr b o e
                obtain ⟨g1, g2⟩ := keepH b _ q1
                exact ⟨g1, g2.trans q2⟩
            exact h1 v' _ _ sM1 okE (Da.mono sM rv)
  · exact h.elim
section
variable {ι : Type} {Pr : Program} {w : World} {K : PySem.W.Frag} {mg : Str → Option Value} {base : Heap} {N : List Str} {W : WX} {n : Nat} {X : ι → Cx} {xr : Str → Option Value}
theorem de_lamV {L : LamP} {NL ps : List Str} {i : Nat} {y : Str} {e : Expr} {f : Sm (ML L) S} {b : Sm MU S} {pp pos : Pos} (p : Pc Pr w K mg base N W n X) (S : NScope NL ps L.fr L.scope) (hps : ps.length = 1) (hb : LamBind L ps) (hN : N[i]? = some y) (hv : ∀ j, Vis (X j).env.scope y) (he : DE (ML L) xr K X W e f)
    (hbody : DE MU (fun _ => none) K (fun i : LIx (n + 7) L => lcx Pr w K mg base NL i) W0 L.body b) (hd : (y == ("__debug__" : Str)) = false := by decide) (hcd : (y == ("__classdict__" : Str)) = false := by decide)
    (hs : ∀ j, starEach [e] (X j).env = (false, eval e (X j).env) :: starEach [] (X j).env := by intro _; rfl) (hpl : ∀ j, (backTo pos (starEach [] (X j).env)).any (·.1) = false := by intro _; rfl) :
    DE (ML L) xr K X W (.Call (.Name y pp) [e] [] pos) (eLamV NL.length i b f) := by
  obtain ⟨te, pe, ce⟩ := he
  obtain ⟨tb, pb, cb⟩ := hbody
  refine ⟨tLamV L NL i te tb, fun j => ?_, cmp_lamV ce cb⟩
  refine pe_lamV (k := n + 7) S hps hb (by have := p.room j; exact this) (p.gd j) (by rw [p.n j]; exact hN) (hv j) (pe j) (fun q => ?_) hd hcd (hs j) (hpl j) (fun σ => pass0W σ)
  have e1 := p.pr j
  have e2 := p.pw j
  have e3 := p.k j
  have e4 := p.g j
  have e5 := p.pb j
  rw [e1, e2, e3, e4, e5]
  exact pb q
end
end G
/-! A def whose code object is known; the law's own call where a table of code objects is written. -/
namespace G
open PySem L2 PySem.Spec PyProof.Rows LamX
/-- where the table of the lambda's code objects lies -/
class TP where
  p : Addr
/-- where a def stands in the text, its code object told -/
def FnInC (K : PySem.W.Frag) (mg : Str → Option Value) (x : Str) (st : Stmt) (ps : List Str) (dvs : List V) (k : Addr) : Prop := ∃ f fd, FunD K x x (defArgs st) (defBody st) (defScope st) dvs [] f fd ∧ Binds K fd ps [] ∧ (∃ ds, Vals dvs ds ∧ Binds K fd ps ds) ∧ mg x = some (.ref f) ∧ fd.code = .ref k
section
variable {M : MI} {P : Program} {w : World} {K : PySem.W.Frag} {mg : Str → Option Value} {base : Heap} {xr : Str → Option Value} {n : Nat} {N : List Str} {k : Addr}
theorem FnInC.in {x : Str} {st : Stmt} {ps : List Str} {dvs : List V} (h : FnInC K mg x st ps dvs k) : FnIn K mg x st ps dvs := by
  obtain ⟨f, fd, h1, h2, h3, h4, _⟩ := h
  exact ⟨f, fd, h1, h2, h3, h4⟩
theorem fnAt_succC {x : Str} {st : Stmt} {ps : List Str} {dvs : List V} {b : Sm M Out} (h : FnInC K mg x st ps dvs k) (Sc : FnScope N ps (defScope st))
    (hb : ∀ (f : Addr) (A : Around) (outer : List Env) (s : Shared) (H : Hp) (E : XK), Room (n + 8) (A.deeper (PyProof.Rows.envOfC x (defScope st) s.heap.objs.size f (.ref k))) → A.guards = some [] →
      DSs M xr K (fun _ : Unit => cxOf (L2.CX P w) P w K mg base N x (defScope st) f (.ref k) A outer s H E) (fun cls d _ H => E cls d H) (defBody st) b) : FnAt M P w K mg base xr (n + 1) x ps dvs (fnM N.length b) := by
  obtain ⟨f, fd, hF, hbd, hd, hm, hc⟩ := h
  exact ⟨f, fd, okMC hF Sc (fun cdv e => by rw [hc] at e; cases e; exact hb f), hbd, hd, hF.kp, hm⟩
end
theorem fnIn_mkC {K : PySem.W.Frag} {h : Heap} {mg : Str → Option Value} {x : Str} {st : Stmt} {ps : List Str} {f k : Addr} {oc : Value} {od an : Option Addr} {osl : Array (Option Value)} {kV doc pm ct : Value} (X : K.In h) (G : h.Ns mainGlobals mg) (a : PySem.W.nsIn K mainGlobals x = some (some (.ref f)))
    (l : K.lookup f = some ⟨oc, od, .func (PySem.W.fnOf x x (defArgs st) (defBody st) (defScope st) .none kV doc pm an (.ref k) ct), osl⟩) (c : PySem.W.codeIn K (.ref k) x = true) (kp : PySem.W.keepIn K (.ref f) = true)
    (hb : ∀ (kV doc pm : Value) (an : Option Addr) (cdv ct : Value) (us : List Value), us.length = ps.length → bindArgs (PySem.W.fnOf x x (defArgs st) (defBody st) (defScope st) .none kV doc pm an cdv ct) ⟨us, []⟩ = pure (ps.zip us)) : FnInC K mg x st ps [] k :=
  ⟨f, _, funD_mk (st := st) l c kp, (fun_mk (st := st) l c kp).binds hb, ⟨[], .nil, (fun_mk (st := st) l c kp).binds hb⟩, PySem.W.mg_of X G a, rfl⟩
/-- what the tracked heap holds at the law's call -/
def OnlyT (P : Addr) (H : Hp) : Prop := H P = some (.tbl #[])
theorem lawGT {Pr : Program} {w : World} {K : PySem.W.Frag} {mg mb : Str → Option Value} {CX : CXT} {n : Nat} {fa a k P : Addr} {fd : FuncData} {x : Str} {sp : Sp} {s1 : Shared} {us : List Value} {ns : List Int} (inK : K.In s1.heap) (gs : s1.heap.Ns mainGlobals mg) (bs : s1.heap.Ns builtinsNs mb)
    (boot : ∀ x : Str, x ≠ "__name__" → mb x = bootBuiltins x) (nl : s1.heap.NoLimit) (ge : s1.gens = #[]) (oP : s1.heap.get? P = some { cls := .none, data := .fields #[] }) (kP : K.lookup P = none) (cd : PySem.W.CodeHd s1.heap k P)
    (bm : ∃ (bm : Addr) (ob : Obj), mg "__builtins__" = some (.ref bm) ∧ bm ≠ builtinsNs ∧ s1.heap.get? bm = some ob ∧ ob.cls = .type "module" ∧ ob.dict = some builtinsNs ∧ ob.data = .plain)
    (oa : s1.heap.get? a = some { cls := .type "list", data := .seq us.toArray }) (hi : IntsAre us ns) (hl : ns.length ≤ sizeLine) (hr : Room n callerA)
    (F : ∀ bh : Heap, K.In bh → bh.Ns mainGlobals mg → TabB bh mg k P → FnG Pr w K mg bh CX n fa fd [x] sp) (hbd : ∀ (s : Shared) (u : Value), BindsTo s fd ⟨[u], []⟩ [(x, u)])
    (hsp : ∀ H : Hp, OnlyT P H → SqL K H a (ns.map V.int) → sp [.ref a] H (fun v _ => v = .bl true) fun _ _ _ => False) (noX : ∀ H e s', CX [] H s1 (fun _ _ _ => False) e s' → False) :
    codeAny (model Pr w) callerA (.call (.ref fa) ⟨[.ref a], []⟩) (fun r s' => r = .ok (.ret (.bool true)) ∧ OldK s1.heap s'.heap ∧ s'.os = s1.os ∧ AllBare s'.gens) s1 := by
  have vals := vals_ints hi
  have lens := hi.length
  have naP : a ≠ P := fun e => by
    rw [e, oP] at oa
    have := congrArg Obj.data (Option.some.inj oa)
    cases this
  have main : ∀ H : Hp, H P = some (.tbl #[]) → (∀ c, c ≠ P → H c = none ∨ ∃ ob xs, H c = some (.frz ob (.lst xs))) → SqL K H a (ns.map V.int) → HOk Pr w H s1.heap → (∀ c, H c ≠ none → c = a ∨ c = P) → (H a ≠ none → K.lookup a = none) →
      codeAny (model Pr w) callerA (.call (.ref fa) ⟨[.ref a], []⟩) (fun r s' => r = .ok (.ret (.bool true)) ∧ OldK s1.heap s'.heap ∧ s'.os = s1.os ∧ AllBare s'.gens) s1 := by
    intro H hP only sq hok at1 notK
    have keep : ∀ {c : Addr} {o : Obj}, s1.heap.get? c = some o → H c = none → (hidT s1.heap H).get? c = some o := fun e z => hidT_get e z
    -- neither a list nor a table: not tracked
    have free : ∀ {c : Addr} {o : Obj}, s1.heap.get? c = some o → (∀ v m, o.data ≠ .seq v m) → o.data ≠ .fields #[] → H c = none := by
      intro c o e d1 d2
      rcases hq : H c with _ | u
      · rfl
      · rcases at1 c (by rw [hq]; exact Option.some_ne_none u) with rfl | rfl
        · rw [oa] at e
          cases e
          exact (d1 _ _ rfl).elim
        · rw [oP] at e
          cases e
          exact (d2 rfl).elim
    have noDict : ∀ {c : Addr} {o : Obj} {es : Array DictEntry} {ep : Nat}, s1.heap.get? c = some o → o.data = .dict es ep → H c = none := fun {c o es ep} e d => free e (fun v m z => by rw [d] at z; cases z) (fun z => by rw [d] at z; cases z)
    have nsOf : ∀ {c : Addr} {m : Str → Option Value}, s1.heap.Ns c m → (hidT s1.heap H).Ns c m := fun ⟨o, es, ep, e, d, r⟩ => ⟨o, es, ep, keep e (noDict e d), d, r⟩
    have inB : K.In (hidT s1.heap H) := by
      intro c o e
      refine keep (inK c o e) ?_
      rcases hq : H c with _ | u
      · rfl
      · rcases at1 c (by rw [hq]; exact Option.some_ne_none u) with rfl | rfl
        · rw [notK (by rw [hq]; exact Option.some_ne_none u)] at e
          cases e
        · rw [kP] at e
          cases e
    have md : Mod K mg (hidT s1.heap H) := ⟨inB, nsOf gs, ⟨mb, nsOf bs, boot⟩, by obtain ⟨mc, q1, q2⟩ := nl; exact ⟨mc, nsOf q1, q2⟩⟩
    have gP : mainGlobals ≠ P := fun z => by
      obtain ⟨o, es, ep, e, hd, _⟩ := gs
      rw [z, oP] at e
      cases e
      cases hd
    have tb : TabB (hidT s1.heap H) mg k P := by
      refine ⟨?_, ?_, gP⟩
      · obtain ⟨o, vs, file, tf, flags, tg, inF, text, tt, e1, e2, e3, e4, rest⟩ := cd
        exact ⟨o, vs, file, tf, flags, tg, inF, text, tt, keep e1 (free e1 (fun v m z => by rw [e3] at z; cases z) (fun z => by rw [e3] at z; cases z; simp at e4)), e2, e3, e4, rest⟩
      · obtain ⟨b, ob, b1, b2, b3, b4, b5, b6⟩ := bm
        have nG : b ≠ mainGlobals := fun z => by
          obtain ⟨o, es, ep, e, hd, _⟩ := gs
          rw [z, e] at b3
          cases b3
          rw [hd] at b6
          cases b6
        have nP : b ≠ P := fun z => by
          rw [z, oP] at b3
          cases b3
          cases b6
        exact ⟨b, ob, b1, b2, nG, nP, keep b3 (free b3 (fun v m z => by rw [b6] at z; cases z) (fun z => by rw [b6] at z; cases z)), b4, b5, b6⟩
    have env : Env0 Pr w K mg (hidT s1.heap H) callerA [] s1 H := ⟨rfl, md, fun c o e => of_hidT e, Nat.le_of_eq (hidT_size _ _), trivial, fun c hc => (List.not_mem_nil (show c ∈ ([] : List Addr) from hc)).elim, hok, .of_eq ge⟩
    apply codeAny_mono ((F _ inB (nsOf gs) tb).run callerA [] s1 H ⟨[.ref a], []⟩ [.ref a] [.ref a] _ _ hr rfl env (hbd s1 (.ref a)) (.cons rfl .nil) (hsp H hP sq))
    intro r s' h
    match r, h with
    | .error e, h => exact (noX H e s' h).elim
    | .ok .next, h => exact h.elim
    | .ok .brk, h => exact h.elim
    | .ok .cont, h => exact h.elim
    | .ok (.ret u), h =>
      obtain ⟨v, H', os, bare, un, hok', rv, q⟩ := h
      cases (show v = .bl true from q)
      cases (show u = Value.bool true from rv)
      have kept : ∀ c o, c ≠ P → s1.heap.get? c = some o → s'.heap.get? c = some o := by
        intro c o nc e
        rcases hq : H c with _ | u
        · exact un.keep c o e hq (fun z => (List.not_mem_nil (show c ∈ ([] : List Addr) from z)).elim) (List.not_mem_nil)
        · rcases only c nc with z | ⟨ob, xs, z⟩
          · exact absurd (hq.symm.trans z) (Option.some_ne_none u)
          · obtain ⟨q1, _⟩ := hok c _ z
            obtain ⟨q2, _⟩ := hok' c _ (un.frzs c ob _ z)
            have : o = ob := Option.some.inj (e.symm.trans q1)
            rw [this]
            exact q2
      obtain ⟨more, hm⟩ := un.tbls P #[] hP
      have newP : s'.heap.get? P = some { cls := .none, data := .fields more } := by
        have := hok' P _ hm
        rw [Array.empty_append] at this
        exact this
      refine ⟨rfl, ⟨fun c o e => ?_, fun c o e => ?_⟩, os, bare⟩
      · by_cases hc : c = P
        · rw [hc] at e ⊢
          rw [oP] at e
          cases e
          exact .inr (.inl ⟨(cd.tab oP).isCodeTable, rfl, #[], more, rfl, by rw [Array.empty_append]; exact newP⟩)
        · exact .inl (kept c o hc e)
      · by_cases hc : c = P
        · exact ⟨_, by rw [hc]; exact newP⟩
        · exact ⟨o, kept c o hc e⟩
  rcases hk : K.lookup a with _ | o
  · refine main (fun c => if c = P then some (.tbl #[]) else if c = a then some (.frz { cls := .type "list", data := .seq us.toArray } (.lst (ns.map V.int))) else none) (if_pos rfl) ?_ (.inl (.inr ⟨{ cls := .type "list", data := .seq us.toArray }, (if_neg naP).trans (if_pos rfl)⟩)) ?_ ?_ (fun _ => hk)
    · intro c hc
      by_cases ha : c = a
      · exact Or.inr ⟨_, _, (if_neg hc).trans (if_pos ha)⟩
      · exact Or.inl ((if_neg hc).trans (if_neg ha))
    · intro c u z
      by_cases hc : c = P
      · cases (if_pos hc).symm.trans z
        rw [hc]
        exact oP
      · have z1 := (if_neg hc).symm.trans z
        by_cases ha : c = a
        · cases (if_pos ha).symm.trans z1
          rw [ha]
          exact ⟨oa, by rw [List.length_map]; exact hl, us, _, vals, oa⟩
        · cases (if_neg ha).symm.trans z1
    · intro c z
      by_cases hc : c = P
      · exact .inr hc
      · by_cases ha : c = a
        · exact .inl ha
        · exact absurd ((if_neg hc).trans (if_neg ha)) z
  · have e := inK a o hk
    rw [oa] at e
    cases e
    refine main (fun c => if c = P then some (.tbl #[]) else none) (if_pos rfl) (fun c hc => .inl (if_neg hc)) (.inr ⟨_, us.toArray, _, hk, rfl, rfl, rfl, by rw [List.size_toArray, lens]; exact hl, by simpa using vals⟩) (fun c u z => ?_) (fun c z => ?_) (fun z => absurd (if_neg naP) z)
    · by_cases hc : c = P
      · cases (if_pos hc).symm.trans z
        rw [hc]
        exact oP
      · cases (if_neg hc).symm.trans z
    · by_cases hc : c = P
      · exact .inr hc
      · exact absurd (if_neg hc) z
theorem walkGT {l : PySem.W.OpenLaw} {m n : Nat} {q : Program} {loose : List Str} {XP : (Str → Option Value) → Heap → Prop} {YP : World → Heap → Prop} {d : DefRec} {K : Params → PySem.W.Frag} {CX : World → CXT} {x : Str} (hm : l.most = some m) (hm2 : m ≤ sizeLine) (hdf : d.params.defaults = []) (hr : Room n callerA)
    (hY : ∀ (w : World) (h : Heap), YP w h → (K w.params).In h)
    (F : ∀ (w : World) (mg : Str → Option Value) (fa : Addr) (h : Heap), YP w h → (K w.params).In h → h.Ns mainGlobals mg → mg d.name = some (.ref fa) → ∃ (k P : Addr) (fd : FuncData) (sp : Sp), h.get? P = some { cls := .none, data := .fields #[] } ∧ (K w.params).lookup P = none ∧ PySem.W.CodeHd h k P ∧ (∀ (s : Shared) (u : Value), BindsTo s fd ⟨[u], []⟩ [(x, u)]) ∧
      (∀ (H : Hp) (a : Addr) (ns : List Int), ns.length ≤ m → (∀ z ∈ ns, Builtin.Int.intBits z ≤ 1048576) → OnlyT P H → SqL (K w.params) H a (ns.map V.int) → sp [.ref a] H (fun v _ => v = .bl true) fun _ _ _ => False) ∧
      ∀ bh : Heap, (K w.params).In bh → bh.Ns mainGlobals mg → TabB bh mg k P → FnG l.prog w (K w.params) mg bh (CX w) n fa fd [x] sp)
    (noX : ∀ (w : World) (H : Hp) (s : Shared) (e : Value) (s' : Shared), CX w [] H s (fun _ _ _ => False) e s' → False) : PySem.W.WalkO q loose XP YP l.row.toRowW d [] (fun f vs => PySem.call f vs) := by
  apply Att.attach_callB hm hdf
  intro w s0 s1 mg mb fa o pm cd doc a us ns gr Y ho hd hcd hmg oa hi hlen hbits hg
  have inK := hY w _ Y
  obtain ⟨k, P, fd, sp, oP, kP, ch, hb, hsp, hF⟩ := F w mg fa _ Y inK gr.T.g hmg
  exact lawGT inK gr.T.g gr.T.b gr.T.builtins gr.T.nolimit hg oP kP ch gr.T.bmain oa hi (Nat.le_trans hlen hm2) hr hF hb (fun H hO hS => hsp H a ns hlen hbits hO hS) (fun H e s' => noX w H s1 e s')
end G
namespace G
open PySem L2
/-! ### texts of data: they are texts, and not too long -/
theorem okS_litN (s : String) : okS (Str.ofString s) := by
  intro c hc
  have e : (Str.ofString s).cps.toList = s.toList.map Char.toNat := by
    show (cpsOfBytes 0 0 s.toByteArray.data.toList).toArray.toList = _
    rw [List.toList_toArray, cpsOfBytes_string]
  rw [e] at hc
  obtain ⟨d, _, rfl⟩ := List.mem_map.mp hc
  have h := d.valid
  have e2 : d.toNat = d.val.toNat := rfl
  rw [e2]
  rcases h with h | ⟨_, h⟩
  · have : d.val.toNat < 0xd800 := h
    omega
  · exact h
theorem okS_toN {x : Str} (h : okS x) : PyData.strOk x = true := by
  unfold PyData.strOk
  rw [Array.all_eq_true_iff_forall_mem]
  intro c hc
  have := h c (by simpa using hc)
  simpa using this
theorem charN (d : Char) : d.toNat < 0x110000 := by
  have h := d.valid
  have e2 : d.toNat = d.val.toNat := rfl
  rw [e2]
  rcases h with h | ⟨_, h⟩
  · have : d.val.toNat < 0xd800 := h
    omega
  · exact h
theorem hexN (w c : Nat) : ∀ x ∈ List.replicate (w - ((Nat.toDigits 16 c).map Char.toNat).length) 48 ++ (Nat.toDigits 16 c).map Char.toNat, x < 0x110000 := by
  intro x hx
  rcases List.mem_append.mp hx with h | h
  · rw [List.mem_replicate] at h; omega
  · obtain ⟨d, _, rfl⟩ := List.mem_map.mp h
    exact charN d
theorem reprChar_ok (q c : Nat) (hc : c < 0x110000) : ∀ x ∈ Builtin.Str.reprChar q c, x < 0x110000 := by
  intro x hx
  unfold Builtin.Str.reprChar at hx
  simp only [] at hx
  have two : ∀ {a b : Nat}, a < 0x110000 → b < 0x110000 → x ∈ [a, b] → x < 0x110000 := fun ha hb h => by
    rcases List.mem_cons.mp h with rfl | h
    · exact ha
    · rcases List.mem_cons.mp h with rfl | h
      · exact hb
      · cases h
  split at hx
  · exact two (by omega) hc hx
  split at hx
  · exact two (by omega) (by omega) hx
  split at hx
  · exact two (by omega) (by omega) hx
  split at hx
  · exact two (by omega) (by omega) hx
  split at hx
  · rcases List.mem_singleton.mp hx with rfl; exact hc
  split at hx
  · rcases List.mem_append.mp hx with h | h
    · exact two (by omega) (by omega) h
    · exact hexN _ _ x h
  split at hx
  · rcases List.mem_append.mp hx with h | h
    · exact two (by omega) (by omega) h
    · exact hexN _ _ x h
  · rcases List.mem_append.mp hx with h | h
    · exact two (by omega) (by omega) h
    · exact hexN _ _ x h
theorem fold_ok (q : Nat) : ∀ (l : List Nat) (acc : Array Nat), (∀ c ∈ l, c < 0x110000) → (∀ c ∈ acc.toList, c < 0x110000) → ∀ c ∈ (l.foldl (fun out c => out ++ (Builtin.Str.reprChar q c).toArray) acc).toList, c < 0x110000
  | [], acc, _, h => by simpa using h
  | c :: r, acc, h1, h2 => by
    rw [List.foldl_cons]
    refine fold_ok q r _ (fun x hx => h1 x (List.mem_cons_of_mem _ hx)) fun x hx => ?_
    rw [Array.toList_append] at hx
    rcases List.mem_append.mp hx with h | h
    · exact h2 x h
    · exact reprChar_ok q c (h1 c List.mem_cons_self) x (by simpa using h)
theorem reprQuote_ok (x : Str) : reprQuote x < 0x110000 := by
  unfold reprQuote
  split <;> omega
theorem reprText_ok {x : Str} (h : okS x) : okS (reprText x) := by
  intro c hc
  unfold reprText at hc
  simp only [Array.toList_push] at hc
  rcases List.mem_append.mp hc with h1 | h1
  · rw [← Array.foldl_toList] at h1
    exact fold_ok _ x.cps.toList _ h (fun c hc => by rcases List.mem_singleton.mp hc with rfl; exact reprQuote_ok x) c h1
  · rcases List.mem_singleton.mp h1 with rfl
    exact reprQuote_ok x
theorem okS_joinN : ∀ ts : List Str, (∀ t ∈ ts, okS t) → okS (Str.join ", " ts)
  | [], _ => okS_litN ""
  | [x], h => h x List.mem_cons_self
  | x :: y :: r, h => by
    have ih := okS_joinN (y :: r) (fun t ht => h t (List.mem_cons_of_mem _ ht))
    show okS (x ++ Str.ofString ", " ++ Str.join ", " (y :: r))
    exact okS_app (okS_app (h x List.mem_cons_self) (okS_litN _)) ih
theorem okS_tupN (ts : List Str) (h : ∀ t ∈ ts, okS t) : okS (tupleText ts) := by
  unfold tupleText
  exact okS_app (okS_app (okS_litN _) (okS_joinN ts h)) (okS_litN _)
theorem okS_from : ∀ (ts : List Str) (k : Nat) (acc : Str), okS acc → (∀ t ∈ ts, okS t) → okS (textFrom k acc ts)
  | [], k, acc, h, _ => h
  | t :: r, k, acc, h, h2 => okS_from r (k + 1) _ (okS_app (okS_app h (okS_litN _)) (h2 t List.mem_cons_self)) (fun x hx => h2 x (List.mem_cons_of_mem _ hx))
theorem okS_lstN (ts : List Str) (h : ∀ t ∈ ts, okS t) : okS (listText ts) := by
  show okS (textFrom 0 "[" ts ++ "]")
  exact okS_app (okS_from ts 0 _ (okS_litN _) h) (okS_litN _)
mutual
theorem shown_ok : ∀ d : PyData, d.canLay0 = true → okS d.shown
  | .none, _ => by rw [PyData.shown]; exact okS_litN _
  | .bool b, _ => by rw [PyData.shown]; cases b <;> exact okS_litN _
  | .int i, _ => by rw [PyData.shown]; exact okS_litN _
  | .str x, h => by rw [PyData.shown]; exact reprText_ok (okS_of (by simpa [PyData.canLay0] using h))
  | .list xs, h => by rw [PyData.shown]; exact okS_lstN _ (shown_oks xs (by simpa [PyData.canLay0] using h))
  | .tuple xs, h => by rw [PyData.shown]; exact okS_tupN _ (shown_oks xs (by simpa [PyData.canLay0] using h))
  | .dict _, h => by simp [PyData.canLay0] at h
theorem shown_oks : ∀ ds : List PyData, PyData.canLayAll0 ds = true → ∀ t ∈ PyData.shownAll ds, okS t
  | [], _ => by intro t ht; rw [PyData.shownAll] at ht; cases ht
  | d :: r, h => by
    rw [PyData.canLayAll0, Bool.and_eq_true] at h
    intro t ht
    rw [PyData.shownAll] at ht
    rcases List.mem_cons.mp ht with rfl | ht
    · exact shown_ok d h.1
    · exact shown_oks r h.2 t ht
end
theorem shw_ok {d : D} (h : lay d = true) : okS (shw d) := shown_ok (toPy d) (by rw [canLay_toPy]; exact h)

mutual
def ib : D → Bool
  | .int i => decide (i.natAbs < 1000000000000)
  | .tup xs => ibs xs
  | .lst xs => ibs xs
  | .scr ns => ns.all fun i => decide (i.natAbs < 1000000000000)
  | _ => true
def ibs : List D → Bool
  | [] => true
  | x :: r => ib x && ibs r
end
def wtN (d : D) : Nat := (toPy d).weight
theorem int_ib {i : Int} (h : i.natAbs < 1000000000000) : i.natAbs.log2 < 1920 ∧ (PyData.shown (.int i)).length ≤ 13 := by
  have b := PyData.shown_int_le (i := i) (by have : (10 : Nat) ^ 12 = 1000000000000 := by decide
                                             omega)
  refine ⟨?_, b⟩
  rcases Nat.eq_zero_or_pos i.natAbs with e | e
  · rw [e]; decide
  · have : i.natAbs.log2 < 40 := (Nat.log2_lt (by omega)).mpr (by show i.natAbs < 1099511627776; omega)
    omega
theorem scr_ib : ∀ ns : List Int, (ns.all fun i => decide (i.natAbs < 1000000000000)) = true → PyData.showableAll (ns.map fun i => .int i) = true ∧ PyData.intsShortAll 13 (ns.map fun i => .int i) = true
  | [], _ => ⟨rfl, rfl⟩
  | i :: r, h => by
    rw [List.all_cons, Bool.and_eq_true] at h
    have a := scr_ib r h.2
    have b := int_ib (of_decide_eq_true h.1)
    rw [List.map_cons, PyData.showableAll, PyData.intsShortAll, a.1, a.2, PyData.showable, PyData.intsShort, decide_eq_true b.1, decide_eq_true b.2]
    exact ⟨rfl, rfl⟩
mutual
theorem ib_sh : ∀ d : D, ib d = true → (toPy d).showable = true ∧ (toPy d).intsShort 13 = true
  | .non, _ => by simp [toPy, PyData.showable, PyData.intsShort]
  | .bl b, _ => by simp [toPy, PyData.showable, PyData.intsShort]
  | .int i, h => by
    have b := int_ib (of_decide_eq_true (by rw [ib] at h; exact h))
    rw [toPy, PyData.showable, PyData.intsShort, decide_eq_true b.1, decide_eq_true b.2]
    exact ⟨rfl, rfl⟩
  | .str x, _ => by simp [toPy, PyData.showable, PyData.intsShort]
  | .tup xs, h => by rw [ib] at h; have := ibs_sh xs h; rw [toPy, PyData.showable, PyData.intsShort]; exact this
  | .lst xs, h => by rw [ib] at h; have := ibs_sh xs h; rw [toPy, PyData.showable, PyData.intsShort]; exact this
  | .scr ns, h => by rw [ib] at h; have := scr_ib ns h; rw [toPy, PyData.showable, PyData.intsShort]; exact this
  | .emp, _ => by simp [toPy, PyData.showable, PyData.intsShort]
  | .exc _ _, _ => by simp [toPy, PyData.showable, PyData.intsShort]
  | .o _, _ => by simp [toPy, PyData.showable, PyData.intsShort]
theorem ibs_sh : ∀ ds : List D, ibs ds = true → PyData.showableAll (toPys ds) = true ∧ PyData.intsShortAll 13 (toPys ds) = true
  | [], _ => by rw [toPys]; exact ⟨rfl, rfl⟩
  | d :: r, h => by
    rw [ibs, Bool.and_eq_true] at h
    have a := ib_sh d h.1
    have b := ibs_sh r h.2
    rw [toPys, PyData.showableAll, PyData.intsShortAll, a.1, a.2, b.1, b.2]
    exact ⟨rfl, rfl⟩
end
theorem showOk_of {d : D} (h1 : lay d = true) (h2 : ib d = true) (h3 : dep d ≤ 290) (h4 : wtN d ≤ 900000) : showOk d = true := by
  have s := ib_sh d h2
  have ln := PyData.shown_le 13 (by decide) (toPy d) (PyData.leavesShort_of_canLay0 13 _ (by rw [canLay_toPy]; exact h1) s.2)
  have e : (toPy d).weight = wtN d := rfl
  rw [e] at ln
  have hl : (shw d).length ≤ 15000000 := by
    show (toPy d).shown.length ≤ 15000000
    omega
  unfold showOk
  rw [h1, s.1, decide_eq_true h3, decide_eq_true hl]
  rfl
theorem reprT_of {xs : List D} (h1 : lays xs = true) (h2 : ibs xs = true) (h3 : deps xs ≤ 289) (h4 : wtN (.tup xs) ≤ 900000) : fRepr [.tup xs] = some (.d (.str (shw (.tup xs)))) ∧ PyData.strOk (shw (.tup xs)) = true := by
  have l : lay (.tup xs) = true := by rw [lay]; exact h1
  have ok := showOk_of (d := .tup xs) l (by rw [ib]; exact h2) (by rw [dep]; omega) h4
  refine ⟨?_, okS_toN (shw_ok l)⟩
  unfold fRepr
  exact if_pos ok
def wtsN (ds : List D) : Nat := PyData.weightAll (toPys ds)
theorem wtN_tup (ds : List D) : wtN (.tup ds) = wtsN ds := by unfold wtN wtsN; rw [toPy, PyData.weight]
theorem wtsN_nil : wtsN [] = 0 := by unfold wtsN; rw [toPys, PyData.weightAll]
theorem wtsN_cons (d : D) (r : List D) : wtsN (d :: r) = wtN d + 1 + wtsN r := by unfold wtsN wtN; rw [toPys, PyData.weightAll]
theorem wtN_str (s : Str) : wtN (.str s) = s.cps.size := by unfold wtN; rw [toPy, PyData.weight]
theorem wtN_non : wtN .non ≤ 1 := by unfold wtN; rw [toPy, PyData.weight]; omega
end G
namespace G
open PySem L2
/-! ### comprehensions with any targets -/
theorem lc_mapK {M : MI} {kk : D → Z M.T → Option (Z M.T)} {e : Sm M S} {vs : List Nat} {α : Type} (en : α → D) {g : α → D} {z : Z M.T} : ∀ (ts : List α) (acc : List D), acc.length + ts.length ≤ lim →
    (∀ t ∈ ts, ∃ z1 z2, kk (en t) z = some z1 ∧ escf e z1 = .ok (.d (g t)) z2 ∧ wipeZ z2 vs = z) → lcL kk (fun z => .ok true z) e vs (ts.map en) acc z = .ok (acc ++ ts.map g) z
  | [], acc, _, _ => by simp [lcL]
  | d :: r, acc, hl, h => by
    obtain ⟨z1, z2, h0, h1, h2⟩ := h d List.mem_cons_self
    rw [List.length_cons] at hl
    rw [List.map_cons]
    unfold lcL
    simp only [h0, nox, Rs.bind_ok, if_true, h1]
    rw [if_pos (by omega), h2, lc_mapK en r (acc ++ [g d]) (by rw [List.length_append, List.length_singleton]; omega) (fun d hd => h d (List.mem_cons_of_mem _ hd))]
    simp
theorem elc_mapK {M : MI} {its : Sm M (List D)} {kk : D → Z M.T → Option (Z M.T)} {e : Sm M S} {vs : List Nat} {α : Type} (en : α → D) {g : α → D} {ts : List α} {z z0 : Z M.T} (h0 : its z0 = .ok (ts.map en) z) (hn : noOwn z.rho vs = true) (hw : wipeZ z vs = z) (hr : restR z.rho z.rho vs = z.rho) (hl : ts.length ≤ lim)
    (h : ∀ t ∈ ts, ∃ z1 z2, kk (en t) z = some z1 ∧ escf e z1 = .ok (.d (g t)) z2 ∧ wipeZ z2 vs = z) : eLc its kk (fun z => .ok true z) e vs z0 = .ok (.l (ts.map g)) z := by
  unfold eLc
  rw [h0, Rs.bind_ok, if_pos hn, hw, lc_mapK en ts [] (by rw [List.length_nil]; omega) h, Rs.bind_ok, hr]
  rfl
end G
namespace L
open PySem L2 G
def topS (i : Nat) : Stmt := PySem.Challenge.pw_groundroom_k04_whole_putting_in.main.body.getD i (.Pass ⟨0, 0, 0, 0⟩)
abbrev s_within : Stmt := topS 15
abbrev s_parts_of : Stmt := topS 16
abbrev s_deep_of : Stmt := topS 17
abbrev s_lifted : Stmt := topS 18
abbrev s_term_for : Stmt := topS 19
abbrev s_need_fit : Stmt := topS 20
abbrev s_put : Stmt := topS 21
abbrev s_put_in : Stmt := topS 22
abbrev s__law_next : Stmt := topS 24
abbrev s__law_begun : Stmt := topS 25
abbrev s__law_free_term : Stmt := topS 26
abbrev s__law_free_statement : Stmt := topS 27
abbrev s__law_inside : Stmt := topS 28
abbrev s__law_counted : Stmt := topS 29
abbrev s__law_named : Stmt := topS 30
abbrev s__law_exchanged : Stmt := topS 31
abbrev s__law_bush : Stmt := topS 33
abbrev s__law_tower : Stmt := topS 34
abbrev s__law_chain : Stmt := topS 35
abbrev s__law_drawn : Stmt := topS 36
abbrev s__law_told : Stmt := topS 37
abbrev s__law_right : Stmt := topS 38
abbrev s_law : Stmt := topS 39
inductive Fn where
  | within
  | parts_of
  | deep_of
  | lifted
  | term_for
  | need_fit
  | put
  | put_in
  | _law_next
  | _law_free_term
  | _law_free_statement
  | _law_inside
  | _law_counted
  | _law_named
  | _law_bush
  | _law_tower
  | _law_chain
  | _law_drawn
  | _law_told
  | _law_right
def c_BOUND : D := (.tup [(.str "all"), (.str "some")])
def c_CALLED : D := (.tup [(.str "call"), (.str "rel")])
def c_JOINED : D := (.tup [(.str "same"), (.str "and"), (.str "or"), (.str "if")])
def c_MOST_FOUND : D := (.int 4000)
def c_MOST_FOUND_DEEP : D := (.int 120)
abbrev lawLevel : Nat := 200
abbrev whileN : Nat := 1000000000
def lamOf (q : Str) (fr : List Str) : Stmt → Option LamP
  | .Assign _ (.Call _ [_, .Lambda a b c _] _ _) _ => some ⟨q, a, b, c, fr⟩
  | _ => none
theorem lam_some : (lamOf (("_law_right" ++ ".<locals>.") ++ "<lambda>") ["_law_many", "_law_rows"] ((defBody s__law_right).getD 2 (.Pass ⟨0, 0, 0, 0⟩))).isSome = true := rfl
def lamL : LamP := (lamOf (("_law_right" ++ ".<locals>.") ++ "<lambda>") ["_law_many", "_law_rows"] ((defBody s__law_right).getD 2 (.Pass ⟨0, 0, 0, 0⟩))).get lam_some
def m_lam : Sm MU S :=
    (eIf (tOf (eBin dLt (eVar 0) (eVar 1))) (eBin dIx (eVar 2) (eBin dSub (eBin dSub (eVar 1) (eC (.int 1))) (eVar 0))) (eTup (aCons (escf (eC (.str "free"))) (aCons (escf (eBin dSub (eVar 0) (eVar 1))) aNil))))
def m__law_exchanged (cx : List S → List D → Rs S (List D)) : Sm (ML lamL) Out :=
    (sSeq (sIf (tOf (eBin dEq (eBin dIx (eVar 0) (eC (.int 0))) (eC (.str "free")))) (sRet (eLamV 3 1 m_lam (L := lamL) (eBin dIx (eVar 0) (eC (.int 1))))) sNil)
    (sSeq (sIf (tOf (eBin dEq (eBin dIx (eVar 0) (eC (.int 0))) (eC (.str "own")))) (sRet (eVar 0)) sNil)
    (sSeq (sIf (tOf (eBin dIn (eBin dIx (eVar 0) (eC (.int 0))) (eTup (aCons (escf (eC (.str "all"))) (aCons (escf (eC (.str "some"))) aNil))))) (sRet (eBin dAdd (eSl dSl (eVar 0) (fun z => .ok none z) (oInt (eC (.int 2)))) (eTup (aCons (escf (eCall cx (aCons (escf (eBin dIx (eVar 0) (eC (.int 2)))) (aCons (escf (eVar 1)) aNil)))) aNil)))) sNil)
    (sSeq (sIf (tOf (eBin dIn (eBin dIx (eVar 0) (eC (.int 0))) (eTup (aCons (escf (eC (.str "call"))) (aCons (escf (eC (.str "rel"))) aNil))))) (sRet (eBin dAdd (eSl dSl (eVar 0) (fun z => .ok none z) (oInt (eC (.int 2)))) (eTup (aCons (escf (eFn fTuple (aCons (opd (eLc (iAnyM (eBin dIx (eVar 0) (eC (.int 2)))) (kName 2) (fun z => .ok true z) (eCall cx (aCons (escf (eVar 2)) (aCons (escf (eVar 1)) aNil))) [2])) aNil))) aNil)))) sNil)
    (sRet (eBin dAdd (eSl dSl (eVar 0) (fun z => .ok none z) (oInt (eC (.int 1)))) (eFn fTuple (aCons (opd (eLc (iAnyM (eSl dSl (eVar 0) (oInt (eC (.int 1))) (fun z => .ok none z))) (kName 2) (fun z => .ok true z) (eCall cx (aCons (escf (eVar 2)) (aCons (escf (eVar 1)) aNil))) [2])) aNil))))))))
def mirX : Nat → List S → List D → Rs S (List D)
  | 0 => fun _ _ => .bad
  | n + 1 => fnM 3 (m__law_exchanged (mirX n))
section
variable [TP]
abbrev Mx : MI := MT [(TP.p, lamL.qual)]
def m_within (call : Fn → List S → Mach → Rs S Mach) : Sm (MT [(TP.p, lamL.qual)]) Out :=
    (sSeq (sIf (tOf (eBin dIn (eBin dIx (eVar 0) (eC (.int 0))) (eC c_CALLED))) (sRet (eFn fList (aCons (opd (eBin dIx (eVar 0) (eC (.int 2)))) aNil))) sNil)
    (sSeq (sIf (tOf (eBin dIn (eBin dIx (eVar 0) (eC (.int 0))) (eC c_JOINED))) (sRet (eFn fList (aCons (opd (eSl dSl (eVar 0) (oInt (eC (.int 1))) (fun z => .ok none z))) aNil))) sNil)
    (sRet (eIf (tOf (eBin dIn (eBin dIx (eVar 0) (eC (.int 0))) (eC c_BOUND))) (eLst (aCons (escf (eBin dIx (eVar 0) (eC (.int 2)))) aNil)) (eLst aNil)))))
def m_parts_of (call : Fn → List S → Mach → Rs S Mach) : Sm (MT [(TP.p, lamL.qual)]) Out :=
    (sSeq (sSet 1 (eC (.int 0)))
    (sSeq (sSet 2 (eLst (aCons (escf (eVar 0)) aNil)))
    (sSeq (sWhile (tOf (eBin dNe (eVar 2) (eLst aNil))) (sSeq (sSet 1 (eBin dAdd (eVar 1) (eC (.int 1))))
    (sExpr (eExt 2 (eCall (call .within) (aCons (escf (ePop 2)) aNil))))) whileN)
    (sRet (eVar 1)))))
def m_deep_of (call : Fn → List S → Mach → Rs S Mach) : Sm (MT [(TP.p, lamL.qual)]) Out :=
    (sSeq (sSet 1 (eC (.int 0)))
    (sSeq (sSet 2 (eLst (aCons (escf (eTup (aCons (escf (eVar 0)) (aCons (escf (eC (.int 1))) aNil)))) aNil)))
    (sSeq (sWhile (tOf (eBin dNe (eVar 2) (eLst aNil))) (sSeq (sAsg (ePop 2) (kTup 2 (ksCons (kName 3) (ksCons (kName 4) ksNil))))
    (sSeq (sSet 1 (eFn fMax (aCons (opd (eVar 1)) (aCons (opd (eVar 4)) aNil))))
    (sExpr (eExt 2 (eLc (iAnyM (eCall (call .within) (aCons (escf (eVar 3)) aNil))) (kName 5) (fun z => .ok true z) (eTup (aCons (escf (eVar 5)) (aCons (escf (eBin dAdd (eVar 4) (eC (.int 1)))) aNil))) [5]))))) whileN)
    (sRet (eVar 1)))))
def m_lifted (call : Fn → List S → Mach → Rs S Mach) : Sm (MT [(TP.p, lamL.qual)]) Out :=
    (sSeq (sSet 3 (eBin dIx (eVar 0) (eC (.int 0))))
    (sSeq (sIf (tOf (eBin dEq (eVar 3) (eC (.str "var")))) (sRet (eIf (tOf (eBin dGe (eBin dIx (eVar 0) (eC (.int 1))) (eVar 2))) (eTup (aCons (escf (eC (.str "var"))) (aCons (escf (eBin dAdd (eBin dIx (eVar 0) (eC (.int 1))) (eVar 1))) aNil))) (eVar 0))) sNil)
    (sSeq (sIf (tOf (eBin dIn (eVar 3) (eC c_CALLED))) (sRet (eTup (aCons (escf (eVar 3)) (aCons (escf (eBin dIx (eVar 0) (eC (.int 1)))) (aCons (escf (eFn fTuple (aCons (opd (eLc (iAnyM (eBin dIx (eVar 0) (eC (.int 2)))) (kName 4) (fun z => .ok true z) (eCall (call .lifted) (aCons (escf (eVar 4)) (aCons (escf (eVar 1)) (aCons (escf (eVar 2)) aNil)))) [4])) aNil))) aNil))))) sNil)
    (sSeq (sIf (tOf (eBin dIn (eVar 3) (eC c_JOINED))) (sRet (eTup (aCons (escf (eVar 3)) (aCons (escf (eCall (call .lifted) (aCons (escf (eBin dIx (eVar 0) (eC (.int 1)))) (aCons (escf (eVar 1)) (aCons (escf (eVar 2)) aNil))))) (aCons (escf (eCall (call .lifted) (aCons (escf (eBin dIx (eVar 0) (eC (.int 2)))) (aCons (escf (eVar 1)) (aCons (escf (eVar 2)) aNil))))) aNil))))) sNil)
    (sRet (eIf (tOf (eBin dIn (eVar 3) (eC c_BOUND))) (eTup (aCons (escf (eVar 3)) (aCons (escf (eBin dIx (eVar 0) (eC (.int 1)))) (aCons (escf (eCall (call .lifted) (aCons (escf (eBin dIx (eVar 0) (eC (.int 2)))) (aCons (escf (eVar 1)) (aCons (escf (eBin dAdd (eVar 2) (eC (.int 1)))) aNil))))) aNil)))) (eVar 0)))))))
def m_term_for (call : Fn → List S → Mach → Rs S Mach) : Sm (MT [(TP.p, lamL.qual)]) Out :=
    (sRet (eIf (tOf (eChain dLe dLt (eC (.int 0)) (eVar 1) (eFn fLen (aCons (opd (eVar 0)) aNil)))) (eBin dIx (eVar 0) (eBin dSub (eBin dSub (eFn fLen (aCons (opd (eVar 0)) aNil)) (eC (.int 1))) (eVar 1))) (eC .non)))
def m_need_fit (call : Fn → List S → Mach → Rs S Mach) : Sm (MT [(TP.p, lamL.qual)]) Out :=
    (sSeq (sSet 2 (eLc (iAnyM (eVar 1)) (kName 10) (fun z => .ok true z) (eTup (aCons (escf (eCall (call .parts_of) (aCons (escf (eVar 10)) aNil))) (aCons (escf (eCall (call .deep_of) (aCons (escf (eVar 10)) aNil))) aNil))) [10]))
    (sSeq (sSet 3 (eC (.int 0)))
    (sSeq (sSet 4 (eLst (aCons (escf (eTup (aCons (escf (eVar 0)) (aCons (escf (eC (.int 0))) (aCons (escf (eC (.int 1))) aNil))))) aNil)))
    (sWhile (tOf (eBin dNe (eVar 4) (eLst aNil))) (sSeq (sAsg (ePop 4) (kTup 3 (ksCons (kName 5) (ksCons (kName 6) (ksCons (kName 7) ksNil)))))
    (sSeq (sSet 8 (eC .non))
    (sSeq (sIf (tOf (eBin dEq (eBin dIx (eVar 5) (eC (.int 0))) (eC (.str "var")))) (sSet 8 (eCall (call .term_for) (aCons (escf (eVar 2)) (aCons (escf (eBin dSub (eBin dIx (eVar 5) (eC (.int 1))) (eVar 6))) aNil)))) sNil)
    (sSeq (sIf (tOf (eBin dIs (eVar 8) (eC .non))) (sSet 8 (eTup (aCons (escf (eC (.int 1))) (aCons (escf (eC (.int 1))) aNil)))) sNil)
    (sSeq (sSet 3 (eBin dAdd (eVar 3) (eBin dIx (eVar 8) (eC (.int 0)))))
    (sSeq (sIf (tOrM (tOf (eBin dGt (eVar 3) (eC c_MOST_FOUND))) (tOf (eBin dGt (eBin dAdd (eBin dSub (eVar 7) (eC (.int 1))) (eBin dIx (eVar 8) (eC (.int 1)))) (eC c_MOST_FOUND_DEEP)))) (sRaise "TooMany") sNil)
    (sSeq (sSet 9 (eFn fInt (aCons (opd (eBin dIn (eBin dIx (eVar 5) (eC (.int 0))) (eC c_BOUND))) aNil)))
    (sExpr (eExt 4 (eLc (iAnyM (eCall (call .within) (aCons (escf (eVar 5)) aNil))) (kName 11) (fun z => .ok true z) (eTup (aCons (escf (eVar 11)) (aCons (escf (eBin dAdd (eVar 6) (eVar 9))) (aCons (escf (eBin dAdd (eVar 7) (eC (.int 1)))) aNil)))) [11])))))))))) whileN))))
def m_put (call : Fn → List S → Mach → Rs S Mach) : Sm (MT [(TP.p, lamL.qual)]) Out :=
    (sSeq (sSet 3 (eBin dIx (eVar 0) (eC (.int 0))))
    (sSeq (sIf (tOf (eBin dEq (eVar 3) (eC (.str "var")))) (sSeq (sSet 4 (eCall (call .term_for) (aCons (escf (eVar 1)) (aCons (escf (eBin dSub (eBin dIx (eVar 0) (eC (.int 1))) (eVar 2))) aNil))))
    (sSeq (sIf (tOf (eBin dIsNot (eVar 4) (eC .non))) (sRet (eCall (call .lifted) (aDef [(.int 0)] (aCons (escf (eVar 4)) (aCons (escf (eVar 2)) aNil))))) sNil)
    (sRet (eIf (tOf (eBin dLt (eBin dIx (eVar 0) (eC (.int 1))) (eVar 2))) (eVar 0) (eTup (aCons (escf (eC (.str "var"))) (aCons (escf (eBin dSub (eBin dIx (eVar 0) (eC (.int 1))) (eFn fLen (aCons (opd (eVar 1)) aNil)))) aNil))))))) sNil)
    (sSeq (sIf (tOf (eBin dIn (eVar 3) (eC c_CALLED))) (sRet (eTup (aCons (escf (eVar 3)) (aCons (escf (eBin dIx (eVar 0) (eC (.int 1)))) (aCons (escf (eFn fTuple (aCons (opd (eLc (iAnyM (eBin dIx (eVar 0) (eC (.int 2)))) (kName 5) (fun z => .ok true z) (eCall (call .put) (aCons (escf (eVar 5)) (aCons (escf (eVar 1)) (aCons (escf (eVar 2)) aNil)))) [5])) aNil))) aNil))))) sNil)
    (sSeq (sIf (tOf (eBin dIn (eVar 3) (eC c_JOINED))) (sRet (eTup (aCons (escf (eVar 3)) (aCons (escf (eCall (call .put) (aCons (escf (eBin dIx (eVar 0) (eC (.int 1)))) (aCons (escf (eVar 1)) (aCons (escf (eVar 2)) aNil))))) (aCons (escf (eCall (call .put) (aCons (escf (eBin dIx (eVar 0) (eC (.int 2)))) (aCons (escf (eVar 1)) (aCons (escf (eVar 2)) aNil))))) aNil))))) sNil)
    (sRet (eIf (tOf (eBin dIn (eVar 3) (eC c_BOUND))) (eTup (aCons (escf (eVar 3)) (aCons (escf (eBin dIx (eVar 0) (eC (.int 1)))) (aCons (escf (eCall (call .put) (aCons (escf (eBin dIx (eVar 0) (eC (.int 2)))) (aCons (escf (eVar 1)) (aCons (escf (eBin dAdd (eVar 2) (eC (.int 1)))) aNil))))) aNil)))) (eVar 0)))))))
def m_put_in (call : Fn → List S → Mach → Rs S Mach) : Sm (MT [(TP.p, lamL.qual)]) Out :=
    (sSeq (sExpr (eCall (call .need_fit) (aCons (escf (eVar 0)) (aCons (escf (eVar 1)) aNil))))
    (sRet (eCall (call .put) (aCons (escf (eVar 0)) (aCons (escf (eVar 1)) (aCons (escf (eC (.int 0))) aNil))))))
def m__law_free_term (call : Fn → List S → Mach → Rs S Mach) : Sm (MT [(TP.p, lamL.qual)]) Out :=
    (sSeq (sSet 3 (eCall (call ._law_next) (aCons (escf (eVar 0)) (aCons (escf (eC (.int 4))) aNil))))
    (sSeq (sIf (tAndM (tOf (eBin dLt (eVar 3) (eC (.int 2)))) (tOf (eBin dGt (eVar 1) (eC (.int 0))))) (sRet (eTup (aCons (escf (eC (.str "var"))) (aCons (escf (eCall (call ._law_next) (aCons (escf (eVar 0)) (aCons (escf (eVar 1)) aNil)))) aNil)))) sNil)
    (sSeq (sIf (tOrM (tOf (eBin dLt (eVar 3) (eC (.int 3)))) (tOf (eBin dLt (eVar 2) (eC (.int 1))))) (sRet (eTup (aCons (escf (eC (.str "call"))) (aCons (escf (eBin dIx (eC (.str "fgh")) (eCall (call ._law_next) (aCons (escf (eVar 0)) (aCons (escf (eC (.int 3))) aNil))))) (aCons (escf (eTup aNil)) aNil))))) sNil)
    (sSeq (sSet 4 (eLc (iRg1M (aCons (opd (eBin dAdd (eC (.int 1)) (eCall (call ._law_next) (aCons (escf (eVar 0)) (aCons (escf (eC (.int 3))) aNil))))) aNil)) (kName 5) (fun z => .ok true z) (eCall (call ._law_free_term) (aCons (escf (eVar 0)) (aCons (escf (eVar 1)) (aCons (escf (eBin dSub (eVar 2) (eC (.int 1)))) aNil)))) [5]))
    (sRet (eTup (aCons (escf (eC (.str "call"))) (aCons (escf (eBin dIx (eC (.str "fgh")) (eCall (call ._law_next) (aCons (escf (eVar 0)) (aCons (escf (eC (.int 3))) aNil))))) (aCons (escf (eFn fTuple (aCons (opd (eVar 4)) aNil))) aNil)))))))))
def m__law_free_statement (call : Fn → List S → Mach → Rs S Mach) : Sm (MT [(TP.p, lamL.qual)]) Out :=
    (sSeq (sSet 3 (eCall (call ._law_next) (aCons (escf (eVar 0)) (aCons (escf (eC (.int 9))) aNil))))
    (sSeq (sIf (tOrM (tOf (eBin dLt (eVar 2) (eC (.int 1)))) (tOf (eBin dLt (eVar 3) (eC (.int 3))))) (sSeq (sIf (tOf (eBin dEq (eVar 3) (eC (.int 0)))) (sRet (eTup (aCons (escf (eC (.str "no"))) aNil))) sNil)
    (sSeq (sIf (tOf (eBin dEq (eVar 3) (eC (.int 1)))) (sRet (eTup (aCons (escf (eC (.str "same"))) (aCons (escf (eCall (call ._law_free_term) (aCons (escf (eVar 0)) (aCons (escf (eVar 1)) (aCons (escf (eC (.int 2))) aNil))))) (aCons (escf (eCall (call ._law_free_term) (aCons (escf (eVar 0)) (aCons (escf (eVar 1)) (aCons (escf (eC (.int 1))) aNil))))) aNil))))) sNil)
    (sSeq (sSet 4 (eLc (iRg1M (aCons (opd (eCall (call ._law_next) (aCons (escf (eVar 0)) (aCons (escf (eC (.int 4))) aNil)))) aNil)) (kName 7) (fun z => .ok true z) (eCall (call ._law_free_term) (aCons (escf (eVar 0)) (aCons (escf (eVar 1)) (aCons (escf (eC (.int 2))) aNil)))) [7]))
    (sRet (eTup (aCons (escf (eC (.str "rel"))) (aCons (escf (eBin dIx (eC (.str "pq")) (eCall (call ._law_next) (aCons (escf (eVar 0)) (aCons (escf (eC (.int 2))) aNil))))) (aCons (escf (eFn fTuple (aCons (opd (eVar 4)) aNil))) aNil)))))))) sNil)
    (sSeq (sIf (tOf (eBin dLt (eVar 3) (eC (.int 6)))) (sSeq (sSet 5 (eBin dIx (eLst (aCons (escf (eC (.str "and"))) (aCons (escf (eC (.str "or"))) (aCons (escf (eC (.str "if"))) aNil)))) (eBin dSub (eVar 3) (eC (.int 3)))))
    (sRet (eTup (aCons (escf (eVar 5)) (aCons (escf (eCall (call ._law_free_statement) (aCons (escf (eVar 0)) (aCons (escf (eVar 1)) (aCons (escf (eBin dSub (eVar 2) (eC (.int 1)))) aNil))))) (aCons (escf (eCall (call ._law_free_statement) (aCons (escf (eVar 0)) (aCons (escf (eVar 1)) (aCons (escf (eBin dSub (eVar 2) (eC (.int 1)))) aNil))))) aNil)))))) sNil)
    (sSeq (sSet 6 (eCall (call ._law_free_statement) (aCons (escf (eVar 0)) (aCons (escf (eBin dAdd (eVar 1) (eC (.int 1)))) (aCons (escf (eBin dSub (eVar 2) (eC (.int 1)))) aNil)))))
    (sRet (eTup (aCons (escf (eBin dIx (eLst (aCons (escf (eC (.str "all"))) (aCons (escf (eC (.str "some"))) (aCons (escf (eC (.str "all"))) aNil)))) (eBin dSub (eVar 3) (eC (.int 6))))) (aCons (escf (eBin dIx (eC (.str "st")) (eCall (call ._law_next) (aCons (escf (eVar 0)) (aCons (escf (eC (.int 2))) aNil))))) (aCons (escf (eVar 6)) aNil)))))))))
def m__law_inside (call : Fn → List S → Mach → Rs S Mach) : Sm (MT [(TP.p, lamL.qual)]) Out :=
    (sSeq (sIf (tOf (eBin dIn (eBin dIx (eVar 0) (eC (.int 0))) (eTup (aCons (escf (eC (.str "call"))) (aCons (escf (eC (.str "rel"))) aNil))))) (sRet (eFn fList (aCons (opd (eBin dIx (eVar 0) (eC (.int 2)))) aNil))) sNil)
    (sSeq (sIf (tOf (eBin dIn (eBin dIx (eVar 0) (eC (.int 0))) (eTup (aCons (escf (eC (.str "all"))) (aCons (escf (eC (.str "some"))) aNil))))) (sRet (eLst (aCons (escf (eBin dIx (eVar 0) (eC (.int 2)))) aNil))) sNil)
    (sRet (eIf (tOf (eBin dIn (eBin dIx (eVar 0) (eC (.int 0))) (eTup (aCons (escf (eC (.str "same"))) (aCons (escf (eC (.str "and"))) (aCons (escf (eC (.str "or"))) (aCons (escf (eC (.str "if"))) aNil))))))) (eFn fList (aCons (opd (eSl dSl (eVar 0) (oInt (eC (.int 1))) (fun z => .ok none z))) aNil)) (eLst aNil)))))
def m__law_counted (call : Fn → List S → Mach → Rs S Mach) : Sm (MT [(TP.p, lamL.qual)]) Out :=
    (sSeq (sSet 1 (eLc (iAnyM (eCall (call ._law_inside) (aCons (escf (eVar 0)) aNil))) (kName 2) (fun z => .ok true z) (eCall (call ._law_counted) (aCons (escf (eVar 2)) aNil)) [2]))
    (sRet (eTup (aCons (escf (eBin dAdd (eC (.int 1)) (eFn fSum (aCons (opd (eLc (iAnyM (eVar 1)) (kName 3) (fun z => .ok true z) (eBin dIx (eVar 3) (eC (.int 0))) [3])) aNil)))) (aCons (escf (eBin dAdd (eC (.int 1)) (eFn fMax (aCons (opd (eBin dAdd (eLst (aCons (escf (eC (.int 0))) aNil)) (eLc (iAnyM (eVar 1)) (kName 3) (fun z => .ok true z) (eBin dIx (eVar 3) (eC (.int 1))) [3]))) aNil)))) aNil)))))
def m__law_named (call : Fn → List S → Mach → Rs S Mach) : Sm (MT [(TP.p, lamL.qual)]) Out :=
    (sSeq (sIf (tOf (eBin dEq (eBin dIx (eVar 0) (eC (.int 0))) (eC (.str "var")))) (sSeq (sSet 2 (eBin dIx (eVar 0) (eC (.int 1))))
    (sRet (eIf (tOf (eBin dLt (eVar 2) (eVar 1))) (eTup (aCons (escf (eC (.str "own"))) (aCons (escf (eBin dSub (eBin dSub (eVar 1) (eC (.int 1))) (eVar 2))) aNil))) (eTup (aCons (escf (eC (.str "free"))) (aCons (escf (eBin dSub (eVar 2) (eVar 1))) aNil)))))) sNil)
    (sSeq (sIf (tOf (eBin dIn (eBin dIx (eVar 0) (eC (.int 0))) (eTup (aCons (escf (eC (.str "all"))) (aCons (escf (eC (.str "some"))) aNil))))) (sRet (eBin dAdd (eSl dSl (eVar 0) (fun z => .ok none z) (oInt (eC (.int 2)))) (eTup (aCons (escf (eCall (call ._law_named) (aCons (escf (eBin dIx (eVar 0) (eC (.int 2)))) (aCons (escf (eBin dAdd (eVar 1) (eC (.int 1)))) aNil)))) aNil)))) sNil)
    (sSeq (sIf (tOf (eBin dIn (eBin dIx (eVar 0) (eC (.int 0))) (eTup (aCons (escf (eC (.str "call"))) (aCons (escf (eC (.str "rel"))) aNil))))) (sRet (eBin dAdd (eSl dSl (eVar 0) (fun z => .ok none z) (oInt (eC (.int 2)))) (eTup (aCons (escf (eFn fTuple (aCons (opd (eLc (iAnyM (eBin dIx (eVar 0) (eC (.int 2)))) (kName 3) (fun z => .ok true z) (eCall (call ._law_named) (aCons (escf (eVar 3)) (aCons (escf (eVar 1)) aNil))) [3])) aNil))) aNil)))) sNil)
    (sRet (eBin dAdd (eSl dSl (eVar 0) (fun z => .ok none z) (oInt (eC (.int 1)))) (eFn fTuple (aCons (opd (eLc (iAnyM (eSl dSl (eVar 0) (oInt (eC (.int 1))) (fun z => .ok none z))) (kName 3) (fun z => .ok true z) (eCall (call ._law_named) (aCons (escf (eVar 3)) (aCons (escf (eVar 1)) aNil))) [3])) aNil)))))))
def m__law_bush (call : Fn → List S → Mach → Rs S Mach) : Sm (MT [(TP.p, lamL.qual)]) Out :=
    (sSeq (sIf (tOf (eBin dLt (eVar 0) (eC (.int 2)))) (sRet (eTup (aCons (escf (eC (.str "same"))) (aCons (escf (eTup (aCons (escf (eC (.str "var"))) (aCons (escf (eC (.int 0))) aNil)))) (aCons (escf (eTup (aCons (escf (eC (.str "var"))) (aCons (escf (eC (.int 0))) aNil)))) aNil))))) sNil)
    (sRet (eTup (aCons (escf (eC (.str "and"))) (aCons (escf (eCall (call ._law_bush) (aCons (escf (eBin dFdiv (eVar 0) (eC (.int 2)))) aNil))) (aCons (escf (eCall (call ._law_bush) (aCons (escf (eBin dSub (eVar 0) (eBin dFdiv (eVar 0) (eC (.int 2))))) aNil))) aNil))))))
def m__law_tower (call : Fn → List S → Mach → Rs S Mach) : Sm (MT [(TP.p, lamL.qual)]) Out :=
    (sSeq (sSet 1 (eTup (aCons (escf (eC (.str "var"))) (aCons (escf (eC (.int 0))) aNil))))
    (sSeq (sFor (iRg1M (aCons (opd (eVar 0)) aNil)) (kName 2) (sSet 1 (eTup (aCons (escf (eC (.str "call"))) (aCons (escf (eC (.str "f"))) (aCons (escf (eTup (aCons (escf (eVar 1)) aNil))) aNil))))))
    (sRet (eVar 1))))
def m__law_chain (call : Fn → List S → Mach → Rs S Mach) : Sm (MT [(TP.p, lamL.qual)]) Out :=
    (sSeq (sSet 1 (eTup (aCons (escf (eC (.str "rel"))) (aCons (escf (eC (.str "p"))) (aCons (escf (eTup (aCons (escf (eTup (aCons (escf (eC (.str "var"))) (aCons (escf (eVar 0)) aNil)))) aNil))) aNil)))))
    (sSeq (sFor (iRg1M (aCons (opd (eVar 0)) aNil)) (kName 2) (sSet 1 (eTup (aCons (escf (eC (.str "all"))) (aCons (escf (eC (.str "s"))) (aCons (escf (eVar 1)) aNil))))))
    (sRet (eVar 1))))
def m__law_drawn (call : Fn → List S → Mach → Rs S Mach) : Sm (MT [(TP.p, lamL.qual)]) Out :=
    (sSeq (sSet 1 (eCall (call ._law_next) (aCons (escf (eVar 0)) (aCons (escf (eC (.int 12))) aNil))))
    (sSeq (sSet 2 (eLc (iRg1M (aCons (opd (eCall (call ._law_next) (aCons (escf (eVar 0)) (aCons (escf (eC (.int 4))) aNil)))) aNil)) (kName 3) (fun z => .ok true z) (eCall (call ._law_free_term) (aCons (escf (eVar 0)) (aCons (escf (eCall (call ._law_next) (aCons (escf (eVar 0)) (aCons (escf (eC (.int 4))) aNil)))) (aCons (escf (eC (.int 2))) aNil)))) [3]))
    (sSeq (sIf (tOf (eBin dEq (eVar 1) (eC (.int 1)))) (sRet (eTup (aCons (escf (eCall (call ._law_bush) (aCons (escf (eBin dAdd (eC (.int 1)) (eCall (call ._law_next) (aCons (escf (eVar 0)) (aCons (escf (eC (.int 400))) aNil))))) aNil))) (aCons (escf (eTup (aCons (escf (eCall (call ._law_tower) (aCons (escf (eCall (call ._law_next) (aCons (escf (eVar 0)) (aCons (escf (eC (.int 20))) aNil)))) aNil))) aNil))) aNil)))) sNil)
    (sSeq (sIf (tOf (eBin dEq (eVar 1) (eC (.int 2)))) (sRet (eTup (aCons (escf (eCall (call ._law_chain) (aCons (escf (eCall (call ._law_next) (aCons (escf (eVar 0)) (aCons (escf (eC (.int 100))) aNil)))) aNil))) (aCons (escf (eTup (aCons (escf (eCall (call ._law_tower) (aCons (escf (eCall (call ._law_next) (aCons (escf (eVar 0)) (aCons (escf (eC (.int 60))) aNil)))) aNil))) aNil))) aNil)))) sNil)
    (sSeq (sIf (tOf (eBin dEq (eVar 1) (eC (.int 3)))) (sRet (eTup (aCons (escf (eCall (call ._law_free_term) (aCons (escf (eVar 0)) (aCons (escf (eCall (call ._law_next) (aCons (escf (eVar 0)) (aCons (escf (eC (.int 5))) aNil)))) (aCons (escf (eC (.int 3))) aNil))))) (aCons (escf (eFn fTuple (aCons (opd (eVar 2)) aNil))) aNil)))) sNil)
    (sRet (eTup (aCons (escf (eCall (call ._law_free_statement) (aCons (escf (eVar 0)) (aCons (escf (eCall (call ._law_next) (aCons (escf (eVar 0)) (aCons (escf (eC (.int 5))) aNil)))) (aCons (escf (eCall (call ._law_next) (aCons (escf (eVar 0)) (aCons (escf (eC (.int 5))) aNil)))) aNil))))) (aCons (escf (eFn fTuple (aCons (opd (eVar 2)) aNil))) aNil)))))))))
def m__law_told (call : Fn → List S → Mach → Rs S Mach) : Sm (MT [(TP.p, lamL.qual)]) Out :=
    (sSeq (sSet 2 (eC .non))
    (sSeq (sSet 3 (eC .non))
    (sSeq (sCatch 4 2 (tb1 "TooMany" true) (sSet 3 (eCall (call .put_in) (aCons (escf (eVar 0)) (aCons (escf (eVar 1)) aNil)))))
    (sSeq (sIf (tOf (eBin dIs (eVar 2) (eC .non))) (sRet (eVar 3)) sNil)
    (sSeq (sSet 5 (eUn (dIsX (tb1 "TooMany" false)) (eVar 2)))
    (sSeq (sSet 6 (eAndM (eUn (dIsX (tb1 "TooMany" true)) (eVar 2)) (eAndM (eUn (dIsX (tb1 "TooMany" true)) (eVar 2)) (eNotM (eVar 5)))))
    (sRet (eIf (tTru dTru (eVar 6)) (eC (.str "many")) (eC (.str "odd"))))))))))
def m__law_right (call : Fn → List S → Mach → Rs S Mach) (cx : List S → List D → Rs S (List D)) : Sm (MT [(TP.p, lamL.qual)]) Out :=
    (sSeq (sSet 2 (eFn fLen (aCons (opd (eVar 1)) aNil)))
    (sSeq (sSet 3 (eLc (iAnyM (eVar 1)) (kName 9) (fun z => .ok true z) (eCall (call ._law_named) (aCons (escf (eVar 9)) (aCons (escf (eC (.int 0))) aNil))) [9]))
    (sSeq (sSet 4 (eLamC [2, 3] cx id (eCall (call ._law_named) (aCons (escf (eVar 0)) (aCons (escf (eC (.int 0))) aNil)))))
    (sSeq (sSet 5 (eFn fRepr (aCons (opd (eTup (aCons (escf (eVar 0)) (aCons (escf (eVar 1)) aNil)))) aNil)))
    (sSeq (sSet 6 (eCall (call ._law_told) (aCons (escf (eVar 0)) (aCons (escf (eVar 1)) aNil))))
    (sSeq (sAsg (eCall (call ._law_counted) (aCons (escf (eVar 4)) aNil)) (kTup 2 (ksCons (kName 7) (ksCons (kName 8) ksNil))))
    (sSeq (sIf (tOrM (tOf (eBin dGt (eVar 7) (eC (.int 4000)))) (tOf (eBin dGt (eVar 8) (eC (.int 120))))) (sRet (eBin dEq (eVar 6) (eC (.str "many")))) sNil)
    (sRet (eAndM (eUn (dIsiN "tuple") (eVar 6)) (eAndM (eBin dEq (eFn fRepr (aCons (opd (eCall (call ._law_named) (aCons (escf (eVar 6)) (aCons (escf (eC (.int 0))) aNil)))) aNil)) (eFn fRepr (aCons (opd (eVar 4)) aNil))) (eBin dEq (eFn fRepr (aCons (opd (eTup (aCons (escf (eVar 0)) (aCons (escf (eVar 1)) aNil)))) aNil)) (eVar 5))))))))))))
def m_law (call : Fn → List S → Mach → Rs S Mach) : Sm (MT [(TP.p, lamL.qual)]) Out :=
    (sSeq (sFor (iRg1M (aCons (opd (eFn fMax (aCons (opd (eBin dAdd (eC (.int 1)) (eCall (call ._law_next) (aCons (escf (eVar 1)) (aCons (escf (eC (.int 8))) aNil))))) (aCons (opd (eFn fMin (aCons (opd (eC (.int 63))) (aCons (opd (eFn fLen (aCons (opd (eVar 0)) aNil))) aNil)))) aNil)))) aNil)) (kName 2) (sSeq (sAsg (eCall (call ._law_drawn) (aCons (escf (eVar 1)) aNil)) (kTup 2 (ksCons (kName 3) (ksCons (kName 4) ksNil))))
    (sIf (tNotM (tTru dTru (eCall (call ._law_right) (aCons (escf (eVar 3)) (aCons (escf (eVar 4)) aNil))))) (sRet (eC (.bl false))) sNil)))
    (sRet (eC (.bl true))))
def mir : Nat → Fn → List S → Mach → Rs S Mach
  | 0, _ => fun _ _ => .bad
  | n + 1, .within => fnM 1 (m_within (mir n))
  | n + 1, .parts_of => fnM 3 (m_parts_of (mir n))
  | n + 1, .deep_of => fnM 6 (m_deep_of (mir n))
  | n + 1, .lifted => fnM 5 (m_lifted (mir n))
  | n + 1, .term_for => fnM 2 (m_term_for (mir n))
  | n + 1, .need_fit => fnM 12 (m_need_fit (mir n))
  | n + 1, .put => fnM 6 (m_put (mir n))
  | n + 1, .put_in => fnM 2 (m_put_in (mir n))
  | _ + 1, ._law_next => nextS
  | n + 1, ._law_free_term => fnM 6 (m__law_free_term (mir n))
  | n + 1, ._law_free_statement => fnM 8 (m__law_free_statement (mir n))
  | n + 1, ._law_inside => fnM 1 (m__law_inside (mir n))
  | n + 1, ._law_counted => fnM 4 (m__law_counted (mir n))
  | n + 1, ._law_named => fnM 4 (m__law_named (mir n))
  | n + 1, ._law_bush => fnM 1 (m__law_bush (mir n))
  | n + 1, ._law_tower => fnM 3 (m__law_tower (mir n))
  | n + 1, ._law_chain => fnM 3 (m__law_chain (mir n))
  | n + 1, ._law_drawn => fnM 4 (m__law_drawn (mir n))
  | n + 1, ._law_told => fnM 7 (m__law_told (mir n))
  | n + 1, ._law_right => fnM 10 (m__law_right (mir n) (mirX n))
end
end L
namespace L
open PySem L2 G
theorem sc_within : FnScope ["thing"] ["thing"] (defScope s_within) := ⟨rfl, rfl, rfl, by decide +kernel, rfl, by decide +kernel, by decide +kernel⟩
theorem sc_parts_of : FnScope ["thing", "found", "waiting"] ["thing"] (defScope s_parts_of) := ⟨rfl, rfl, rfl, by decide +kernel, rfl, by decide +kernel, by decide +kernel⟩
theorem sc_deep_of : FnScope ["thing", "found", "waiting", "one", "deep", "part"] ["thing"] (defScope s_deep_of) := ⟨rfl, rfl, rfl, by decide +kernel, rfl, by decide +kernel, by decide +kernel⟩
theorem sc_lifted : FnScope ["thing", "many", "above", "word", "one"] ["thing", "many", "above"] (defScope s_lifted) := ⟨rfl, rfl, rfl, by decide +kernel, rfl, by decide +kernel, by decide +kernel⟩
theorem sc_term_for : FnScope ["terms", "number"] ["terms", "number"] (defScope s_term_for) := ⟨rfl, rfl, rfl, by decide +kernel, rfl, by decide +kernel, by decide +kernel⟩
theorem sc_need_fit : FnScope ["thing", "terms", "sizes", "many", "waiting", "one", "bound", "deep", "size", "more", "term", "part"] ["thing", "terms"] (defScope s_need_fit) := ⟨rfl, rfl, rfl, by decide +kernel, rfl, by decide +kernel, by decide +kernel⟩
theorem sc_put : FnScope ["thing", "terms", "bound", "word", "found", "one"] ["thing", "terms", "bound"] (defScope s_put) := ⟨rfl, rfl, rfl, by decide +kernel, rfl, by decide +kernel, by decide +kernel⟩
theorem sc_put_in : FnScope ["thing", "terms"] ["thing", "terms"] (defScope s_put_in) := ⟨rfl, rfl, rfl, by decide +kernel, rfl, by decide +kernel, by decide +kernel⟩
theorem sc__law_next : FnScope ["_law_m", "_law_many", "_law_k", "_law_cells", "_law_at", "_law_found", "_law_cell", "_law_number"] ["_law_m", "_law_many"] (defScope s__law_next) := ⟨rfl, rfl, rfl, by decide +kernel, rfl, by decide +kernel, by decide +kernel⟩
theorem sc__law_free_term : FnScope ["_law_m", "_law_many", "_law_deep", "_law_way", "_law_some", "_law_k"] ["_law_m", "_law_many", "_law_deep"] (defScope s__law_free_term) := ⟨rfl, rfl, rfl, by decide +kernel, rfl, by decide +kernel, by decide +kernel⟩
theorem sc__law_free_statement : FnScope ["_law_m", "_law_many", "_law_deep", "_law_way", "_law_some", "_law_word", "_law_below", "_law_k"] ["_law_m", "_law_many", "_law_deep"] (defScope s__law_free_statement) := ⟨rfl, rfl, rfl, by decide +kernel, rfl, by decide +kernel, by decide +kernel⟩
theorem sc__law_inside : FnScope ["_law_thing"] ["_law_thing"] (defScope s__law_inside) := ⟨rfl, rfl, rfl, by decide +kernel, rfl, by decide +kernel, by decide +kernel⟩
theorem sc__law_counted : FnScope ["_law_thing", "_law_rows", "_law_one", "_law_row"] ["_law_thing"] (defScope s__law_counted) := ⟨rfl, rfl, rfl, by decide +kernel, rfl, by decide +kernel, by decide +kernel⟩
theorem sc__law_named : FnScope ["_law_thing", "_law_binders", "_law_k", "_law_one"] ["_law_thing", "_law_binders"] (defScope s__law_named) := ⟨rfl, rfl, rfl, by decide +kernel, rfl, by decide +kernel, by decide +kernel⟩
theorem sc__law_bush : FnScope ["_law_many"] ["_law_many"] (defScope s__law_bush) := ⟨rfl, rfl, rfl, by decide +kernel, rfl, by decide +kernel, by decide +kernel⟩
theorem sc__law_tower : FnScope ["_law_long", "_law_found", "_law_turn"] ["_law_long"] (defScope s__law_tower) := ⟨rfl, rfl, rfl, by decide +kernel, rfl, by decide +kernel, by decide +kernel⟩
theorem sc__law_chain : FnScope ["_law_long", "_law_found", "_law_turn"] ["_law_long"] (defScope s__law_chain) := ⟨rfl, rfl, rfl, by decide +kernel, rfl, by decide +kernel, by decide +kernel⟩
theorem sc__law_drawn : FnScope ["_law_m", "_law_way", "_law_terms", "_law_k"] ["_law_m"] (defScope s__law_drawn) := ⟨rfl, rfl, rfl, by decide +kernel, rfl, by decide +kernel, by decide +kernel⟩
theorem sc__law_told : FnScope ["_law_thing", "_law_terms", "_law_caught", "_law_found", "e", "_law_others", "_law_good"] ["_law_thing", "_law_terms"] (defScope s__law_told) := ⟨rfl, rfl, rfl, by decide +kernel, rfl, by decide +kernel, by decide +kernel⟩
theorem sc__law_right : FnScope ["_law_thing", "_law_terms", "_law_many", "_law_rows", "_law_due", "_law_kept", "_law_found", "_law_parts", "_law_deep", "_law_term"] ["_law_thing", "_law_terms"] (defScope s__law_right) := ⟨rfl, rfl, rfl, by decide +kernel, rfl, by decide +kernel, by decide +kernel⟩
theorem sc__law_exchanged : FnScope ["_law_named_here", "_law_table", "_law_one"] ["_law_named_here", "_law_table"] (defScope s__law_exchanged) := ⟨rfl, rfl, rfl, by decide +kernel, rfl, by decide +kernel, by decide +kernel⟩
theorem sc__law_begun : FnScope begunN ["_law_script"] (defScope s__law_begun) := ⟨rfl, rfl, rfl, by decide +kernel, rfl, by decide +kernel, by decide +kernel⟩
theorem sc_law : FnScope ["_law_script", "_law_m", "_law_k", "_law_thing", "_law_terms"] ["_law_script"] (defScope s_law) := ⟨rfl, rfl, rfl, by decide +kernel, rfl, by decide +kernel, by decide +kernel⟩
/-- what the top has written -/
structure Tt (K : PySem.W.Frag) (mg : Str → Option Value) (C_BadGround C_BadRoom C_BadText C_GroundError C_NoStep C_NoText C_NotDone C_TooMany tC : Addr) : Prop where
  within : FnIn K mg "within" s_within ["thing"] []
  parts_of : FnIn K mg "parts_of" s_parts_of ["thing"] []
  deep_of : FnIn K mg "deep_of" s_deep_of ["thing"] []
  lifted : FnIn K mg "lifted" s_lifted ["thing", "many", "above"] [V.int 0]
  term_for : FnIn K mg "term_for" s_term_for ["terms", "number"] []
  need_fit : FnIn K mg "need_fit" s_need_fit ["thing", "terms"] []
  put : FnIn K mg "put" s_put ["thing", "terms", "bound"] []
  put_in : FnIn K mg "put_in" s_put_in ["thing", "terms"] []
  _law_next : FnIn K mg "_law_next" s__law_next ["_law_m", "_law_many"] []
  _law_free_term : FnIn K mg "_law_free_term" s__law_free_term ["_law_m", "_law_many", "_law_deep"] []
  _law_free_statement : FnIn K mg "_law_free_statement" s__law_free_statement ["_law_m", "_law_many", "_law_deep"] []
  _law_inside : FnIn K mg "_law_inside" s__law_inside ["_law_thing"] []
  _law_counted : FnIn K mg "_law_counted" s__law_counted ["_law_thing"] []
  _law_named : FnIn K mg "_law_named" s__law_named ["_law_thing", "_law_binders"] []
  _law_bush : FnIn K mg "_law_bush" s__law_bush ["_law_many"] []
  _law_tower : FnIn K mg "_law_tower" s__law_tower ["_law_long"] []
  _law_chain : FnIn K mg "_law_chain" s__law_chain ["_law_long"] []
  _law_drawn : FnIn K mg "_law_drawn" s__law_drawn ["_law_m"] []
  _law_told : FnIn K mg "_law_told" s__law_told ["_law_thing", "_law_terms"] []
  _law_right : FnInC K mg "_law_right" s__law_right ["_law_thing", "_law_terms"] [] tC
  _law_exchanged : FnIn K mg "_law_exchanged" s__law_exchanged ["_law_named_here", "_law_table"] []
  _law_begun : FnIn K mg "_law_begun" s__law_begun ["_law_script"] []
  b_ValueError : mg "ValueError" = none
  b_int : mg "int" = none
  b_isinstance : mg "isinstance" = none
  b_len : mg "len" = none
  b_list : mg "list" = none
  b_max : mg "max" = none
  b_min : mg "min" = none
  b_range : mg "range" = none
  b_repr : mg "repr" = none
  b_sum : mg "sum" = none
  b_tuple : mg "tuple" = none
  c_BOUND : GlD K mg "BOUND" c_BOUND
  c_CALLED : GlD K mg "CALLED" c_CALLED
  c_JOINED : GlD K mg "JOINED" c_JOINED
  c_MOST_FOUND : GlD K mg "MOST_FOUND" c_MOST_FOUND
  c_MOST_FOUND_DEEP : GlD K mg "MOST_FOUND_DEEP" c_MOST_FOUND_DEEP
  g_BadGround : mg "BadGround" = some (.ref C_BadGround)
  g_BadRoom : mg "BadRoom" = some (.ref C_BadRoom)
  g_BadText : mg "BadText" = some (.ref C_BadText)
  g_GroundError : mg "GroundError" = some (.ref C_GroundError)
  g_NoStep : mg "NoStep" = some (.ref C_NoStep)
  g_NoText : mg "NoText" = some (.ref C_NoText)
  g_NotDone : mg "NotDone" = some (.ref C_NotDone)
  g_TooMany : mg "TooMany" = some (.ref C_TooMany)
  x_TooMany : XF K mg "TooMany" C_TooMany
  ec_TooMany : ExcC K C_TooMany
  e_GroundError_TooMany : PySem.W.exmOne K (.ref C_TooMany) (.ref C_GroundError) = some true
  k_BadGround_BadRoom_BadText_NoStep_NoText_NotDone_TooMany : PySem.W.kitAny K (.ref C_TooMany) [.ref C_BadGround, .ref C_BadRoom, .ref C_BadText, .ref C_NoStep, .ref C_NoText, .ref C_NotDone] = some false
  k_TooMany_TooMany : PySem.W.kitOne K (.ref C_TooMany) (.ref C_TooMany) = some true
  k_ValueError_TooMany : PySem.W.kitOne K (.ref C_TooMany) (.type "ValueError") = some true
section
variable [TP]
structure Tx (P : Program) (w : World) (K : PySem.W.Frag) (mg : Str → Option Value) (base : Heap) (n : Nat) : Prop where
  within : FnAt (MT [(TP.p, lamL.qual)]) P w K mg base (xrK K) n "within" ["thing"] [] (mir n .within)
  parts_of : FnAt (MT [(TP.p, lamL.qual)]) P w K mg base (xrK K) n "parts_of" ["thing"] [] (mir n .parts_of)
  deep_of : FnAt (MT [(TP.p, lamL.qual)]) P w K mg base (xrK K) n "deep_of" ["thing"] [] (mir n .deep_of)
  lifted : FnAt (MT [(TP.p, lamL.qual)]) P w K mg base (xrK K) n "lifted" ["thing", "many", "above"] [V.int 0] (mir n .lifted)
  term_for : FnAt (MT [(TP.p, lamL.qual)]) P w K mg base (xrK K) n "term_for" ["terms", "number"] [] (mir n .term_for)
  need_fit : FnAt (MT [(TP.p, lamL.qual)]) P w K mg base (xrK K) n "need_fit" ["thing", "terms"] [] (mir n .need_fit)
  put : FnAt (MT [(TP.p, lamL.qual)]) P w K mg base (xrK K) n "put" ["thing", "terms", "bound"] [] (mir n .put)
  put_in : FnAt (MT [(TP.p, lamL.qual)]) P w K mg base (xrK K) n "put_in" ["thing", "terms"] [] (mir n .put_in)
  _law_next : FnAt (MT [(TP.p, lamL.qual)]) P w K mg base (xrK K) n "_law_next" ["_law_m", "_law_many"] [] (mir n ._law_next)
  _law_free_term : FnAt (MT [(TP.p, lamL.qual)]) P w K mg base (xrK K) n "_law_free_term" ["_law_m", "_law_many", "_law_deep"] [] (mir n ._law_free_term)
  _law_free_statement : FnAt (MT [(TP.p, lamL.qual)]) P w K mg base (xrK K) n "_law_free_statement" ["_law_m", "_law_many", "_law_deep"] [] (mir n ._law_free_statement)
  _law_inside : FnAt (MT [(TP.p, lamL.qual)]) P w K mg base (xrK K) n "_law_inside" ["_law_thing"] [] (mir n ._law_inside)
  _law_counted : FnAt (MT [(TP.p, lamL.qual)]) P w K mg base (xrK K) n "_law_counted" ["_law_thing"] [] (mir n ._law_counted)
  _law_named : FnAt (MT [(TP.p, lamL.qual)]) P w K mg base (xrK K) n "_law_named" ["_law_thing", "_law_binders"] [] (mir n ._law_named)
  _law_bush : FnAt (MT [(TP.p, lamL.qual)]) P w K mg base (xrK K) n "_law_bush" ["_law_many"] [] (mir n ._law_bush)
  _law_tower : FnAt (MT [(TP.p, lamL.qual)]) P w K mg base (xrK K) n "_law_tower" ["_law_long"] [] (mir n ._law_tower)
  _law_chain : FnAt (MT [(TP.p, lamL.qual)]) P w K mg base (xrK K) n "_law_chain" ["_law_long"] [] (mir n ._law_chain)
  _law_drawn : FnAt (MT [(TP.p, lamL.qual)]) P w K mg base (xrK K) n "_law_drawn" ["_law_m"] [] (mir n ._law_drawn)
  _law_told : FnAt (MT [(TP.p, lamL.qual)]) P w K mg base (xrK K) n "_law_told" ["_law_thing", "_law_terms"] [] (mir n ._law_told)
  _law_right : FnAt (MT [(TP.p, lamL.qual)]) P w K mg base (xrK K) n "_law_right" ["_law_thing", "_law_terms"] [] (mir n ._law_right)
section
variable {P : Program} {w : World} {K : PySem.W.Frag} {mg : Str → Option Value} {base : Heap} {n : Nat} {C_BadGround C_BadRoom C_BadText C_GroundError C_NoStep C_NoText C_NotDone C_TooMany tC : Addr}
theorem d__law_next (T : Tt K mg C_BadGround C_BadRoom C_BadText C_GroundError C_NoStep C_NoText C_NotDone C_TooMany tC) {k : Nat} : FnAt (MT [(TP.p, lamL.qual)]) P w K mg base (xrK K) (k + 1) "_law_next" ["_law_m", "_law_many"] [] nextS := by
  obtain ⟨f, fd, hF, hb, hd, hm⟩ := T._law_next
  refine ⟨f, fd, okG hF sc__law_next (fun vs H Q E h => h.1) (fun cdv A outer s H vs Q E hr hgu h => ⟨t_next K, ?_, run_next h⟩), hb, hd, hF.kp, hm⟩
  have hu := hu_of hr
  exact pss_cons (ps_set (i := 2) sc__law_next.nd rfl (Or.inl rfl) (pe_dget hu (pv 0) pe_str (fun _ _ => rfl)))
    (pss_cons (ps_dput hu (pv 0) pe_str (pe_op op_add (pv 2) pe_int) rfl)
    (pss_cons (ps_set (i := 3) sc__law_next.nd rfl (Or.inl rfl) (pe_dget hu (pv 0) pe_str (fun _ _ => rfl)))
    (pss_cons (ps_set (i := 4) sc__law_next.nd rfl (Or.inl rfl) (pe_op op_mod (pv 2) (pe_callB (call_max2 rfl) (by rfl) T.b_max PyProof.Rows.boot_max (pa_cons pe_int (pa_cons (pe_callB call_len_seq (by rfl) T.b_len boot_len (pa_cons (pv 3) pa_nil)) pa_nil)))))
    (pss_cons (ps_if (PW.pt (pw_and (pt_cmpR (op_neD hr.units) (pv 3) (pe_lst pa_nil) (nomark _)) (pw_and1 (pt_cmpR op_gt (pe_ix ix_list (pe_dget hu (pv 0) pe_str (fun _ _ => rfl)) (pv 4) (fun _ _ => rfl)) pe_int (nomark _)))))
      (pss_cons (ps_set (i := 5) sc__law_next.nd rfl (Or.inl rfl) (pe_op op_mod (pe_ix ix_list (pe_dget hu (pv 0) pe_str (fun _ _ => rfl)) (pv 4) (fun _ _ => rfl)) (pv 1)))
      (pss_cons (ps_asg (pe_op op_fdiv (pe_ix ix_list (pe_dget hu (pv 0) pe_str (fun _ _ => rfl)) (pv 4) (fun _ _ => rfl)) (pv 1)) (pg_sub (pe_dget hu (pv 0) pe_str (fun _ _ => rfl)) (pv 4) set_list))
      (pss_one (ps_ret (pv 5))))) pss_nil)
    (pss_cons (ps_set (i := 6) sc__law_next.nd rfl (Or.inl rfl) pe_int)
    (pss_cons (ps_if (pt_cmpR (op_neD hr.units) (pv 3) (pe_lst pa_nil) (nomark _)) (pss_one (ps_set (i := 6) sc__law_next.nd rfl (Or.inl rfl) (pe_op op_mod (pe_ix ix_list (pv 3) (pv 4) (fun _ _ => rfl)) pe_int))) pss_nil)
    (pss_cons (ps_set (i := 7) sc__law_next.nd rfl (Or.inl rfl) (pe_op op_mod (pe_op op_mul (pe_op op_mod (pe_op op_mul (pe_op op_add (pe_op op_add (pv 6) (pe_op op_mul (pe_op op_mul pe_int (pv 2)) (pv 2))) (pe_op op_mul pe_int (pv 2))) pe_int) pe_int) pe_int) pe_int))
    (pss_one (ps_ret (pe_op op_mod (pe_op op_fdiv (pe_op op_mod (pe_op op_mul (pe_op op_fdiv (pv 7) pe_int) pe_int) pe_int) pe_int) (pv 1)))))))))))
theorem scL : NdefX.NScope ["_law_k", "_law_many", "_law_rows"] ["_law_k"] lamL.fr lamL.scope := NdefX.nscope_by (by decide +kernel)
theorem bindL : LamBind lamL ["_law_k"] := fun _ _ _ _ us hl => match us, hl with | [_], _ => rfl
theorem dL {k : Nat} {N : List Str} (nd : N.Nodup) : DE MU (fun _ => none) K (fun i : LIx (k + 7) lamL => lcx P w K mg base ["_law_k", "_law_many", "_law_rows"] i) W0 lamL.body m_lam := by
  have pL := pl_lam (P := P) (w := w) (K := K) (mg := mg) (base := base) (N := ["_law_k", "_law_many", "_law_rows"]) (n := k) (L := lamL) (by decide)
  exact (de_if (Cp.dt cp_lt (de_var 0) (de_var 1) (nomark _)) (de_ixA pL.toPl (de_var 2) (de_sub (de_sub (de_var 1) de_int) (de_var 0))) (de_tup (da_es de_str (da_es (de_sub (de_var 0) (de_var 1)) da_nil))))
theorem dX__law_exchanged (T : Tt K mg C_BadGround C_BadRoom C_BadText C_GroundError C_NoStep C_NoText C_NotDone C_TooMany tC) (HX : FnAt (ML lamL) P w K mg base (fun _ => none) n "_law_exchanged" ["_law_named_here", "_law_table"] [] (mirX n)) : FnAt (ML lamL) P w K mg base (fun _ => none) (n + 1) "_law_exchanged" ["_law_named_here", "_law_table"] [] (fnM 3 (m__law_exchanged (mirX n))) := by
  refine fnAt_succ T._law_exchanged sc__law_exchanged (fun f cdv A outer s Hp E hr hgu => ?_)
  have p := pc_def (P := P) (w := w) (K := K) (mg := mg) (base := base) (outer := outer) (H := Hp) (E := E) sc__law_exchanged hr hgu
  exact (dss_cons (ds_if (Cp.dt (cp_eq p.toPl) (de_ixA p.toPl (de_var 0) de_int) de_str (nomark _)) (dss_one (ds_ret (de_lamV (L := lamL) (NL := ["_law_k", "_law_many", "_law_rows"]) (ps := ["_law_k"]) (i := 1) p scL rfl bindL rfl (fun _ => by first | exact Or.inl rfl | exact Or.inr (Or.inl rfl) | exact Or.inr (Or.inr rfl)) (de_ixA p.toPl (de_var 0) de_int) (dL p.nd)))) dss_nil)
    (dss_cons (ds_if (Cp.dt (cp_eq p.toPl) (de_ixA p.toPl (de_var 0) de_int) de_str (nomark _)) (dss_one (ds_ret (de_var 0))) dss_nil)
    (dss_cons (ds_if (Cp.dt (cp_in p.toPl) (de_ixA p.toPl (de_var 0) de_int) (de_tup (da_es de_str (da_es de_str da_nil))) rfl) (dss_one (ds_ret (de_add p.toPl (de_sl p.toPl (de_var 0) do_none (do_some de_int)) (de_tup (da_es (de_fn p HX (da_es (de_ixA p.toPl (de_var 0) de_int) (da_es (de_var 1) da_nil)) (len_cons (len_cons (fun _ _ _ h => len_nil h)))) da_nil))))) dss_nil)
    (dss_cons (ds_if (Cp.dt (cp_in p.toPl) (de_ixA p.toPl (de_var 0) de_int) (de_tup (da_es de_str (da_es de_str da_nil))) rfl) (dss_one (ds_ret (de_add p.toPl (de_sl p.toPl (de_var 0) do_none (do_some de_int)) (de_tup (da_es (Fb.de (fb_tuple p.toPl) p.toPl T.b_tuple (da_rd (de_lc (own := [("_law_one", 2)]) p.c p.toPl.nds (fun _ => blkOk_by (N := ["_law_named_here", "_law_table", "_law_one"]) (sc := defScope s__law_exchanged) (by decide +kernel)) (di_any p.toPl (de_ixA p.toPl (de_var 0) de_int)) (dg_name (p.blk _).toPl.nds (fun _ => rfl) (fun _ => by first | exact Or.inl rfl | exact Or.inr rfl)) dts_nil (de_fn (p.blk _) HX (da_es (de_var 2) (da_es (de_var 1) da_nil)) (len_cons (len_cons (fun _ _ _ h => len_nil h))))) da_nil)) da_nil))))) dss_nil)
    (dss_one (ds_ret (de_add p.toPl (de_sl p.toPl (de_var 0) do_none (do_some de_int)) (Fb.de (fb_tuple p.toPl) p.toPl T.b_tuple (da_rd (de_lc (own := [("_law_one", 2)]) p.c p.toPl.nds (fun _ => blkOk_by (N := ["_law_named_here", "_law_table", "_law_one"]) (sc := defScope s__law_exchanged) (by decide +kernel)) (di_any p.toPl (de_sl p.toPl (de_var 0) (do_some de_int) do_none)) (dg_name (p.blk _).toPl.nds (fun _ => rfl) (fun _ => by first | exact Or.inl rfl | exact Or.inr rfl)) dts_nil (de_fn (p.blk _) HX (da_es (de_var 2) (da_es (de_var 1) da_nil)) (len_cons (len_cons (fun _ _ _ h => len_nil h))))) da_nil)))))))))
theorem hx_all (T : Tt K mg C_BadGround C_BadRoom C_BadText C_GroundError C_NoStep C_NoText C_NotDone C_TooMany tC) : ∀ n : Nat, FnAt (ML lamL) P w K mg base (fun _ => none) n "_law_exchanged" ["_law_named_here", "_law_table"] [] (mirX n)
  | 0 => fnAt_zero T._law_exchanged
  | n + 1 => dX__law_exchanged T (hx_all T n)
theorem d_within (T : Tt K mg C_BadGround C_BadRoom C_BadText C_GroundError C_NoStep C_NoText C_NotDone C_TooMany tC) (H : Tx P w K mg base n) : FnAt (MT [(TP.p, lamL.qual)]) P w K mg base (xrK K) (n + 1) "within" ["thing"] [] (fnM 1 (m_within (mir n))) := by
  refine fnAt_succ T.within sc_within (fun f cdv A outer s Hp E hr hgu => ?_)
  have p := pc_def (P := P) (w := w) (K := K) (mg := mg) (base := base) (outer := outer) (H := Hp) (E := E) sc_within hr hgu
  exact (dss_cons (ds_if (Cp.dt (cp_in p.toPl) (de_ixA p.toPl (de_var 0) de_int) (de_const p.toPl T.c_CALLED) rfl) (dss_one (ds_ret (Fb.de (fb_list p.toPl) p.toPl T.b_list (da_rd (de_ixA p.toPl (de_var 0) de_int) da_nil)))) dss_nil)
    (dss_cons (ds_if (Cp.dt (cp_in p.toPl) (de_ixA p.toPl (de_var 0) de_int) (de_const p.toPl T.c_JOINED) rfl) (dss_one (ds_ret (Fb.de (fb_list p.toPl) p.toPl T.b_list (da_rd (de_sl p.toPl (de_var 0) (do_some de_int) do_none) da_nil)))) dss_nil)
    (dss_one (ds_ret (de_if (Cp.dt (cp_in p.toPl) (de_ixA p.toPl (de_var 0) de_int) (de_const p.toPl T.c_BOUND) rfl) (de_lst (da_es (de_ixA p.toPl (de_var 0) de_int) da_nil)) (de_lst da_nil))))))
theorem d_parts_of (T : Tt K mg C_BadGround C_BadRoom C_BadText C_GroundError C_NoStep C_NoText C_NotDone C_TooMany tC) (H : Tx P w K mg base n) : FnAt (MT [(TP.p, lamL.qual)]) P w K mg base (xrK K) (n + 1) "parts_of" ["thing"] [] (fnM 3 (m_parts_of (mir n))) := by
  refine fnAt_succ T.parts_of sc_parts_of (fun f cdv A outer s Hp E hr hgu => ?_)
  have p := pc_def (P := P) (w := w) (K := K) (mg := mg) (base := base) (outer := outer) (H := Hp) (E := E) sc_parts_of hr hgu
  exact (dss_cons (ds_set (i := 1) p.toPl.nds (fun _ => rfl) (fun _ => by first | exact Or.inl rfl | exact Or.inr rfl) de_int)
    (dss_cons (ds_set (i := 2) p.toPl.nds (fun _ => rfl) (fun _ => by first | exact Or.inl rfl | exact Or.inr rfl) (de_lst (da_es (de_var 0) da_nil)))
    (dss_cons (ds_while whileN own_def (Cp.dt (cp_ne p.toPl) (de_var 2) (de_lst da_nil) (nomark _)) (dss_cons (ds_set (i := 1) p.toPl.nds (fun _ => rfl) (fun _ => by first | exact Or.inl rfl | exact Or.inr rfl) (de_add p.toPl (de_var 1) de_int))
    (dss_one (ds_expr (de_extend (i := 2) p.k (fun _ => rfl) (fun _ => by first | exact Or.inl rfl | exact Or.inr (Or.inl rfl) | exact Or.inr (Or.inr rfl)) (by decide) (by decide) (de_fn p H.within (da_es (de_pop (i := 2) p.k (fun _ => rfl) (fun _ => by first | exact Or.inl rfl | exact Or.inr (Or.inl rfl) | exact Or.inr (Or.inr rfl)) (by decide) (by decide)) da_nil) (len_cons (fun _ _ _ h => len_nil h))))))))
    (dss_one (ds_ret (de_var 1))))))
theorem d_deep_of (T : Tt K mg C_BadGround C_BadRoom C_BadText C_GroundError C_NoStep C_NoText C_NotDone C_TooMany tC) (H : Tx P w K mg base n) : FnAt (MT [(TP.p, lamL.qual)]) P w K mg base (xrK K) (n + 1) "deep_of" ["thing"] [] (fnM 6 (m_deep_of (mir n))) := by
  refine fnAt_succ T.deep_of sc_deep_of (fun f cdv A outer s Hp E hr hgu => ?_)
  have p := pc_def (P := P) (w := w) (K := K) (mg := mg) (base := base) (outer := outer) (H := Hp) (E := E) sc_deep_of hr hgu
  exact (dss_cons (ds_set (i := 1) p.toPl.nds (fun _ => rfl) (fun _ => by first | exact Or.inl rfl | exact Or.inr rfl) de_int)
    (dss_cons (ds_set (i := 2) p.toPl.nds (fun _ => rfl) (fun _ => by first | exact Or.inl rfl | exact Or.inr rfl) (de_lst (da_es (de_tup (da_es (de_var 0) (da_es de_int da_nil))) da_nil)))
    (dss_cons (ds_while whileN own_def (Cp.dt (cp_ne p.toPl) (de_var 2) (de_lst da_nil) (nomark _)) (dss_cons (ds_asg (de_pop (i := 2) p.k (fun _ => rfl) (fun _ => by first | exact Or.inl rfl | exact Or.inr (Or.inl rfl) | exact Or.inr (Or.inr rfl)) (by decide) (by decide)) (dg_tup p.k p.c (dgs_cons (dg_name p.toPl.nds (fun _ => rfl) (fun _ => by first | exact Or.inl rfl | exact Or.inr rfl)) (dgs_cons (dg_name p.toPl.nds (fun _ => rfl) (fun _ => by first | exact Or.inl rfl | exact Or.inr rfl)) dgs_nil))))
    (dss_cons (ds_set (i := 1) p.toPl.nds (fun _ => rfl) (fun _ => by first | exact Or.inl rfl | exact Or.inr rfl) (Fb.de (fb_max p.toPl) p.toPl T.b_max (da_rd (de_var 1) (da_rd (de_var 4) da_nil))))
    (dss_one (ds_expr (de_extend (i := 2) p.k (fun _ => rfl) (fun _ => by first | exact Or.inl rfl | exact Or.inr (Or.inl rfl) | exact Or.inr (Or.inr rfl)) (by decide) (by decide) (de_lc (own := [("part", 5)]) p.c p.toPl.nds (fun _ => blkOk_by (N := ["thing", "found", "waiting", "one", "deep", "part"]) (sc := defScope s_deep_of) (by decide +kernel)) (di_any p.toPl (de_fn p H.within (da_es (de_var 3) da_nil) (len_cons (fun _ _ _ h => len_nil h)))) (dg_name (p.blk _).toPl.nds (fun _ => rfl) (fun _ => by first | exact Or.inl rfl | exact Or.inr rfl)) dts_nil (de_tup (da_es (de_var 5) (da_es (de_add (p.blk _).toPl (de_var 4) de_int) da_nil))))))))))
    (dss_one (ds_ret (de_var 1))))))
theorem d_lifted (T : Tt K mg C_BadGround C_BadRoom C_BadText C_GroundError C_NoStep C_NoText C_NotDone C_TooMany tC) (H : Tx P w K mg base n) : FnAt (MT [(TP.p, lamL.qual)]) P w K mg base (xrK K) (n + 1) "lifted" ["thing", "many", "above"] [V.int 0] (fnM 5 (m_lifted (mir n))) := by
  refine fnAt_succ T.lifted sc_lifted (fun f cdv A outer s Hp E hr hgu => ?_)
  have p := pc_def (P := P) (w := w) (K := K) (mg := mg) (base := base) (outer := outer) (H := Hp) (E := E) sc_lifted hr hgu
  exact (dss_cons (ds_set (i := 3) p.toPl.nds (fun _ => rfl) (fun _ => by first | exact Or.inl rfl | exact Or.inr rfl) (de_ixA p.toPl (de_var 0) de_int))
    (dss_cons (ds_if (Cp.dt (cp_eq p.toPl) (de_var 3) de_str (nomark _)) (dss_one (ds_ret (de_if (Cp.dt cp_ge (de_ixA p.toPl (de_var 0) de_int) (de_var 2) (nomark _)) (de_tup (da_es de_str (da_es (de_add p.toPl (de_ixA p.toPl (de_var 0) de_int) (de_var 1)) da_nil))) (de_var 0)))) dss_nil)
    (dss_cons (ds_if (Cp.dt (cp_in p.toPl) (de_var 3) (de_const p.toPl T.c_CALLED) rfl) (dss_one (ds_ret (de_tup (da_es (de_var 3) (da_es (de_ixA p.toPl (de_var 0) de_int) (da_es (Fb.de (fb_tuple p.toPl) p.toPl T.b_tuple (da_rd (de_lc (own := [("one", 4)]) p.c p.toPl.nds (fun _ => blkOk_by (N := ["thing", "many", "above", "word", "one"]) (sc := defScope s_lifted) (by decide +kernel)) (di_any p.toPl (de_ixA p.toPl (de_var 0) de_int)) (dg_name (p.blk _).toPl.nds (fun _ => rfl) (fun _ => by first | exact Or.inl rfl | exact Or.inr rfl)) dts_nil (de_fn (p.blk _) H.lifted (da_es (de_var 4) (da_es (de_var 1) (da_es (de_var 2) da_nil))) (len_cons (len_cons (len_cons (fun _ _ _ h => len_nil h)))))) da_nil)) da_nil)))))) dss_nil)
    (dss_cons (ds_if (Cp.dt (cp_in p.toPl) (de_var 3) (de_const p.toPl T.c_JOINED) rfl) (dss_one (ds_ret (de_tup (da_es (de_var 3) (da_es (de_fn p H.lifted (da_es (de_ixA p.toPl (de_var 0) de_int) (da_es (de_var 1) (da_es (de_var 2) da_nil))) (len_cons (len_cons (len_cons (fun _ _ _ h => len_nil h))))) (da_es (de_fn p H.lifted (da_es (de_ixA p.toPl (de_var 0) de_int) (da_es (de_var 1) (da_es (de_var 2) da_nil))) (len_cons (len_cons (len_cons (fun _ _ _ h => len_nil h))))) da_nil)))))) dss_nil)
    (dss_one (ds_ret (de_if (Cp.dt (cp_in p.toPl) (de_var 3) (de_const p.toPl T.c_BOUND) rfl) (de_tup (da_es (de_var 3) (da_es (de_ixA p.toPl (de_var 0) de_int) (da_es (de_fn p H.lifted (da_es (de_ixA p.toPl (de_var 0) de_int) (da_es (de_var 1) (da_es (de_add p.toPl (de_var 2) de_int) da_nil))) (len_cons (len_cons (len_cons (fun _ _ _ h => len_nil h))))) da_nil)))) (de_var 0))))))))
theorem d_term_for (T : Tt K mg C_BadGround C_BadRoom C_BadText C_GroundError C_NoStep C_NoText C_NotDone C_TooMany tC) (H : Tx P w K mg base n) : FnAt (MT [(TP.p, lamL.qual)]) P w K mg base (xrK K) (n + 1) "term_for" ["terms", "number"] [] (fnM 2 (m_term_for (mir n))) := by
  refine fnAt_succ T.term_for sc_term_for (fun f cdv A outer s Hp E hr hgu => ?_)
  have p := pc_def (P := P) (w := w) (K := K) (mg := mg) (base := base) (outer := outer) (H := Hp) (E := E) sc_term_for hr hgu
  exact (dss_one (ds_ret (de_if (Cp.chainT cp_le cp_lt de_int (de_var 1) (Fb.de (fb_len p.toPl) p.toPl T.b_len (da_rd (de_var 0) da_nil))) (de_ixA p.toPl (de_var 0) (de_sub (de_sub (Fb.de (fb_len p.toPl) p.toPl T.b_len (da_rd (de_var 0) da_nil)) de_int) (de_var 1))) de_non)))
theorem d_need_fit (T : Tt K mg C_BadGround C_BadRoom C_BadText C_GroundError C_NoStep C_NoText C_NotDone C_TooMany tC) (H : Tx P w K mg base n) : FnAt (MT [(TP.p, lamL.qual)]) P w K mg base (xrK K) (n + 1) "need_fit" ["thing", "terms"] [] (fnM 12 (m_need_fit (mir n))) := by
  refine fnAt_succ T.need_fit sc_need_fit (fun f cdv A outer s Hp E hr hgu => ?_)
  have p := pc_def (P := P) (w := w) (K := K) (mg := mg) (base := base) (outer := outer) (H := Hp) (E := E) sc_need_fit hr hgu
  exact (dss_cons (ds_setLc (i := 2) (own := [("term", 10)]) p.c p.toPl.nds (fun _ => rfl) (fun _ => rfl) (fun _ => sw_true rfl rfl rfl (by decide +kernel)) (fun _ => blkOk_by (N := ["thing", "terms", "sizes", "many", "waiting", "one", "bound", "deep", "size", "more", "term", "part"]) (sc := defScope s_need_fit) (by decide +kernel)) (di_any p.toPl (de_var 1)) (dg_name (p.blk _).toPl.nds (fun _ => rfl) (fun _ => by first | exact Or.inl rfl | exact Or.inr rfl)) dts_nil (de_tup (da_es (de_fn (p.blk _) H.parts_of (da_es (de_var 10) da_nil) (len_cons (fun _ _ _ h => len_nil h))) (da_es (de_fn (p.blk _) H.deep_of (da_es (de_var 10) da_nil) (len_cons (fun _ _ _ h => len_nil h))) da_nil))))
    (dss_cons (ds_set (i := 3) p.toPl.nds (fun _ => rfl) (fun _ => by first | exact Or.inl rfl | exact Or.inr rfl) de_int)
    (dss_cons (ds_set (i := 4) p.toPl.nds (fun _ => rfl) (fun _ => by first | exact Or.inl rfl | exact Or.inr rfl) (de_lst (da_es (de_tup (da_es (de_var 0) (da_es de_int (da_es de_int da_nil)))) da_nil)))
    (dss_one (ds_while whileN own_def (Cp.dt (cp_ne p.toPl) (de_var 4) (de_lst da_nil) (nomark _)) (dss_cons (ds_asg (de_pop (i := 4) p.k (fun _ => rfl) (fun _ => by first | exact Or.inl rfl | exact Or.inr (Or.inl rfl) | exact Or.inr (Or.inr rfl)) (by decide) (by decide)) (dg_tup p.k p.c (dgs_cons (dg_name p.toPl.nds (fun _ => rfl) (fun _ => by first | exact Or.inl rfl | exact Or.inr rfl)) (dgs_cons (dg_name p.toPl.nds (fun _ => rfl) (fun _ => by first | exact Or.inl rfl | exact Or.inr rfl)) (dgs_cons (dg_name p.toPl.nds (fun _ => rfl) (fun _ => by first | exact Or.inl rfl | exact Or.inr rfl)) dgs_nil)))))
    (dss_cons (ds_set (i := 8) p.toPl.nds (fun _ => rfl) (fun _ => by first | exact Or.inl rfl | exact Or.inr rfl) de_non)
    (dss_cons (ds_if (Cp.dt (cp_eq p.toPl) (de_ixA p.toPl (de_var 5) de_int) de_str (nomark _)) (dss_one (ds_set (i := 8) p.toPl.nds (fun _ => rfl) (fun _ => by first | exact Or.inl rfl | exact Or.inr rfl) (de_fn p H.term_for (da_es (de_var 2) (da_es (de_sub (de_ixA p.toPl (de_var 5) de_int) (de_var 6)) da_nil)) (len_cons (len_cons (fun _ _ _ h => len_nil h)))))) dss_nil)
    (dss_cons (ds_if (Cp.dt cp_is (de_var 8) de_non (nomark _)) (dss_one (ds_set (i := 8) p.toPl.nds (fun _ => rfl) (fun _ => by first | exact Or.inl rfl | exact Or.inr rfl) (de_tup (da_es de_int (da_es de_int da_nil))))) dss_nil)
    (dss_cons (ds_set (i := 3) p.toPl.nds (fun _ => rfl) (fun _ => by first | exact Or.inl rfl | exact Or.inr rfl) (de_add p.toPl (de_var 3) (de_ixA p.toPl (de_var 8) de_int)))
    (dss_cons (ds_if (dt_w (dw_or (Cp.dt cp_gt (de_var 3) (de_const p.toPl T.c_MOST_FOUND) (nomark _)) (dw_or1 (Cp.dt cp_gt (de_add p.toPl (de_sub (de_var 7) de_int) (de_ixA p.toPl (de_var 8) de_int)) (de_const p.toPl T.c_MOST_FOUND_DEEP) (nomark _))))) (dss_one (ds_raise p (fun _ => takes_of rfl rfl rfl rfl) T.x_TooMany)) dss_nil)
    (dss_cons (ds_set (i := 9) p.toPl.nds (fun _ => rfl) (fun _ => by first | exact Or.inl rfl | exact Or.inr rfl) (Fb.de fb_int p.toPl T.b_int (da_rd (Cp.de (cp_in p.toPl) (de_ixA p.toPl (de_var 5) de_int) (de_const p.toPl T.c_BOUND) rfl) da_nil)))
    (dss_one (ds_expr (de_extend (i := 4) p.k (fun _ => rfl) (fun _ => by first | exact Or.inl rfl | exact Or.inr (Or.inl rfl) | exact Or.inr (Or.inr rfl)) (by decide) (by decide) (de_lc (own := [("part", 11)]) p.c p.toPl.nds (fun _ => blkOk_by (N := ["thing", "terms", "sizes", "many", "waiting", "one", "bound", "deep", "size", "more", "term", "part"]) (sc := defScope s_need_fit) (by decide +kernel)) (di_any p.toPl (de_fn p H.within (da_es (de_var 5) da_nil) (len_cons (fun _ _ _ h => len_nil h)))) (dg_name (p.blk _).toPl.nds (fun _ => rfl) (fun _ => by first | exact Or.inl rfl | exact Or.inr rfl)) dts_nil (de_tup (da_es (de_var 11) (da_es (de_add (p.blk _).toPl (de_var 6) (de_var 9)) (da_es (de_add (p.blk _).toPl (de_var 7) de_int) da_nil))))))))))))))))))))
theorem d_put (T : Tt K mg C_BadGround C_BadRoom C_BadText C_GroundError C_NoStep C_NoText C_NotDone C_TooMany tC) (H : Tx P w K mg base n) : FnAt (MT [(TP.p, lamL.qual)]) P w K mg base (xrK K) (n + 1) "put" ["thing", "terms", "bound"] [] (fnM 6 (m_put (mir n))) := by
  refine fnAt_succ T.put sc_put (fun f cdv A outer s Hp E hr hgu => ?_)
  have p := pc_def (P := P) (w := w) (K := K) (mg := mg) (base := base) (outer := outer) (H := Hp) (E := E) sc_put hr hgu
  exact (dss_cons (ds_set (i := 3) p.toPl.nds (fun _ => rfl) (fun _ => by first | exact Or.inl rfl | exact Or.inr rfl) (de_ixA p.toPl (de_var 0) de_int))
    (dss_cons (ds_if (Cp.dt (cp_eq p.toPl) (de_var 3) de_str (nomark _)) (dss_cons (ds_set (i := 4) p.toPl.nds (fun _ => rfl) (fun _ => by first | exact Or.inl rfl | exact Or.inr rfl) (de_fn p H.term_for (da_es (de_var 1) (da_es (de_sub (de_ixA p.toPl (de_var 0) de_int) (de_var 2)) da_nil)) (len_cons (len_cons (fun _ _ _ h => len_nil h)))))
    (dss_cons (ds_if (Cp.dt cp_isNot (de_var 4) de_non (nomark _)) (dss_one (ds_ret (de_fnD p H.lifted (fun _ => .int _) (da_es (de_var 4) (da_es (de_var 2) da_nil)) (fun z ss z1 h => congrArg (· + 1) ((len_cons (len_cons (fun _ _ _ h => len_nil h))) z ss z1 h))))) dss_nil)
    (dss_one (ds_ret (de_if (Cp.dt cp_lt (de_ixA p.toPl (de_var 0) de_int) (de_var 2) (nomark _)) (de_var 0) (de_tup (da_es de_str (da_es (de_sub (de_ixA p.toPl (de_var 0) de_int) (Fb.de (fb_len p.toPl) p.toPl T.b_len (da_rd (de_var 1) da_nil))) da_nil)))))))) dss_nil)
    (dss_cons (ds_if (Cp.dt (cp_in p.toPl) (de_var 3) (de_const p.toPl T.c_CALLED) rfl) (dss_one (ds_ret (de_tup (da_es (de_var 3) (da_es (de_ixA p.toPl (de_var 0) de_int) (da_es (Fb.de (fb_tuple p.toPl) p.toPl T.b_tuple (da_rd (de_lc (own := [("one", 5)]) p.c p.toPl.nds (fun _ => blkOk_by (N := ["thing", "terms", "bound", "word", "found", "one"]) (sc := defScope s_put) (by decide +kernel)) (di_any p.toPl (de_ixA p.toPl (de_var 0) de_int)) (dg_name (p.blk _).toPl.nds (fun _ => rfl) (fun _ => by first | exact Or.inl rfl | exact Or.inr rfl)) dts_nil (de_fn (p.blk _) H.put (da_es (de_var 5) (da_es (de_var 1) (da_es (de_var 2) da_nil))) (len_cons (len_cons (len_cons (fun _ _ _ h => len_nil h)))))) da_nil)) da_nil)))))) dss_nil)
    (dss_cons (ds_if (Cp.dt (cp_in p.toPl) (de_var 3) (de_const p.toPl T.c_JOINED) rfl) (dss_one (ds_ret (de_tup (da_es (de_var 3) (da_es (de_fn p H.put (da_es (de_ixA p.toPl (de_var 0) de_int) (da_es (de_var 1) (da_es (de_var 2) da_nil))) (len_cons (len_cons (len_cons (fun _ _ _ h => len_nil h))))) (da_es (de_fn p H.put (da_es (de_ixA p.toPl (de_var 0) de_int) (da_es (de_var 1) (da_es (de_var 2) da_nil))) (len_cons (len_cons (len_cons (fun _ _ _ h => len_nil h))))) da_nil)))))) dss_nil)
    (dss_one (ds_ret (de_if (Cp.dt (cp_in p.toPl) (de_var 3) (de_const p.toPl T.c_BOUND) rfl) (de_tup (da_es (de_var 3) (da_es (de_ixA p.toPl (de_var 0) de_int) (da_es (de_fn p H.put (da_es (de_ixA p.toPl (de_var 0) de_int) (da_es (de_var 1) (da_es (de_add p.toPl (de_var 2) de_int) da_nil))) (len_cons (len_cons (len_cons (fun _ _ _ h => len_nil h))))) da_nil)))) (de_var 0))))))))
theorem d_put_in (T : Tt K mg C_BadGround C_BadRoom C_BadText C_GroundError C_NoStep C_NoText C_NotDone C_TooMany tC) (H : Tx P w K mg base n) : FnAt (MT [(TP.p, lamL.qual)]) P w K mg base (xrK K) (n + 1) "put_in" ["thing", "terms"] [] (fnM 2 (m_put_in (mir n))) := by
  refine fnAt_succ T.put_in sc_put_in (fun f cdv A outer s Hp E hr hgu => ?_)
  have p := pc_def (P := P) (w := w) (K := K) (mg := mg) (base := base) (outer := outer) (H := Hp) (E := E) sc_put_in hr hgu
  exact (dss_cons (ds_expr (de_fn p H.need_fit (da_es (de_var 0) (da_es (de_var 1) da_nil)) (len_cons (len_cons (fun _ _ _ h => len_nil h)))))
    (dss_one (ds_ret (de_fn p H.put (da_es (de_var 0) (da_es (de_var 1) (da_es de_int da_nil))) (len_cons (len_cons (len_cons (fun _ _ _ h => len_nil h))))))))
theorem d__law_free_term (T : Tt K mg C_BadGround C_BadRoom C_BadText C_GroundError C_NoStep C_NoText C_NotDone C_TooMany tC) (H : Tx P w K mg base n) : FnAt (MT [(TP.p, lamL.qual)]) P w K mg base (xrK K) (n + 1) "_law_free_term" ["_law_m", "_law_many", "_law_deep"] [] (fnM 6 (m__law_free_term (mir n))) := by
  refine fnAt_succ T._law_free_term sc__law_free_term (fun f cdv A outer s Hp E hr hgu => ?_)
  have p := pc_def (P := P) (w := w) (K := K) (mg := mg) (base := base) (outer := outer) (H := Hp) (E := E) sc__law_free_term hr hgu
  exact (dss_cons (ds_set (i := 3) p.toPl.nds (fun _ => rfl) (fun _ => by first | exact Or.inl rfl | exact Or.inr rfl) (de_fn p H._law_next (da_es (de_var 0) (da_es de_int da_nil)) (len_cons (len_cons (fun _ _ _ h => len_nil h)))))
    (dss_cons (ds_if (dt_w (dw_and (Cp.dt cp_lt (de_var 3) de_int (nomark _)) (dw_and1 (Cp.dt cp_gt (de_var 1) de_int (nomark _))))) (dss_one (ds_ret (de_tup (da_es de_str (da_es (de_fn p H._law_next (da_es (de_var 0) (da_es (de_var 1) da_nil)) (len_cons (len_cons (fun _ _ _ h => len_nil h)))) da_nil))))) dss_nil)
    (dss_cons (ds_if (dt_w (dw_or (Cp.dt cp_lt (de_var 3) de_int (nomark _)) (dw_or1 (Cp.dt cp_lt (de_var 2) de_int (nomark _))))) (dss_one (ds_ret (de_tup (da_es de_str (da_es (de_ixA p.toPl de_str (de_fn p H._law_next (da_es (de_var 0) (da_es de_int da_nil)) (len_cons (len_cons (fun _ _ _ h => len_nil h))))) (da_es (de_tup da_nil) da_nil)))))) dss_nil)
    (dss_cons (ds_setLc (i := 4) (own := [("_law_k", 5)]) p.c p.toPl.nds (fun _ => rfl) (fun _ => rfl) (fun _ => sw_true rfl rfl rfl (by decide +kernel)) (fun _ => blkOk_by (N := ["_law_m", "_law_many", "_law_deep", "_law_way", "_law_some", "_law_k"]) (sc := defScope s__law_free_term) (by decide +kernel)) (di_range1 p.toPl T.b_range (da_rd (de_add p.toPl de_int (de_fn p H._law_next (da_es (de_var 0) (da_es de_int da_nil)) (len_cons (len_cons (fun _ _ _ h => len_nil h))))) da_nil)) (dg_name (p.blk _).toPl.nds (fun _ => rfl) (fun _ => by first | exact Or.inl rfl | exact Or.inr rfl)) dts_nil (de_fn (p.blk _) H._law_free_term (da_es (de_var 0) (da_es (de_var 1) (da_es (de_sub (de_var 2) de_int) da_nil))) (len_cons (len_cons (len_cons (fun _ _ _ h => len_nil h))))))
    (dss_one (ds_ret (de_tup (da_es de_str (da_es (de_ixA p.toPl de_str (de_fn p H._law_next (da_es (de_var 0) (da_es de_int da_nil)) (len_cons (len_cons (fun _ _ _ h => len_nil h))))) (da_es (Fb.de (fb_tuple p.toPl) p.toPl T.b_tuple (da_rd (de_var 4) da_nil)) da_nil))))))))))
theorem d__law_free_statement (T : Tt K mg C_BadGround C_BadRoom C_BadText C_GroundError C_NoStep C_NoText C_NotDone C_TooMany tC) (H : Tx P w K mg base n) : FnAt (MT [(TP.p, lamL.qual)]) P w K mg base (xrK K) (n + 1) "_law_free_statement" ["_law_m", "_law_many", "_law_deep"] [] (fnM 8 (m__law_free_statement (mir n))) := by
  refine fnAt_succ T._law_free_statement sc__law_free_statement (fun f cdv A outer s Hp E hr hgu => ?_)
  have p := pc_def (P := P) (w := w) (K := K) (mg := mg) (base := base) (outer := outer) (H := Hp) (E := E) sc__law_free_statement hr hgu
  exact (dss_cons (ds_set (i := 3) p.toPl.nds (fun _ => rfl) (fun _ => by first | exact Or.inl rfl | exact Or.inr rfl) (de_fn p H._law_next (da_es (de_var 0) (da_es de_int da_nil)) (len_cons (len_cons (fun _ _ _ h => len_nil h)))))
    (dss_cons (ds_if (dt_w (dw_or (Cp.dt cp_lt (de_var 2) de_int (nomark _)) (dw_or1 (Cp.dt cp_lt (de_var 3) de_int (nomark _))))) (dss_cons (ds_if (Cp.dt (cp_eq p.toPl) (de_var 3) de_int (nomark _)) (dss_one (ds_ret (de_tup (da_es de_str da_nil)))) dss_nil)
    (dss_cons (ds_if (Cp.dt (cp_eq p.toPl) (de_var 3) de_int (nomark _)) (dss_one (ds_ret (de_tup (da_es de_str (da_es (de_fn p H._law_free_term (da_es (de_var 0) (da_es (de_var 1) (da_es de_int da_nil))) (len_cons (len_cons (len_cons (fun _ _ _ h => len_nil h))))) (da_es (de_fn p H._law_free_term (da_es (de_var 0) (da_es (de_var 1) (da_es de_int da_nil))) (len_cons (len_cons (len_cons (fun _ _ _ h => len_nil h))))) da_nil)))))) dss_nil)
    (dss_cons (ds_setLc (i := 4) (own := [("_law_k", 7)]) p.c p.toPl.nds (fun _ => rfl) (fun _ => rfl) (fun _ => sw_true rfl rfl rfl (by decide +kernel)) (fun _ => blkOk_by (N := ["_law_m", "_law_many", "_law_deep", "_law_way", "_law_some", "_law_word", "_law_below", "_law_k"]) (sc := defScope s__law_free_statement) (by decide +kernel)) (di_range1 p.toPl T.b_range (da_rd (de_fn p H._law_next (da_es (de_var 0) (da_es de_int da_nil)) (len_cons (len_cons (fun _ _ _ h => len_nil h)))) da_nil)) (dg_name (p.blk _).toPl.nds (fun _ => rfl) (fun _ => by first | exact Or.inl rfl | exact Or.inr rfl)) dts_nil (de_fn (p.blk _) H._law_free_term (da_es (de_var 0) (da_es (de_var 1) (da_es de_int da_nil))) (len_cons (len_cons (len_cons (fun _ _ _ h => len_nil h))))))
    (dss_one (ds_ret (de_tup (da_es de_str (da_es (de_ixA p.toPl de_str (de_fn p H._law_next (da_es (de_var 0) (da_es de_int da_nil)) (len_cons (len_cons (fun _ _ _ h => len_nil h))))) (da_es (Fb.de (fb_tuple p.toPl) p.toPl T.b_tuple (da_rd (de_var 4) da_nil)) da_nil))))))))) dss_nil)
    (dss_cons (ds_if (Cp.dt cp_lt (de_var 3) de_int (nomark _)) (dss_cons (ds_set (i := 5) p.toPl.nds (fun _ => rfl) (fun _ => by first | exact Or.inl rfl | exact Or.inr rfl) (de_ixA p.toPl (de_lst (da_es de_str (da_es de_str (da_es de_str da_nil)))) (de_sub (de_var 3) de_int)))
    (dss_one (ds_ret (de_tup (da_es (de_var 5) (da_es (de_fn p H._law_free_statement (da_es (de_var 0) (da_es (de_var 1) (da_es (de_sub (de_var 2) de_int) da_nil))) (len_cons (len_cons (len_cons (fun _ _ _ h => len_nil h))))) (da_es (de_fn p H._law_free_statement (da_es (de_var 0) (da_es (de_var 1) (da_es (de_sub (de_var 2) de_int) da_nil))) (len_cons (len_cons (len_cons (fun _ _ _ h => len_nil h))))) da_nil))))))) dss_nil)
    (dss_cons (ds_set (i := 6) p.toPl.nds (fun _ => rfl) (fun _ => by first | exact Or.inl rfl | exact Or.inr rfl) (de_fn p H._law_free_statement (da_es (de_var 0) (da_es (de_add p.toPl (de_var 1) de_int) (da_es (de_sub (de_var 2) de_int) da_nil))) (len_cons (len_cons (len_cons (fun _ _ _ h => len_nil h))))))
    (dss_one (ds_ret (de_tup (da_es (de_ixA p.toPl (de_lst (da_es de_str (da_es de_str (da_es de_str da_nil)))) (de_sub (de_var 3) de_int)) (da_es (de_ixA p.toPl de_str (de_fn p H._law_next (da_es (de_var 0) (da_es de_int da_nil)) (len_cons (len_cons (fun _ _ _ h => len_nil h))))) (da_es (de_var 6) da_nil))))))))))
theorem d__law_inside (T : Tt K mg C_BadGround C_BadRoom C_BadText C_GroundError C_NoStep C_NoText C_NotDone C_TooMany tC) (H : Tx P w K mg base n) : FnAt (MT [(TP.p, lamL.qual)]) P w K mg base (xrK K) (n + 1) "_law_inside" ["_law_thing"] [] (fnM 1 (m__law_inside (mir n))) := by
  refine fnAt_succ T._law_inside sc__law_inside (fun f cdv A outer s Hp E hr hgu => ?_)
  have p := pc_def (P := P) (w := w) (K := K) (mg := mg) (base := base) (outer := outer) (H := Hp) (E := E) sc__law_inside hr hgu
  exact (dss_cons (ds_if (Cp.dt (cp_in p.toPl) (de_ixA p.toPl (de_var 0) de_int) (de_tup (da_es de_str (da_es de_str da_nil))) rfl) (dss_one (ds_ret (Fb.de (fb_list p.toPl) p.toPl T.b_list (da_rd (de_ixA p.toPl (de_var 0) de_int) da_nil)))) dss_nil)
    (dss_cons (ds_if (Cp.dt (cp_in p.toPl) (de_ixA p.toPl (de_var 0) de_int) (de_tup (da_es de_str (da_es de_str da_nil))) rfl) (dss_one (ds_ret (de_lst (da_es (de_ixA p.toPl (de_var 0) de_int) da_nil)))) dss_nil)
    (dss_one (ds_ret (de_if (Cp.dt (cp_in p.toPl) (de_ixA p.toPl (de_var 0) de_int) (de_tup (da_es de_str (da_es de_str (da_es de_str (da_es de_str da_nil))))) rfl) (Fb.de (fb_list p.toPl) p.toPl T.b_list (da_rd (de_sl p.toPl (de_var 0) (do_some de_int) do_none) da_nil)) (de_lst da_nil))))))
theorem d__law_counted (T : Tt K mg C_BadGround C_BadRoom C_BadText C_GroundError C_NoStep C_NoText C_NotDone C_TooMany tC) (H : Tx P w K mg base n) : FnAt (MT [(TP.p, lamL.qual)]) P w K mg base (xrK K) (n + 1) "_law_counted" ["_law_thing"] [] (fnM 4 (m__law_counted (mir n))) := by
  refine fnAt_succ T._law_counted sc__law_counted (fun f cdv A outer s Hp E hr hgu => ?_)
  have p := pc_def (P := P) (w := w) (K := K) (mg := mg) (base := base) (outer := outer) (H := Hp) (E := E) sc__law_counted hr hgu
  exact (dss_cons (ds_setLc (i := 1) (own := [("_law_one", 2)]) p.c p.toPl.nds (fun _ => rfl) (fun _ => rfl) (fun _ => sw_true rfl rfl rfl (by decide +kernel)) (fun _ => blkOk_by (N := ["_law_thing", "_law_rows", "_law_one", "_law_row"]) (sc := defScope s__law_counted) (by decide +kernel)) (di_any p.toPl (de_fn p H._law_inside (da_es (de_var 0) da_nil) (len_cons (fun _ _ _ h => len_nil h)))) (dg_name (p.blk _).toPl.nds (fun _ => rfl) (fun _ => by first | exact Or.inl rfl | exact Or.inr rfl)) dts_nil (de_fn (p.blk _) H._law_counted (da_es (de_var 2) da_nil) (len_cons (fun _ _ _ h => len_nil h))))
    (dss_one (ds_ret (de_tup (da_es (de_add p.toPl de_int (Fb.de (fb_sum p.toPl) p.toPl T.b_sum (da_rd (de_lc (own := [("_law_row", 3)]) p.c p.toPl.nds (fun _ => blkOk_by (N := ["_law_thing", "_law_rows", "_law_one", "_law_row"]) (sc := defScope s__law_counted) (by decide +kernel)) (di_any p.toPl (de_var 1)) (dg_name (p.blk _).toPl.nds (fun _ => rfl) (fun _ => by first | exact Or.inl rfl | exact Or.inr rfl)) dts_nil (de_ixA (p.blk _).toPl (de_var 3) de_int)) da_nil))) (da_es (de_add p.toPl de_int (Fb.de (fb_max p.toPl) p.toPl T.b_max (da_rd (de_add p.toPl (de_lst (da_es de_int da_nil)) (de_lc (own := [("_law_row", 3)]) p.c p.toPl.nds (fun _ => blkOk_by (N := ["_law_thing", "_law_rows", "_law_one", "_law_row"]) (sc := defScope s__law_counted) (by decide +kernel)) (di_any p.toPl (de_var 1)) (dg_name (p.blk _).toPl.nds (fun _ => rfl) (fun _ => by first | exact Or.inl rfl | exact Or.inr rfl)) dts_nil (de_ixA (p.blk _).toPl (de_var 3) de_int))) da_nil))) da_nil))))))
theorem d__law_named (T : Tt K mg C_BadGround C_BadRoom C_BadText C_GroundError C_NoStep C_NoText C_NotDone C_TooMany tC) (H : Tx P w K mg base n) : FnAt (MT [(TP.p, lamL.qual)]) P w K mg base (xrK K) (n + 1) "_law_named" ["_law_thing", "_law_binders"] [] (fnM 4 (m__law_named (mir n))) := by
  refine fnAt_succ T._law_named sc__law_named (fun f cdv A outer s Hp E hr hgu => ?_)
  have p := pc_def (P := P) (w := w) (K := K) (mg := mg) (base := base) (outer := outer) (H := Hp) (E := E) sc__law_named hr hgu
  exact (dss_cons (ds_if (Cp.dt (cp_eq p.toPl) (de_ixA p.toPl (de_var 0) de_int) de_str (nomark _)) (dss_cons (ds_set (i := 2) p.toPl.nds (fun _ => rfl) (fun _ => by first | exact Or.inl rfl | exact Or.inr rfl) (de_ixA p.toPl (de_var 0) de_int))
    (dss_one (ds_ret (de_if (Cp.dt cp_lt (de_var 2) (de_var 1) (nomark _)) (de_tup (da_es de_str (da_es (de_sub (de_sub (de_var 1) de_int) (de_var 2)) da_nil))) (de_tup (da_es de_str (da_es (de_sub (de_var 2) (de_var 1)) da_nil))))))) dss_nil)
    (dss_cons (ds_if (Cp.dt (cp_in p.toPl) (de_ixA p.toPl (de_var 0) de_int) (de_tup (da_es de_str (da_es de_str da_nil))) rfl) (dss_one (ds_ret (de_add p.toPl (de_sl p.toPl (de_var 0) do_none (do_some de_int)) (de_tup (da_es (de_fn p H._law_named (da_es (de_ixA p.toPl (de_var 0) de_int) (da_es (de_add p.toPl (de_var 1) de_int) da_nil)) (len_cons (len_cons (fun _ _ _ h => len_nil h)))) da_nil))))) dss_nil)
    (dss_cons (ds_if (Cp.dt (cp_in p.toPl) (de_ixA p.toPl (de_var 0) de_int) (de_tup (da_es de_str (da_es de_str da_nil))) rfl) (dss_one (ds_ret (de_add p.toPl (de_sl p.toPl (de_var 0) do_none (do_some de_int)) (de_tup (da_es (Fb.de (fb_tuple p.toPl) p.toPl T.b_tuple (da_rd (de_lc (own := [("_law_one", 3)]) p.c p.toPl.nds (fun _ => blkOk_by (N := ["_law_thing", "_law_binders", "_law_k", "_law_one"]) (sc := defScope s__law_named) (by decide +kernel)) (di_any p.toPl (de_ixA p.toPl (de_var 0) de_int)) (dg_name (p.blk _).toPl.nds (fun _ => rfl) (fun _ => by first | exact Or.inl rfl | exact Or.inr rfl)) dts_nil (de_fn (p.blk _) H._law_named (da_es (de_var 3) (da_es (de_var 1) da_nil)) (len_cons (len_cons (fun _ _ _ h => len_nil h))))) da_nil)) da_nil))))) dss_nil)
    (dss_one (ds_ret (de_add p.toPl (de_sl p.toPl (de_var 0) do_none (do_some de_int)) (Fb.de (fb_tuple p.toPl) p.toPl T.b_tuple (da_rd (de_lc (own := [("_law_one", 3)]) p.c p.toPl.nds (fun _ => blkOk_by (N := ["_law_thing", "_law_binders", "_law_k", "_law_one"]) (sc := defScope s__law_named) (by decide +kernel)) (di_any p.toPl (de_sl p.toPl (de_var 0) (do_some de_int) do_none)) (dg_name (p.blk _).toPl.nds (fun _ => rfl) (fun _ => by first | exact Or.inl rfl | exact Or.inr rfl)) dts_nil (de_fn (p.blk _) H._law_named (da_es (de_var 3) (da_es (de_var 1) da_nil)) (len_cons (len_cons (fun _ _ _ h => len_nil h))))) da_nil))))))))
theorem d__law_bush (T : Tt K mg C_BadGround C_BadRoom C_BadText C_GroundError C_NoStep C_NoText C_NotDone C_TooMany tC) (H : Tx P w K mg base n) : FnAt (MT [(TP.p, lamL.qual)]) P w K mg base (xrK K) (n + 1) "_law_bush" ["_law_many"] [] (fnM 1 (m__law_bush (mir n))) := by
  refine fnAt_succ T._law_bush sc__law_bush (fun f cdv A outer s Hp E hr hgu => ?_)
  have p := pc_def (P := P) (w := w) (K := K) (mg := mg) (base := base) (outer := outer) (H := Hp) (E := E) sc__law_bush hr hgu
  exact (dss_cons (ds_if (Cp.dt cp_lt (de_var 0) de_int (nomark _)) (dss_one (ds_ret (de_tup (da_es de_str (da_es (de_tup (da_es de_str (da_es de_int da_nil))) (da_es (de_tup (da_es de_str (da_es de_int da_nil))) da_nil)))))) dss_nil)
    (dss_one (ds_ret (de_tup (da_es de_str (da_es (de_fn p H._law_bush (da_es (de_fdiv (de_var 0) de_int) da_nil) (len_cons (fun _ _ _ h => len_nil h))) (da_es (de_fn p H._law_bush (da_es (de_sub (de_var 0) (de_fdiv (de_var 0) de_int)) da_nil) (len_cons (fun _ _ _ h => len_nil h))) da_nil)))))))
theorem d__law_tower (T : Tt K mg C_BadGround C_BadRoom C_BadText C_GroundError C_NoStep C_NoText C_NotDone C_TooMany tC) (H : Tx P w K mg base n) : FnAt (MT [(TP.p, lamL.qual)]) P w K mg base (xrK K) (n + 1) "_law_tower" ["_law_long"] [] (fnM 3 (m__law_tower (mir n))) := by
  refine fnAt_succ T._law_tower sc__law_tower (fun f cdv A outer s Hp E hr hgu => ?_)
  have p := pc_def (P := P) (w := w) (K := K) (mg := mg) (base := base) (outer := outer) (H := Hp) (E := E) sc__law_tower hr hgu
  exact (dss_cons (ds_set (i := 1) p.toPl.nds (fun _ => rfl) (fun _ => by first | exact Or.inl rfl | exact Or.inr rfl) (de_tup (da_es de_str (da_es de_int da_nil))))
    (dss_cons (ds_for own_def p.c (di_range1 p.toPl T.b_range (da_rd (de_var 0) da_nil)) (dg_name p.toPl.nds (fun _ => rfl) (fun _ => by first | exact Or.inl rfl | exact Or.inr rfl)) (dss_one (ds_set (i := 1) p.toPl.nds (fun _ => rfl) (fun _ => by first | exact Or.inl rfl | exact Or.inr rfl) (de_tup (da_es de_str (da_es de_str (da_es (de_tup (da_es (de_var 1) da_nil)) da_nil)))))))
    (dss_one (ds_ret (de_var 1)))))
theorem d__law_chain (T : Tt K mg C_BadGround C_BadRoom C_BadText C_GroundError C_NoStep C_NoText C_NotDone C_TooMany tC) (H : Tx P w K mg base n) : FnAt (MT [(TP.p, lamL.qual)]) P w K mg base (xrK K) (n + 1) "_law_chain" ["_law_long"] [] (fnM 3 (m__law_chain (mir n))) := by
  refine fnAt_succ T._law_chain sc__law_chain (fun f cdv A outer s Hp E hr hgu => ?_)
  have p := pc_def (P := P) (w := w) (K := K) (mg := mg) (base := base) (outer := outer) (H := Hp) (E := E) sc__law_chain hr hgu
  exact (dss_cons (ds_set (i := 1) p.toPl.nds (fun _ => rfl) (fun _ => by first | exact Or.inl rfl | exact Or.inr rfl) (de_tup (da_es de_str (da_es de_str (da_es (de_tup (da_es (de_tup (da_es de_str (da_es (de_var 0) da_nil))) da_nil)) da_nil)))))
    (dss_cons (ds_for own_def p.c (di_range1 p.toPl T.b_range (da_rd (de_var 0) da_nil)) (dg_name p.toPl.nds (fun _ => rfl) (fun _ => by first | exact Or.inl rfl | exact Or.inr rfl)) (dss_one (ds_set (i := 1) p.toPl.nds (fun _ => rfl) (fun _ => by first | exact Or.inl rfl | exact Or.inr rfl) (de_tup (da_es de_str (da_es de_str (da_es (de_var 1) da_nil)))))))
    (dss_one (ds_ret (de_var 1)))))
theorem d__law_drawn (T : Tt K mg C_BadGround C_BadRoom C_BadText C_GroundError C_NoStep C_NoText C_NotDone C_TooMany tC) (H : Tx P w K mg base n) : FnAt (MT [(TP.p, lamL.qual)]) P w K mg base (xrK K) (n + 1) "_law_drawn" ["_law_m"] [] (fnM 4 (m__law_drawn (mir n))) := by
  refine fnAt_succ T._law_drawn sc__law_drawn (fun f cdv A outer s Hp E hr hgu => ?_)
  have p := pc_def (P := P) (w := w) (K := K) (mg := mg) (base := base) (outer := outer) (H := Hp) (E := E) sc__law_drawn hr hgu
  exact (dss_cons (ds_set (i := 1) p.toPl.nds (fun _ => rfl) (fun _ => by first | exact Or.inl rfl | exact Or.inr rfl) (de_fn p H._law_next (da_es (de_var 0) (da_es de_int da_nil)) (len_cons (len_cons (fun _ _ _ h => len_nil h)))))
    (dss_cons (ds_setLc (i := 2) (own := [("_law_k", 3)]) p.c p.toPl.nds (fun _ => rfl) (fun _ => rfl) (fun _ => sw_true rfl rfl rfl (by decide +kernel)) (fun _ => blkOk_by (N := ["_law_m", "_law_way", "_law_terms", "_law_k"]) (sc := defScope s__law_drawn) (by decide +kernel)) (di_range1 p.toPl T.b_range (da_rd (de_fn p H._law_next (da_es (de_var 0) (da_es de_int da_nil)) (len_cons (len_cons (fun _ _ _ h => len_nil h)))) da_nil)) (dg_name (p.blk _).toPl.nds (fun _ => rfl) (fun _ => by first | exact Or.inl rfl | exact Or.inr rfl)) dts_nil (de_fn (p.blk _) H._law_free_term (da_es (de_var 0) (da_es (de_fn (p.blk _) H._law_next (da_es (de_var 0) (da_es de_int da_nil)) (len_cons (len_cons (fun _ _ _ h => len_nil h)))) (da_es de_int da_nil))) (len_cons (len_cons (len_cons (fun _ _ _ h => len_nil h))))))
    (dss_cons (ds_if (Cp.dt (cp_eq p.toPl) (de_var 1) de_int (nomark _)) (dss_one (ds_ret (de_tup (da_es (de_fn p H._law_bush (da_es (de_add p.toPl de_int (de_fn p H._law_next (da_es (de_var 0) (da_es de_int da_nil)) (len_cons (len_cons (fun _ _ _ h => len_nil h))))) da_nil) (len_cons (fun _ _ _ h => len_nil h))) (da_es (de_tup (da_es (de_fn p H._law_tower (da_es (de_fn p H._law_next (da_es (de_var 0) (da_es de_int da_nil)) (len_cons (len_cons (fun _ _ _ h => len_nil h)))) da_nil) (len_cons (fun _ _ _ h => len_nil h))) da_nil)) da_nil))))) dss_nil)
    (dss_cons (ds_if (Cp.dt (cp_eq p.toPl) (de_var 1) de_int (nomark _)) (dss_one (ds_ret (de_tup (da_es (de_fn p H._law_chain (da_es (de_fn p H._law_next (da_es (de_var 0) (da_es de_int da_nil)) (len_cons (len_cons (fun _ _ _ h => len_nil h)))) da_nil) (len_cons (fun _ _ _ h => len_nil h))) (da_es (de_tup (da_es (de_fn p H._law_tower (da_es (de_fn p H._law_next (da_es (de_var 0) (da_es de_int da_nil)) (len_cons (len_cons (fun _ _ _ h => len_nil h)))) da_nil) (len_cons (fun _ _ _ h => len_nil h))) da_nil)) da_nil))))) dss_nil)
    (dss_cons (ds_if (Cp.dt (cp_eq p.toPl) (de_var 1) de_int (nomark _)) (dss_one (ds_ret (de_tup (da_es (de_fn p H._law_free_term (da_es (de_var 0) (da_es (de_fn p H._law_next (da_es (de_var 0) (da_es de_int da_nil)) (len_cons (len_cons (fun _ _ _ h => len_nil h)))) (da_es de_int da_nil))) (len_cons (len_cons (len_cons (fun _ _ _ h => len_nil h))))) (da_es (Fb.de (fb_tuple p.toPl) p.toPl T.b_tuple (da_rd (de_var 2) da_nil)) da_nil))))) dss_nil)
    (dss_one (ds_ret (de_tup (da_es (de_fn p H._law_free_statement (da_es (de_var 0) (da_es (de_fn p H._law_next (da_es (de_var 0) (da_es de_int da_nil)) (len_cons (len_cons (fun _ _ _ h => len_nil h)))) (da_es (de_fn p H._law_next (da_es (de_var 0) (da_es de_int da_nil)) (len_cons (len_cons (fun _ _ _ h => len_nil h)))) da_nil))) (len_cons (len_cons (len_cons (fun _ _ _ h => len_nil h))))) (da_es (Fb.de (fb_tuple p.toPl) p.toPl T.b_tuple (da_rd (de_var 2) da_nil)) da_nil))))))))))
theorem d__law_told (T : Tt K mg C_BadGround C_BadRoom C_BadText C_GroundError C_NoStep C_NoText C_NotDone C_TooMany tC) (H : Tx P w K mg base n) : FnAt (MT [(TP.p, lamL.qual)]) P w K mg base (xrK K) (n + 1) "_law_told" ["_law_thing", "_law_terms"] [] (fnM 7 (m__law_told (mir n))) := by
  refine fnAt_succ T._law_told sc__law_told (fun f cdv A outer s Hp E hr hgu => ?_)
  have p := pc_def (P := P) (w := w) (K := K) (mg := mg) (base := base) (outer := outer) (H := Hp) (E := E) sc__law_told hr hgu
  exact (dss_cons (ds_set (i := 2) p.toPl.nds (fun _ => rfl) (fun _ => by first | exact Or.inl rfl | exact Or.inr rfl) de_non)
    (dss_cons (ds_set (i := 3) p.toPl.nds (fun _ => rfl) (fun _ => by first | exact Or.inl rfl | exact Or.inr rfl) de_non)
    (dss_cons (ds_catch (i := 4) (y := 2) p (fun _ => rfl) (fun _ => rfl) (fun _ => rfl) (fun _ => takes_of rfl rfl rfl rfl) (fun _ => rfl) (fun _ => rfl) (fun _ => rfl) (fun _ => rfl) (fun _ => rfl) (fun _ => ⟨rfl, by decide, .inl T.g_GroundError⟩) (tb1_ok ⟨C_TooMany, T.x_TooMany.xr, T.e_GroundError_TooMany⟩) (fun V => have pt := p.tr V; (dss_one (ds_set (i := 3) pt.toPl.nds (fun _ => rfl) (fun _ => by first | exact Or.inl rfl | exact Or.inr rfl) (de_fn pt H.put_in (da_es (de_var 0) (da_es (de_var 1) da_nil)) (len_cons (len_cons (fun _ _ _ h => len_nil h))))))))
    (dss_cons (ds_if (Cp.dt cp_is (de_var 2) de_non (nomark _)) (dss_one (ds_ret (de_var 3))) dss_nil)
    (dss_cons (ds_set (i := 5) p.toPl.nds (fun _ => rfl) (fun _ => by first | exact Or.inl rfl | exact Or.inr rfl) (de_isXT (vs := [.ref C_BadGround, .ref C_BadRoom, .ref C_BadText, .ref C_NoStep, .ref C_NoText, .ref C_NotDone]) p.toPl T.b_isinstance (by show 6 ≤ sizeLine; rw [sizeLine_eq]; decide) (fun _ => (pa_cons (pe_glob rfl T.g_BadGround rfl) (pa_cons (pe_glob rfl T.g_BadRoom rfl) (pa_cons (pe_glob rfl T.g_BadText rfl) (pa_cons (pe_glob rfl T.g_NoStep rfl) (pa_cons (pe_glob rfl T.g_NoText rfl) (pa_cons (pe_glob rfl T.g_NotDone rfl) pa_nil))))))) (fun ws h => vals_refs (as := [C_BadGround, C_BadRoom, C_BadText, C_NoStep, C_NoText, C_NotDone]) h) (tb1_ok ⟨C_TooMany, T.x_TooMany.xr, T.ec_TooMany, T.k_BadGround_BadRoom_BadText_NoStep_NoText_NotDone_TooMany⟩) (de_var 2)))
    (dss_cons (ds_set (i := 6) p.toPl.nds (fun _ => rfl) (fun _ => by first | exact Or.inl rfl | exact Or.inr rfl) (de_and (de_isX (vT := .ref C_TooMany) p.toPl T.b_isinstance (fun _ => pe_glob rfl T.g_TooMany rfl) (fun v h => h) (tb1_ok ⟨C_TooMany, T.x_TooMany.xr, T.ec_TooMany, T.k_TooMany_TooMany⟩) (de_var 2)) (de_and (de_isX (vT := .ty "ValueError") p.toPl T.b_isinstance (fun _ => pe_bltn rfl T.b_ValueError (by decide +kernel) rfl) (fun v h => h) (tb1_ok ⟨C_TooMany, T.x_TooMany.xr, T.ec_TooMany, T.k_ValueError_TooMany⟩) (de_var 2)) (de_one (de_not (de_var 5))))))
    (dss_one (ds_ret (de_if (dt_tru p.toPl (de_var 6)) de_str de_str)))))))))
theorem d__law_right (T : Tt K mg C_BadGround C_BadRoom C_BadText C_GroundError C_NoStep C_NoText C_NotDone C_TooMany tC) (tb : LamX.TabB base mg tC TP.p) (H : Tx P w K mg base n) : FnAt (MT [(TP.p, lamL.qual)]) P w K mg base (xrK K) (n + 1) "_law_right" ["_law_thing", "_law_terms"] [] (fnM 10 (m__law_right (mir n) (mirX n))) := by
  have HX := hx_all (P := P) (w := w) (base := base) T n
  refine fnAt_succC T._law_right sc__law_right (fun f A outer s Hp E hr hgu => ?_)
  have p := pc_def (P := P) (w := w) (K := K) (mg := mg) (base := base) (outer := outer) (H := Hp) (E := E) sc__law_right hr hgu
  exact (dss_cons (ds_set (i := 2) p.toPl.nds (fun _ => rfl) (fun _ => by first | exact Or.inl rfl | exact Or.inr rfl) (Fb.de (fb_len p.toPl) p.toPl T.b_len (da_rd (de_var 1) da_nil)))
    (dss_cons (ds_set (i := 3) p.toPl.nds (fun _ => rfl) (fun _ => by first | exact Or.inl rfl | exact Or.inr rfl) (de_lc (own := [("_law_term", 9)]) p.c p.toPl.nds (fun _ => blkOk_by (N := ["_law_thing", "_law_terms", "_law_many", "_law_rows", "_law_due", "_law_kept", "_law_found", "_law_parts", "_law_deep", "_law_term"]) (sc := defScope s__law_right) (by decide +kernel)) (di_any p.toPl (de_var 1)) (dg_name (p.blk _).toPl.nds (fun _ => rfl) (fun _ => by first | exact Or.inl rfl | exact Or.inr rfl)) dts_nil (de_fn (p.blk _) H._law_named (da_es (de_var 9) (da_es de_int da_nil)) (len_cons (len_cons (fun _ _ _ h => len_nil h))))))
    (dss_cons (ds_set (i := 4) p.toPl.nds (fun _ => rfl) (fun _ => by first | exact Or.inl rfl | exact Or.inr rfl) (de_lamC (L := lamL) (js := [2, 3]) (P := TP.p) (k := tC) p HX rfl (de_fn p H._law_named (da_es (de_var 0) (da_es de_int da_nil)) (len_cons (len_cons (fun _ _ _ h => len_nil h)))) tb (fun _ => rfl) (fun _ => rfl) (fun _ => rfl) (fun _ => NdefX.ndef_free (by decide +kernel : NdefX.ndefB (defScope s__law_right) lamL.scope lamL.fr = true)) (NdefX.ndef_fr (by decide +kernel : NdefX.ndefB (defScope s__law_right) lamL.scope lamL.fr = true)) (by decide) (fun _ _ => rfl)))
    (dss_cons (ds_set (i := 5) p.toPl.nds (fun _ => rfl) (fun _ => by first | exact Or.inl rfl | exact Or.inr rfl) (Fb.de (fb_repr p) p.toPl T.b_repr (da_rd (de_tup (da_es (de_var 0) (da_es (de_var 1) da_nil))) da_nil)))
    (dss_cons (ds_set (i := 6) p.toPl.nds (fun _ => rfl) (fun _ => by first | exact Or.inl rfl | exact Or.inr rfl) (de_fn p H._law_told (da_es (de_var 0) (da_es (de_var 1) da_nil)) (len_cons (len_cons (fun _ _ _ h => len_nil h)))))
    (dss_cons (ds_asg (de_fn p H._law_counted (da_es (de_var 4) da_nil) (len_cons (fun _ _ _ h => len_nil h))) (dg_tup p.k p.c (dgs_cons (dg_name p.toPl.nds (fun _ => rfl) (fun _ => by first | exact Or.inl rfl | exact Or.inr rfl)) (dgs_cons (dg_name p.toPl.nds (fun _ => rfl) (fun _ => by first | exact Or.inl rfl | exact Or.inr rfl)) dgs_nil))))
    (dss_cons (ds_if (dt_w (dw_or (Cp.dt cp_gt (de_var 7) de_int (nomark _)) (dw_or1 (Cp.dt cp_gt (de_var 8) de_int (nomark _))))) (dss_one (ds_ret (Cp.de (cp_eq p.toPl) (de_var 6) de_str (nomark _)))) dss_nil)
    (dss_one (ds_ret (de_and (de_isi p.toPl T.b_isinstance T.b_tuple PyProof.Rows.boot_tuple (de_var 6)) (de_and (Cp.de (cp_eq p.toPl) (Fb.de (fb_repr p) p.toPl T.b_repr (da_rd (de_fn p H._law_named (da_es (de_var 6) (da_es de_int da_nil)) (len_cons (len_cons (fun _ _ _ h => len_nil h)))) da_nil)) (Fb.de (fb_repr p) p.toPl T.b_repr (da_rd (de_var 4) da_nil)) (nomark _)) (de_one (Cp.de (cp_eq p.toPl) (Fb.de (fb_repr p) p.toPl T.b_repr (da_rd (de_tup (da_es (de_var 0) (da_es (de_var 1) da_nil))) da_nil)) (de_var 5) (nomark _))))))))))))))
theorem tx_zero (T : Tt K mg C_BadGround C_BadRoom C_BadText C_GroundError C_NoStep C_NoText C_NotDone C_TooMany tC) : Tx P w K mg base 0 := ⟨fnAt_zero T.within, fnAt_zero T.parts_of, fnAt_zero T.deep_of, fnAt_zero T.lifted, fnAt_zero T.term_for, fnAt_zero T.need_fit, fnAt_zero T.put, fnAt_zero T.put_in, fnAt_zero T._law_next, fnAt_zero T._law_free_term, fnAt_zero T._law_free_statement, fnAt_zero T._law_inside, fnAt_zero T._law_counted, fnAt_zero T._law_named, fnAt_zero T._law_bush, fnAt_zero T._law_tower, fnAt_zero T._law_chain, fnAt_zero T._law_drawn, fnAt_zero T._law_told, fnAt_zero T._law_right.in⟩
theorem tx_succ (T : Tt K mg C_BadGround C_BadRoom C_BadText C_GroundError C_NoStep C_NoText C_NotDone C_TooMany tC) (tb : LamX.TabB base mg tC TP.p) (H : Tx P w K mg base n) : Tx P w K mg base (n + 1) := ⟨d_within T H, d_parts_of T H, d_deep_of T H, d_lifted T H, d_term_for T H, d_need_fit T H, d_put T H, d_put_in T H, d__law_next T, d__law_free_term T H, d__law_free_statement T H, d__law_inside T H, d__law_counted T H, d__law_named T H, d__law_bush T H, d__law_tower T H, d__law_chain T H, d__law_drawn T H, d__law_told T H, d__law_right T tb H⟩
theorem tx_all (T : Tt K mg C_BadGround C_BadRoom C_BadText C_GroundError C_NoStep C_NoText C_NotDone C_TooMany tC) (tb : LamX.TabB base mg tC TP.p) : ∀ n : Nat, Tx P w K mg base n
  | 0 => tx_zero T
  | n + 1 => tx_succ T tb (tx_all T tb n)
theorem d__law_begun (T : Tt K mg C_BadGround C_BadRoom C_BadText C_GroundError C_NoStep C_NoText C_NotDone C_TooMany tC) {k : Nat} : ∃ f fd, FnG P w K mg base (L2.CX P w) (k + 1) f fd ["_law_script"] (spBegun K) ∧ Binds K fd ["_law_script"] [] ∧ PySem.W.keepIn K (.ref f) = true ∧ mg "_law_begun" = some (.ref f) := by
  obtain ⟨f, fd, hF, hb, _, hm⟩ := T._law_begun
  refine ⟨f, fd, okG hF sc__law_begun (fun vs H Q E h => by obtain ⟨a, ns, rfl, _⟩ := h; rfl) (fun cdv A outer s H vs Q E hr hgu h => ⟨t_begun K, ?_, run_begun h⟩), hb, hF.kp, hm⟩
  exact pss_cons (ps_set (i := 1) sc__law_begun.nd rfl (Or.inl rfl) (pe_slice sl_list (pv 0) po_none (po_some pe_int)))
    (pss_one (ps_ret (pe_disp (pps_cons pe_str (pv 1) (pps_cons pe_str pe_int (pps_cons pe_str
      (pe_lc (own := [("_law_cell", 2)]) (g := gName 2) (tt := tYes) rfl sc__law_begun.nd (pi_list (pv 1)) (blkOk_by (N := begunN) (sc := defScope s__law_begun) (by decide +kernel)) (fun _ _ _ _ _ => pg_name (i := 2) sc__law_begun.nd rfl (Or.inl rfl)) (fun _ _ _ _ _ => pts_nil)
        (fun _ _ _ _ _ => pe_op op_mul (pv 2) (pe_callTy call_int1 (by rfl) T.b_int PyProof.Rows.boot_int (pa_cons (pe_cmpR op_ge (pv 2) (pe_op op_pow pe_int pe_int) (nomark _)) pa_nil)))) pps_nil))) (by rfl) (by rfl) (fun z => by cases z) (by decide))))
theorem d_law (T : Tt K mg C_BadGround C_BadRoom C_BadText C_GroundError C_NoStep C_NoText C_NotDone C_TooMany tC) (tb : LamX.TabB base mg tC TP.p) {f : Addr} {fd : FuncData} (hF : FunD K "law" "law" (defArgs s_law) (defBody s_law) (defScope s_law) [] [] f fd)
    (hp : ∀ ns : List Int, ns.length ≤ 63 → (∀ z ∈ ns, Builtin.Int.intBits z ≤ 1048576) → ∃ z', m_law (mir lawLevel) (z0 3 ns) = .ok (.rt (.d (.bl true))) z') : FnG P w K mg base (L2.CX P w) (lawLevel + 9) f fd ["_law_script"] (fun vs H Q E => OnlyT TP.p H ∧ spLaw K vs H Q E) := by
  have H : Tx P w K mg base lawLevel := tx_all T tb lawLevel
  obtain ⟨f1, fd1, hF1, hb1, hk1, hm1⟩ := d__law_begun (P := P) (w := w) (base := base) T (k := lawLevel + 7)
  refine okG hF sc_law (fun vs H Q E h => by obtain ⟨_, a, ns, rfl, _⟩ := h; rfl) (fun cdv A outer s Hp vs Q E hr hgu h => ?_)
  have p := pc_def (P := P) (w := w) (K := K) (mg := mg) (base := base) (outer := outer) (H := Hp) (E := E) sc_law hr hgu
  obtain ⟨t, pt, ct⟩ : DSs (MT [(TP.p, lamL.qual)]) (xrK K) K (fun _ : Unit => cxOf (L2.CX P w) P w K mg base ["_law_script", "_law_m", "_law_k", "_law_thing", "_law_terms"] "law" (defScope s_law) f cdv A outer s Hp E) (fun cls d _ H => E cls d H) (defBody s_law).tail (m_law (mir lawLevel)) :=
    (dss_cons (ds_for own_def p.c (di_range1 p.toPl T.b_range (da_rd (Fb.de (fb_max p.toPl) p.toPl T.b_max (da_rd (de_add p.toPl de_int (de_fn p H._law_next (da_es (de_var 1) (da_es de_int da_nil)) (len_cons (len_cons (fun _ _ _ h => len_nil h))))) (da_rd (Fb.de (fb_min p.toPl) p.toPl T.b_min (da_rd de_int (da_rd (Fb.de (fb_len p.toPl) p.toPl T.b_len (da_rd (de_var 0) da_nil)) da_nil))) da_nil))) da_nil)) (dg_name p.toPl.nds (fun _ => rfl) (fun _ => by first | exact Or.inl rfl | exact Or.inr rfl)) (dss_cons (ds_asg (de_fn p H._law_drawn (da_es (de_var 1) da_nil) (len_cons (fun _ _ _ h => len_nil h))) (dg_tup p.k p.c (dgs_cons (dg_name p.toPl.nds (fun _ => rfl) (fun _ => by first | exact Or.inl rfl | exact Or.inr rfl)) (dgs_cons (dg_name p.toPl.nds (fun _ => rfl) (fun _ => by first | exact Or.inl rfl | exact Or.inr rfl)) dgs_nil))))
    (dss_one (ds_if (dt_not (dt_tru p.toPl (de_fn p H._law_right (da_es (de_var 3) (da_es (de_var 4) da_nil)) (len_cons (len_cons (fun _ _ _ h => len_nil h)))))) (dss_one (ds_ret de_bl)) dss_nil))))
    (dss_one (ds_ret de_bl)))
  exact ⟨_, pss_cons (ps_set (i := 1) sc_law.nd rfl (Or.inl rfl) (pe_callF hF1 hr hgu rfl hm1 hk1 hb1 (p.pass ()) (pa_cons (pv 0) pa_nil) (by decide) rfl rfl)) (pt ()), law_runT (N := ["_law_script", "_law_m", "_law_k", "_law_thing", "_law_terms"]) (by decide) hp ct (fun p hp => by
    have e : p = (TP.p, lamL.qual) := by simpa using hp
    subst e
    exact h.1) h.2⟩
end
end
/-! ### the end -/
theorem all_mk {l : PySem.W.OpenLaw} {w : World} {K : PySem.W.Frag} {h : Heap} {mg : Str → Option Value} {fa f0 f1 f2 f3 f4 f5 f6 f7 f8 f9 f10 f11 f12 f13 f14 f15 f16 f17 f18 f19 f20 f21 f22 : Addr} (X : K.In h) (G0 : h.Ns mainGlobals mg) (hfa : mg "law" = some (.ref fa))
    {od0 an0 od1 an1 od2 an2 od3 an3 od4 an4 od5 an5 od6 an6 od7 an7 od8 an8 od9 an9 od10 an10 od11 an11 od12 an12 od13 an13 od14 an14 od15 an15 od16 an16 od17 an17 od18 an18 od19 an19 od20 an20 od21 an21 od22 an22 : Option Addr} {sl0 sl1 sl2 sl3 sl4 sl5 sl6 sl7 sl8 sl9 sl10 sl11 sl12 sl13 sl14 sl15 sl16 sl17 sl18 sl19 sl20 sl21 sl22 : Array (Option Value)} {oc0 kV0 dc0 pm0 cd0 ct0 oc1 kV1 dc1 pm1 cd1 ct1 oc2 kV2 dc2 pm2 cd2 ct2 oc3 kV3 dc3 pm3 cd3 ct3 oc4 kV4 dc4 pm4 cd4 ct4 oc5 kV5 dc5 pm5 cd5 ct5 oc6 kV6 dc6 pm6 cd6 ct6 oc7 kV7 dc7 pm7 cd7 ct7 oc8 kV8 dc8 pm8 cd8 ct8 oc9 kV9 dc9 pm9 cd9 ct9 oc10 kV10 dc10 pm10 cd10 ct10 oc11 kV11 dc11 pm11 cd11 ct11 oc12 kV12 dc12 pm12 cd12 ct12 oc13 kV13 dc13 pm13 cd13 ct13 oc14 kV14 dc14 pm14 cd14 ct14 oc15 kV15 dc15 pm15 cd15 ct15 oc16 kV16 dc16 pm16 cd16 ct16 oc17 kV17 dc17 pm17 cd17 ct17 oc18 kV18 dc18 pm18 cd18 ct18 oc19 kV19 dc19 pm19 ct19 oc20 kV20 dc20 pm20 cd20 ct20 oc21 kV21 dc21 pm21 cd21 ct21 oc22 kV22 dc22 pm22 cd22 ct22 : Value}
    {tC tP : Addr} {ocT : Value} {odT : Option Addr} {usT : Array Value} {slT : Array (Option Value)}
    (a0 : PySem.W.nsIn K mainGlobals "within" = some (some (.ref f0))) (l0 : K.lookup f0 = some ⟨oc0, od0, .func (PySem.W.fnOf "within" "within" (defArgs s_within) (defBody s_within) (defScope s_within) .none kV0 dc0 pm0 an0 cd0 ct0), sl0⟩) (c0 : PySem.W.codeIn K cd0 "within" = true) (k0 : PySem.W.keepIn K (.ref f0) = true)
    (a1 : PySem.W.nsIn K mainGlobals "parts_of" = some (some (.ref f1))) (l1 : K.lookup f1 = some ⟨oc1, od1, .func (PySem.W.fnOf "parts_of" "parts_of" (defArgs s_parts_of) (defBody s_parts_of) (defScope s_parts_of) .none kV1 dc1 pm1 an1 cd1 ct1), sl1⟩) (c1 : PySem.W.codeIn K cd1 "parts_of" = true) (k1 : PySem.W.keepIn K (.ref f1) = true)
    (a2 : PySem.W.nsIn K mainGlobals "deep_of" = some (some (.ref f2))) (l2 : K.lookup f2 = some ⟨oc2, od2, .func (PySem.W.fnOf "deep_of" "deep_of" (defArgs s_deep_of) (defBody s_deep_of) (defScope s_deep_of) .none kV2 dc2 pm2 an2 cd2 ct2), sl2⟩) (c2 : PySem.W.codeIn K cd2 "deep_of" = true) (k2 : PySem.W.keepIn K (.ref f2) = true)
    {dT3 : Addr} {ocT3 : Value} {odT3 : Option Addr} {slT3 : Array (Option Value)} {tkT3 : Tok} {nT3 : Nat}
    (a3 : PySem.W.nsIn K mainGlobals "lifted" = some (some (.ref f3))) (l3 : K.lookup f3 = some ⟨oc3, od3, .func (PySem.W.fnOf "lifted" "lifted" (defArgs s_lifted) (defBody s_lifted) (defScope s_lifted) (.ref dT3) kV3 dc3 pm3 an3 cd3 ct3), sl3⟩) (c3 : PySem.W.codeIn K cd3 "lifted" = true) (k3 : PySem.W.keepIn K (.ref f3) = true)
    (lT3 : K.lookup dT3 = some ⟨ocT3, odT3, .seq #[.int 0 tkT3] nT3, slT3⟩)
    (a4 : PySem.W.nsIn K mainGlobals "term_for" = some (some (.ref f4))) (l4 : K.lookup f4 = some ⟨oc4, od4, .func (PySem.W.fnOf "term_for" "term_for" (defArgs s_term_for) (defBody s_term_for) (defScope s_term_for) .none kV4 dc4 pm4 an4 cd4 ct4), sl4⟩) (c4 : PySem.W.codeIn K cd4 "term_for" = true) (k4 : PySem.W.keepIn K (.ref f4) = true)
    (a5 : PySem.W.nsIn K mainGlobals "need_fit" = some (some (.ref f5))) (l5 : K.lookup f5 = some ⟨oc5, od5, .func (PySem.W.fnOf "need_fit" "need_fit" (defArgs s_need_fit) (defBody s_need_fit) (defScope s_need_fit) .none kV5 dc5 pm5 an5 cd5 ct5), sl5⟩) (c5 : PySem.W.codeIn K cd5 "need_fit" = true) (k5 : PySem.W.keepIn K (.ref f5) = true)
    (a6 : PySem.W.nsIn K mainGlobals "put" = some (some (.ref f6))) (l6 : K.lookup f6 = some ⟨oc6, od6, .func (PySem.W.fnOf "put" "put" (defArgs s_put) (defBody s_put) (defScope s_put) .none kV6 dc6 pm6 an6 cd6 ct6), sl6⟩) (c6 : PySem.W.codeIn K cd6 "put" = true) (k6 : PySem.W.keepIn K (.ref f6) = true)
    (a7 : PySem.W.nsIn K mainGlobals "put_in" = some (some (.ref f7))) (l7 : K.lookup f7 = some ⟨oc7, od7, .func (PySem.W.fnOf "put_in" "put_in" (defArgs s_put_in) (defBody s_put_in) (defScope s_put_in) .none kV7 dc7 pm7 an7 cd7 ct7), sl7⟩) (c7 : PySem.W.codeIn K cd7 "put_in" = true) (k7 : PySem.W.keepIn K (.ref f7) = true)
    (a8 : PySem.W.nsIn K mainGlobals "_law_next" = some (some (.ref f8))) (l8 : K.lookup f8 = some ⟨oc8, od8, .func (PySem.W.fnOf "_law_next" "_law_next" (defArgs s__law_next) (defBody s__law_next) (defScope s__law_next) .none kV8 dc8 pm8 an8 cd8 ct8), sl8⟩) (c8 : PySem.W.codeIn K cd8 "_law_next" = true) (k8 : PySem.W.keepIn K (.ref f8) = true)
    (a9 : PySem.W.nsIn K mainGlobals "_law_free_term" = some (some (.ref f9))) (l9 : K.lookup f9 = some ⟨oc9, od9, .func (PySem.W.fnOf "_law_free_term" "_law_free_term" (defArgs s__law_free_term) (defBody s__law_free_term) (defScope s__law_free_term) .none kV9 dc9 pm9 an9 cd9 ct9), sl9⟩) (c9 : PySem.W.codeIn K cd9 "_law_free_term" = true) (k9 : PySem.W.keepIn K (.ref f9) = true)
    (a10 : PySem.W.nsIn K mainGlobals "_law_free_statement" = some (some (.ref f10))) (l10 : K.lookup f10 = some ⟨oc10, od10, .func (PySem.W.fnOf "_law_free_statement" "_law_free_statement" (defArgs s__law_free_statement) (defBody s__law_free_statement) (defScope s__law_free_statement) .none kV10 dc10 pm10 an10 cd10 ct10), sl10⟩) (c10 : PySem.W.codeIn K cd10 "_law_free_statement" = true) (k10 : PySem.W.keepIn K (.ref f10) = true)
    (a11 : PySem.W.nsIn K mainGlobals "_law_inside" = some (some (.ref f11))) (l11 : K.lookup f11 = some ⟨oc11, od11, .func (PySem.W.fnOf "_law_inside" "_law_inside" (defArgs s__law_inside) (defBody s__law_inside) (defScope s__law_inside) .none kV11 dc11 pm11 an11 cd11 ct11), sl11⟩) (c11 : PySem.W.codeIn K cd11 "_law_inside" = true) (k11 : PySem.W.keepIn K (.ref f11) = true)
    (a12 : PySem.W.nsIn K mainGlobals "_law_counted" = some (some (.ref f12))) (l12 : K.lookup f12 = some ⟨oc12, od12, .func (PySem.W.fnOf "_law_counted" "_law_counted" (defArgs s__law_counted) (defBody s__law_counted) (defScope s__law_counted) .none kV12 dc12 pm12 an12 cd12 ct12), sl12⟩) (c12 : PySem.W.codeIn K cd12 "_law_counted" = true) (k12 : PySem.W.keepIn K (.ref f12) = true)
    (a13 : PySem.W.nsIn K mainGlobals "_law_named" = some (some (.ref f13))) (l13 : K.lookup f13 = some ⟨oc13, od13, .func (PySem.W.fnOf "_law_named" "_law_named" (defArgs s__law_named) (defBody s__law_named) (defScope s__law_named) .none kV13 dc13 pm13 an13 cd13 ct13), sl13⟩) (c13 : PySem.W.codeIn K cd13 "_law_named" = true) (k13 : PySem.W.keepIn K (.ref f13) = true)
    (a14 : PySem.W.nsIn K mainGlobals "_law_bush" = some (some (.ref f14))) (l14 : K.lookup f14 = some ⟨oc14, od14, .func (PySem.W.fnOf "_law_bush" "_law_bush" (defArgs s__law_bush) (defBody s__law_bush) (defScope s__law_bush) .none kV14 dc14 pm14 an14 cd14 ct14), sl14⟩) (c14 : PySem.W.codeIn K cd14 "_law_bush" = true) (k14 : PySem.W.keepIn K (.ref f14) = true)
    (a15 : PySem.W.nsIn K mainGlobals "_law_tower" = some (some (.ref f15))) (l15 : K.lookup f15 = some ⟨oc15, od15, .func (PySem.W.fnOf "_law_tower" "_law_tower" (defArgs s__law_tower) (defBody s__law_tower) (defScope s__law_tower) .none kV15 dc15 pm15 an15 cd15 ct15), sl15⟩) (c15 : PySem.W.codeIn K cd15 "_law_tower" = true) (k15 : PySem.W.keepIn K (.ref f15) = true)
    (a16 : PySem.W.nsIn K mainGlobals "_law_chain" = some (some (.ref f16))) (l16 : K.lookup f16 = some ⟨oc16, od16, .func (PySem.W.fnOf "_law_chain" "_law_chain" (defArgs s__law_chain) (defBody s__law_chain) (defScope s__law_chain) .none kV16 dc16 pm16 an16 cd16 ct16), sl16⟩) (c16 : PySem.W.codeIn K cd16 "_law_chain" = true) (k16 : PySem.W.keepIn K (.ref f16) = true)
    (a17 : PySem.W.nsIn K mainGlobals "_law_drawn" = some (some (.ref f17))) (l17 : K.lookup f17 = some ⟨oc17, od17, .func (PySem.W.fnOf "_law_drawn" "_law_drawn" (defArgs s__law_drawn) (defBody s__law_drawn) (defScope s__law_drawn) .none kV17 dc17 pm17 an17 cd17 ct17), sl17⟩) (c17 : PySem.W.codeIn K cd17 "_law_drawn" = true) (k17 : PySem.W.keepIn K (.ref f17) = true)
    (a18 : PySem.W.nsIn K mainGlobals "_law_told" = some (some (.ref f18))) (l18 : K.lookup f18 = some ⟨oc18, od18, .func (PySem.W.fnOf "_law_told" "_law_told" (defArgs s__law_told) (defBody s__law_told) (defScope s__law_told) .none kV18 dc18 pm18 an18 cd18 ct18), sl18⟩) (c18 : PySem.W.codeIn K cd18 "_law_told" = true) (k18 : PySem.W.keepIn K (.ref f18) = true)
    (a19 : PySem.W.nsIn K mainGlobals "_law_right" = some (some (.ref f19))) (l19 : K.lookup f19 = some ⟨oc19, od19, .func (PySem.W.fnOf "_law_right" "_law_right" (defArgs s__law_right) (defBody s__law_right) (defScope s__law_right) .none kV19 dc19 pm19 an19 (.ref tC) ct19), sl19⟩) (c19 : PySem.W.codeIn K (.ref tC) "_law_right" = true) (k19 : PySem.W.keepIn K (.ref f19) = true)
    (a20 : PySem.W.nsIn K mainGlobals "_law_exchanged" = some (some (.ref f20))) (l20 : K.lookup f20 = some ⟨oc20, od20, .func (PySem.W.fnOf "_law_exchanged" "_law_exchanged" (defArgs s__law_exchanged) (defBody s__law_exchanged) (defScope s__law_exchanged) .none kV20 dc20 pm20 an20 cd20 ct20), sl20⟩) (c20 : PySem.W.codeIn K cd20 "_law_exchanged" = true) (k20 : PySem.W.keepIn K (.ref f20) = true)
    (a21 : PySem.W.nsIn K mainGlobals "_law_begun" = some (some (.ref f21))) (l21 : K.lookup f21 = some ⟨oc21, od21, .func (PySem.W.fnOf "_law_begun" "_law_begun" (defArgs s__law_begun) (defBody s__law_begun) (defScope s__law_begun) .none kV21 dc21 pm21 an21 cd21 ct21), sl21⟩) (c21 : PySem.W.codeIn K cd21 "_law_begun" = true) (k21 : PySem.W.keepIn K (.ref f21) = true)
    (a22 : PySem.W.nsIn K mainGlobals "law" = some (some (.ref f22))) (l22 : K.lookup f22 = some ⟨oc22, od22, .func (PySem.W.fnOf "law" "law" (defArgs s_law) (defBody s_law) (defScope s_law) .none kV22 dc22 pm22 an22 cd22 ct22), sl22⟩) (c22 : PySem.W.codeIn K cd22 "law" = true) (k22 : PySem.W.keepIn K (.ref f22) = true)
    (z_ValueError : PySem.W.nsIn K mainGlobals "ValueError" = some none)
    (z_int : PySem.W.nsIn K mainGlobals "int" = some none)
    (z_isinstance : PySem.W.nsIn K mainGlobals "isinstance" = some none)
    (z_len : PySem.W.nsIn K mainGlobals "len" = some none)
    (z_list : PySem.W.nsIn K mainGlobals "list" = some none)
    (z_max : PySem.W.nsIn K mainGlobals "max" = some none)
    (z_min : PySem.W.nsIn K mainGlobals "min" = some none)
    (z_range : PySem.W.nsIn K mainGlobals "range" = some none)
    (z_repr : PySem.W.nsIn K mainGlobals "repr" = some none)
    (z_sum : PySem.W.nsIn K mainGlobals "sum" = some none)
    (z_tuple : PySem.W.nsIn K mainGlobals "tuple" = some none)
    {C_BadGround : Addr} (xa_BadGround : PySem.W.nsIn K mainGlobals "BadGround" = some (some (.ref C_BadGround)))
    {C_BadRoom : Addr} (xa_BadRoom : PySem.W.nsIn K mainGlobals "BadRoom" = some (some (.ref C_BadRoom)))
    {C_BadText : Addr} (xa_BadText : PySem.W.nsIn K mainGlobals "BadText" = some (some (.ref C_BadText)))
    {C_GroundError : Addr} (xa_GroundError : PySem.W.nsIn K mainGlobals "GroundError" = some (some (.ref C_GroundError)))
    {C_NoStep : Addr} (xa_NoStep : PySem.W.nsIn K mainGlobals "NoStep" = some (some (.ref C_NoStep)))
    {C_NoText : Addr} (xa_NoText : PySem.W.nsIn K mainGlobals "NoText" = some (some (.ref C_NoText)))
    {C_NotDone : Addr} (xa_NotDone : PySem.W.nsIn K mainGlobals "NotDone" = some (some (.ref C_NotDone)))
    {C_TooMany : Addr} (xa_TooMany : PySem.W.nsIn K mainGlobals "TooMany" = some (some (.ref C_TooMany)))
    (x1_TooMany : PySem.W.excIn K C_TooMany [.type "ValueError", .type "Exception", .type "BaseException", .type "object"] "ValueError.__new__" = true)
    (x2_TooMany : PySem.W.keepIn K (.ref C_TooMany) = true)
    (x3_TooMany : PySem.W.subIn K (.ref C_TooMany) (.type "BaseException") = some true)
    (x4_TooMany : PySem.W.typeIn K (.ref C_TooMany) = some (.type "type"))
    (y1_TooMany : PySem.W.findIn K (.ref C_TooMany) "__getattribute__" = some (some (.builtin "BaseException.__getattribute__")))
    (y2_TooMany : PySem.W.findIn K (.ref C_TooMany) "__getattr__" = some none)
    (y3_TooMany : PySem.W.hasDictIn K C_TooMany = true)
    (y4_TooMany : PySem.W.findIn K (.ref C_TooMany) "__class__" = some (some (.builtin "object.__class__")))
    (y5_TooMany : PySem.W.specialIn K (.builtin "object.__class__") "__get__" = some (some (.builtin "getset_descriptor.__get__")))
    (y6_TooMany : PySem.W.takesIn K (.builtin "object.__class__") = some true)
    (y7_TooMany : PySem.W.mroIn K C_TooMany (.type "object") = some true)
    (hT1 : K.lookup tC = some ⟨ocT, odT, .fields usT, slT⟩) (hT2 : usT[11]? = some (.ref tP)) (hT3 : PySem.W.codeHdIn K tC tP = true) (hT4 : K.lookup tP = none) (hT5 : h.get? tP = some { cls := .none, data := .fields #[] })
    (h1_BadGround : PySem.W.hasDictIn K C_BadGround = true)
    (h2_BadGround : PySem.W.typeIn K (.ref C_BadGround) = some (.type "type"))
    (h3_BadGround : PySem.W.subIn K (.ref C_BadGround) (.type "BaseException") = some true)
    (h1_BadRoom : PySem.W.hasDictIn K C_BadRoom = true)
    (h2_BadRoom : PySem.W.typeIn K (.ref C_BadRoom) = some (.type "type"))
    (h3_BadRoom : PySem.W.subIn K (.ref C_BadRoom) (.type "BaseException") = some true)
    (h1_BadText : PySem.W.hasDictIn K C_BadText = true)
    (h2_BadText : PySem.W.typeIn K (.ref C_BadText) = some (.type "type"))
    (h3_BadText : PySem.W.subIn K (.ref C_BadText) (.type "BaseException") = some true)
    (h1_GroundError : PySem.W.hasDictIn K C_GroundError = true)
    (h2_GroundError : PySem.W.typeIn K (.ref C_GroundError) = some (.type "type"))
    (h3_GroundError : PySem.W.subIn K (.ref C_GroundError) (.type "BaseException") = some true)
    (h1_NoStep : PySem.W.hasDictIn K C_NoStep = true)
    (h2_NoStep : PySem.W.typeIn K (.ref C_NoStep) = some (.type "type"))
    (h3_NoStep : PySem.W.subIn K (.ref C_NoStep) (.type "BaseException") = some true)
    (h1_NoText : PySem.W.hasDictIn K C_NoText = true)
    (h2_NoText : PySem.W.typeIn K (.ref C_NoText) = some (.type "type"))
    (h3_NoText : PySem.W.subIn K (.ref C_NoText) (.type "BaseException") = some true)
    (h1_NotDone : PySem.W.hasDictIn K C_NotDone = true)
    (h2_NotDone : PySem.W.typeIn K (.ref C_NotDone) = some (.type "type"))
    (h3_NotDone : PySem.W.subIn K (.ref C_NotDone) (.type "BaseException") = some true)
    (h1_TooMany : PySem.W.hasDictIn K C_TooMany = true)
    (h2_TooMany : PySem.W.typeIn K (.ref C_TooMany) = some (.type "type"))
    (h3_TooMany : PySem.W.subIn K (.ref C_TooMany) (.type "BaseException") = some true)
    (s_TooMany_BadGround : PySem.W.subIn K (.ref C_TooMany) (.ref C_BadGround) = some false)
    (ne_TooMany_BadGround : (Value.ref C_TooMany == Value.ref C_BadGround) = false)
    (s_TooMany_BadRoom : PySem.W.subIn K (.ref C_TooMany) (.ref C_BadRoom) = some false)
    (ne_TooMany_BadRoom : (Value.ref C_TooMany == Value.ref C_BadRoom) = false)
    (s_TooMany_BadText : PySem.W.subIn K (.ref C_TooMany) (.ref C_BadText) = some false)
    (ne_TooMany_BadText : (Value.ref C_TooMany == Value.ref C_BadText) = false)
    (s_TooMany_GroundError : PySem.W.subIn K (.ref C_TooMany) (.ref C_GroundError) = some true)
    (ne_TooMany_GroundError : (Value.ref C_TooMany == Value.ref C_GroundError) = false)
    (s_TooMany_NoStep : PySem.W.subIn K (.ref C_TooMany) (.ref C_NoStep) = some false)
    (ne_TooMany_NoStep : (Value.ref C_TooMany == Value.ref C_NoStep) = false)
    (s_TooMany_NoText : PySem.W.subIn K (.ref C_TooMany) (.ref C_NoText) = some false)
    (ne_TooMany_NoText : (Value.ref C_TooMany == Value.ref C_NoText) = false)
    (s_TooMany_NotDone : PySem.W.subIn K (.ref C_TooMany) (.ref C_NotDone) = some false)
    (ne_TooMany_NotDone : (Value.ref C_TooMany == Value.ref C_NotDone) = false)
    (s_TooMany_ValueError : PySem.W.subIn K (.ref C_TooMany) (.type "ValueError") = some true)
    {ca_BOUND : Addr} {dd_BOUND : Option Addr} {ss_BOUND : Array (Option Value)} {tk0_BOUND tk1_BOUND : Tok} {nn_BOUND : Nat} (g_BOUND : PySem.W.nsIn K mainGlobals "BOUND" = some (some (.ref ca_BOUND))) (gl_BOUND : K.lookup ca_BOUND = some ⟨.type "tuple", dd_BOUND, .seq #[.str "all" tk0_BOUND, .str "some" tk1_BOUND] nn_BOUND, ss_BOUND⟩)
    {ca_CALLED : Addr} {dd_CALLED : Option Addr} {ss_CALLED : Array (Option Value)} {tk0_CALLED tk1_CALLED : Tok} {nn_CALLED : Nat} (g_CALLED : PySem.W.nsIn K mainGlobals "CALLED" = some (some (.ref ca_CALLED))) (gl_CALLED : K.lookup ca_CALLED = some ⟨.type "tuple", dd_CALLED, .seq #[.str "call" tk0_CALLED, .str "rel" tk1_CALLED] nn_CALLED, ss_CALLED⟩)
    {ca_JOINED : Addr} {dd_JOINED : Option Addr} {ss_JOINED : Array (Option Value)} {tk0_JOINED tk1_JOINED tk2_JOINED tk3_JOINED : Tok} {nn_JOINED : Nat} (g_JOINED : PySem.W.nsIn K mainGlobals "JOINED" = some (some (.ref ca_JOINED))) (gl_JOINED : K.lookup ca_JOINED = some ⟨.type "tuple", dd_JOINED, .seq #[.str "same" tk0_JOINED, .str "and" tk1_JOINED, .str "or" tk2_JOINED, .str "if" tk3_JOINED] nn_JOINED, ss_JOINED⟩)
    {tk_MOST_FOUND : Tok} (g_MOST_FOUND : PySem.W.nsIn K mainGlobals "MOST_FOUND" = some (some (.int 4000 tk_MOST_FOUND)))
    {tk_MOST_FOUND_DEEP : Tok} (g_MOST_FOUND_DEEP : PySem.W.nsIn K mainGlobals "MOST_FOUND_DEEP" = some (some (.int 120 tk_MOST_FOUND_DEEP)))
    (hp : ∀ [TP], ∀ ns : List Int, ns.length ≤ 63 → (∀ z ∈ ns, Builtin.Int.intBits z ≤ 1048576) → ∃ z', m_law (mir lawLevel) (z0 3 ns) = .ok (.rt (.d (.bl true))) z') :
    ∃ (k P : Addr) (fd : FuncData) (sp : Sp), h.get? P = some { cls := .none, data := .fields #[] } ∧ K.lookup P = none ∧ PySem.W.CodeHd h k P ∧ (∀ (s : Shared) (v : Value), BindsTo s fd ⟨[v], []⟩ [("_law_script", v)]) ∧
      (∀ (H : Hp) (a : Addr) (ns : List Int), ns.length ≤ 63 → (∀ z ∈ ns, Builtin.Int.intBits z ≤ 1048576) → OnlyT P H → SqL K H a (ns.map V.int) → sp [.ref a] H (fun v _ => v = .bl true) fun _ _ _ => False) ∧
      ∀ base : Heap, K.In base → base.Ns mainGlobals mg → LamX.TabB base mg k P → FnG l.prog w K mg base (L2.CX l.prog w) (lawLevel + 9) fa fd ["_law_script"] sp := by
  have e := hfa.symm.trans (PySem.W.mg_of X G0 a22)
  cases e
  letI : TP := ⟨tP⟩
  have T : Tt K mg C_BadGround C_BadRoom C_BadText C_GroundError C_NoStep C_NoText C_NotDone C_TooMany tC := ⟨fnIn_mk X G0 a0 l0 c0 k0 (fun _ _ _ _ _ _ us hl => match us, hl with | [_], _ => rfl), fnIn_mk X G0 a1 l1 c1 k1 (fun _ _ _ _ _ _ us hl => match us, hl with | [_], _ => rfl), fnIn_mk X G0 a2 l2 c2 k2 (fun _ _ _ _ _ _ us hl => match us, hl with | [_], _ => rfl), fnIn_mkD X G0 a3 l3 c3 k3 lT3 (fun _ _ _ _ _ _ us its hl hi => match us, its, hl, hi with | [_, _, _], [_], _, _ => ⟨_, rfl, rfl⟩) (fun _ _ _ _ _ _ us its hl hi => match us, its, hl, hi with | [_, _], [_], _, _ => ⟨_, rfl, rfl⟩) (by decide), fnIn_mk X G0 a4 l4 c4 k4 (fun _ _ _ _ _ _ us hl => match us, hl with | [_, _], _ => rfl), fnIn_mk X G0 a5 l5 c5 k5 (fun _ _ _ _ _ _ us hl => match us, hl with | [_, _], _ => rfl), fnIn_mk X G0 a6 l6 c6 k6 (fun _ _ _ _ _ _ us hl => match us, hl with | [_, _, _], _ => rfl), fnIn_mk X G0 a7 l7 c7 k7 (fun _ _ _ _ _ _ us hl => match us, hl with | [_, _], _ => rfl), fnIn_mk X G0 a8 l8 c8 k8 (fun _ _ _ _ _ _ us hl => match us, hl with | [_, _], _ => rfl), fnIn_mk X G0 a9 l9 c9 k9 (fun _ _ _ _ _ _ us hl => match us, hl with | [_, _, _], _ => rfl), fnIn_mk X G0 a10 l10 c10 k10 (fun _ _ _ _ _ _ us hl => match us, hl with | [_, _, _], _ => rfl), fnIn_mk X G0 a11 l11 c11 k11 (fun _ _ _ _ _ _ us hl => match us, hl with | [_], _ => rfl), fnIn_mk X G0 a12 l12 c12 k12 (fun _ _ _ _ _ _ us hl => match us, hl with | [_], _ => rfl), fnIn_mk X G0 a13 l13 c13 k13 (fun _ _ _ _ _ _ us hl => match us, hl with | [_, _], _ => rfl), fnIn_mk X G0 a14 l14 c14 k14 (fun _ _ _ _ _ _ us hl => match us, hl with | [_], _ => rfl), fnIn_mk X G0 a15 l15 c15 k15 (fun _ _ _ _ _ _ us hl => match us, hl with | [_], _ => rfl), fnIn_mk X G0 a16 l16 c16 k16 (fun _ _ _ _ _ _ us hl => match us, hl with | [_], _ => rfl), fnIn_mk X G0 a17 l17 c17 k17 (fun _ _ _ _ _ _ us hl => match us, hl with | [_], _ => rfl), fnIn_mk X G0 a18 l18 c18 k18 (fun _ _ _ _ _ _ us hl => match us, hl with | [_, _], _ => rfl), fnIn_mkC X G0 a19 l19 c19 k19 (fun _ _ _ _ _ _ us hl => match us, hl with | [_, _], _ => rfl), fnIn_mk X G0 a20 l20 c20 k20 (fun _ _ _ _ _ _ us hl => match us, hl with | [_, _], _ => rfl), fnIn_mk X G0 a21 l21 c21 k21 (fun _ _ _ _ _ _ us hl => match us, hl with | [_], _ => rfl), PySem.W.mg_none_of X G0 z_ValueError, PySem.W.mg_none_of X G0 z_int, PySem.W.mg_none_of X G0 z_isinstance, PySem.W.mg_none_of X G0 z_len, PySem.W.mg_none_of X G0 z_list, PySem.W.mg_none_of X G0 z_max, PySem.W.mg_none_of X G0 z_min, PySem.W.mg_none_of X G0 z_range, PySem.W.mg_none_of X G0 z_repr, PySem.W.mg_none_of X G0 z_sum, PySem.W.mg_none_of X G0 z_tuple, glD_strs ["all", "some"] (PySem.W.mg_of X G0 g_BOUND) gl_BOUND rfl rfl (.cons ⟨_, rfl⟩ (.cons ⟨_, rfl⟩ .nil)) (by decide), glD_strs ["call", "rel"] (PySem.W.mg_of X G0 g_CALLED) gl_CALLED rfl rfl (.cons ⟨_, rfl⟩ (.cons ⟨_, rfl⟩ .nil)) (by decide), glD_strs ["same", "and", "or", "if"] (PySem.W.mg_of X G0 g_JOINED) gl_JOINED rfl rfl (.cons ⟨_, rfl⟩ (.cons ⟨_, rfl⟩ (.cons ⟨_, rfl⟩ (.cons ⟨_, rfl⟩ .nil)))) (by decide), ⟨.int 4000, _, PySem.W.mg_of X G0 g_MOST_FOUND, ⟨_, rfl⟩, fun _ => .int _⟩, ⟨.int 120, _, PySem.W.mg_of X G0 g_MOST_FOUND_DEEP, ⟨_, rfl⟩, fun _ => .int _⟩, PySem.W.mg_of X G0 xa_BadGround, PySem.W.mg_of X G0 xa_BadRoom, PySem.W.mg_of X G0 xa_BadText, PySem.W.mg_of X G0 xa_GroundError, PySem.W.mg_of X G0 xa_NoStep, PySem.W.mg_of X G0 xa_NoText, PySem.W.mg_of X G0 xa_NotDone, PySem.W.mg_of X G0 xa_TooMany, ⟨xa_TooMany, PySem.W.mg_of X G0 xa_TooMany, x1_TooMany, x2_TooMany, x3_TooMany, x4_TooMany⟩, ⟨y1_TooMany, y2_TooMany, x3_TooMany, y3_TooMany, y4_TooMany, y5_TooMany, y6_TooMany, y7_TooMany⟩, PySem.W.exm_ref h3_GroundError h1_GroundError h2_GroundError s_TooMany_GroundError, (any_no (kit_own h1_BadGround h2_BadGround s_TooMany_BadGround ne_TooMany_BadGround) (any_no (kit_own h1_BadRoom h2_BadRoom s_TooMany_BadRoom ne_TooMany_BadRoom) (any_no (kit_own h1_BadText h2_BadText s_TooMany_BadText ne_TooMany_BadText) (any_no (kit_own h1_NoStep h2_NoStep s_TooMany_NoStep ne_TooMany_NoStep) (any_no (kit_own h1_NoText h2_NoText s_TooMany_NoText ne_TooMany_NoText) (any_no (kit_own h1_NotDone h2_NotDone s_TooMany_NotDone ne_TooMany_NotDone) any_nil)))))), kit_self, (kit_blt (by decide +kernel) s_TooMany_ValueError)⟩
  exact ⟨tC, tP, PySem.W.fnOf "law" "law" (defArgs s_law) (defBody s_law) (defScope s_law) .none kV22 dc22 pm22 an22 cd22 ct22, fun vs H Q E => OnlyT tP H ∧ spLaw K vs H Q E, hT5, hT4, PySem.W.codeHd_of_K X hT3, fun s v => .of_eq rfl, fun H a ns hl hb hO hS => ⟨hO, a, ns, rfl, hS, hl, hb, fun _ => rfl⟩, fun base _ _ tb => d_law T tb (funD_mk (st := s_law) l22 c22 k22) hp⟩
end L
set_option pp.maxSteps 400
set_option pp.deepTerms false
namespace L
open PySem L2 G
variable [TP]
theorem wv_var : dEq (.str "var") (.str "var") = some (.d (.bl true)) := by kernel_rfl
theorem wc_var : dIn (.str "var") c_CALLED = some (.d (.bl false)) := by kernel_rfl
theorem wj_var : dIn (.str "var") c_JOINED = some (.d (.bl false)) := by kernel_rfl
theorem wb_var : dIn (.str "var") c_BOUND = some (.d (.bl false)) := by kernel_rfl
theorem wv_call : dEq (.str "call") (.str "var") = some (.d (.bl false)) := by kernel_rfl
theorem wc_call : dIn (.str "call") c_CALLED = some (.d (.bl true)) := by kernel_rfl
theorem wj_call : dIn (.str "call") c_JOINED = some (.d (.bl false)) := by kernel_rfl
theorem wb_call : dIn (.str "call") c_BOUND = some (.d (.bl false)) := by kernel_rfl
theorem wv_rel : dEq (.str "rel") (.str "var") = some (.d (.bl false)) := by kernel_rfl
theorem wc_rel : dIn (.str "rel") c_CALLED = some (.d (.bl true)) := by kernel_rfl
theorem wj_rel : dIn (.str "rel") c_JOINED = some (.d (.bl false)) := by kernel_rfl
theorem wb_rel : dIn (.str "rel") c_BOUND = some (.d (.bl false)) := by kernel_rfl
theorem wv_same : dEq (.str "same") (.str "var") = some (.d (.bl false)) := by kernel_rfl
theorem wc_same : dIn (.str "same") c_CALLED = some (.d (.bl false)) := by kernel_rfl
theorem wj_same : dIn (.str "same") c_JOINED = some (.d (.bl true)) := by kernel_rfl
theorem wb_same : dIn (.str "same") c_BOUND = some (.d (.bl false)) := by kernel_rfl
theorem wv_no : dEq (.str "no") (.str "var") = some (.d (.bl false)) := by kernel_rfl
theorem wc_no : dIn (.str "no") c_CALLED = some (.d (.bl false)) := by kernel_rfl
theorem wj_no : dIn (.str "no") c_JOINED = some (.d (.bl false)) := by kernel_rfl
theorem wb_no : dIn (.str "no") c_BOUND = some (.d (.bl false)) := by kernel_rfl
theorem wv_and : dEq (.str "and") (.str "var") = some (.d (.bl false)) := by kernel_rfl
theorem wc_and : dIn (.str "and") c_CALLED = some (.d (.bl false)) := by kernel_rfl
theorem wj_and : dIn (.str "and") c_JOINED = some (.d (.bl true)) := by kernel_rfl
theorem wb_and : dIn (.str "and") c_BOUND = some (.d (.bl false)) := by kernel_rfl
theorem wv_or : dEq (.str "or") (.str "var") = some (.d (.bl false)) := by kernel_rfl
theorem wc_or : dIn (.str "or") c_CALLED = some (.d (.bl false)) := by kernel_rfl
theorem wj_or : dIn (.str "or") c_JOINED = some (.d (.bl true)) := by kernel_rfl
theorem wb_or : dIn (.str "or") c_BOUND = some (.d (.bl false)) := by kernel_rfl
theorem wv_if : dEq (.str "if") (.str "var") = some (.d (.bl false)) := by kernel_rfl
theorem wc_if : dIn (.str "if") c_CALLED = some (.d (.bl false)) := by kernel_rfl
theorem wj_if : dIn (.str "if") c_JOINED = some (.d (.bl true)) := by kernel_rfl
theorem wb_if : dIn (.str "if") c_BOUND = some (.d (.bl false)) := by kernel_rfl
theorem wv_all : dEq (.str "all") (.str "var") = some (.d (.bl false)) := by kernel_rfl
theorem wc_all : dIn (.str "all") c_CALLED = some (.d (.bl false)) := by kernel_rfl
theorem wj_all : dIn (.str "all") c_JOINED = some (.d (.bl false)) := by kernel_rfl
theorem wb_all : dIn (.str "all") c_BOUND = some (.d (.bl true)) := by kernel_rfl
theorem wv_some : dEq (.str "some") (.str "var") = some (.d (.bl false)) := by kernel_rfl
theorem wc_some : dIn (.str "some") c_CALLED = some (.d (.bl false)) := by kernel_rfl
theorem wj_some : dIn (.str "some") c_JOINED = some (.d (.bl false)) := by kernel_rfl
theorem wb_some : dIn (.str "some") c_BOUND = some (.d (.bl true)) := by kernel_rfl
local macro_rules | `(tactic| walk_at "ex") => `(tactic| try simp only [sSeq, sSet, sExpr, sRet, sIf, sAsg, una, escf, escS, opd, eVar, eC, eBin, eUn, eFn, eCall, eTup, eLst, aCons, aNil, fin, rd, rds, R.toS, dsOf, Rs.bind_ok, Rs.bind_bad, Rs.bind_ex, Rs.opt_some, Option.bind_some, Option.map_some, ownAt, eExt, eApp, ePop, List.getElem?_cons_zero, List.getElem?_cons_succ, List.set_cons_zero, List.set_cons_succ, okArg, List.all_cons, List.all_nil, Bool.and_self, if_true, kName, kTup, ksCons, ksNil, fMax, tOf, List.length_cons, List.length_nil, Bool.not_false, Bool.not_true, if_false, Bool.false_eq_true, lm0, lm1, lm2, lm3, lm4, lm5, lm6, lm7, lm8, lm9, lm10, lm11, lm12, fnM, List.map_cons, List.map_nil, List.replicate, List.cons_append, List.nil_append, Nat.reduceAdd, Nat.reduceSub, sNil, tAndM, tOrM, tNotM, tTru, dTru, eIf, dSub_i, dAdd_i, dLt_i, dLe_i, dGt_i, dGe_i, dEq_i, decide_true, decide_false, eChain, eAndM, eSl, oInt, dNeg, dIx, atI0, atI1, atI2, aDef, fTuple, wv_var, wc_var, wj_var, wb_var, wv_call, wc_call, wj_call, wb_call, wv_rel, wc_rel, wj_rel, wb_rel, wv_same, wc_same, wj_same, wb_same, wv_no, wc_no, wj_no, wb_no, wv_and, wc_and, wj_and, wb_and, wv_or, wc_or, wj_or, wb_or, wv_if, wc_if, wj_if, wb_if, wv_all, wc_all, wj_all, wb_all, wv_some, wc_some, wj_some, wb_some])
theorem within_eq (n : Nat) (t : Th) (m : Mach) : mir (n + 1) .within [.d (enc t)] m = .ok (.l (encs (kids t))) m := by
  cases t <;> kernel_rfl
mutual
def lift (k : Int) : Th → Int → Th
  | .var v, a => if a ≤ v then .var (v + k) else .var v
  | .call f as, a => .call f (lifts k as a)
  | .rel f as, a => .rel f (lifts k as a)
  | .same x y, a => .same (lift k x a) (lift k y a)
  | .no, _ => .no
  | .and x y, a => .and (lift k x a) (lift k y a)
  | .or x y, a => .or (lift k x a) (lift k y a)
  | .imp x y, a => .imp (lift k x a) (lift k y a)
  | .all s x, a => .all s (lift k x (a + 1))
  | .some s x, a => .some s (lift k x (a + 1))
def lifts (k : Int) : List Th → Int → List Th
  | [], _ => []
  | t :: r, a => lift k t a :: lifts k r a
end
theorem lifts_map (k a : Int) : ∀ ts : List Th, lifts k ts a = ts.map fun t => lift k t a
  | [] => by rw [lifts]; rfl
  | t :: r => by rw [lifts, lifts_map k a r]; rfl
theorem depths_le {ts : List Th} {n : Nat} (h : depths ts ≤ n) : ∀ t ∈ ts, depth t ≤ n := by
  induction ts with
  | nil => intro t ht; cases ht
  | cons u r ih =>
    rw [depths] at h
    intro t ht
    rcases List.mem_cons.mp ht with rfl | ht
    · omega
    · exact ih (by omega) t ht
theorem mem_sizes {t : Th} : ∀ {ts : List Th}, t ∈ ts → size t ≤ sizes ts
  | u :: r, h => by
    rw [sizes]
    rcases List.mem_cons.mp h with rfl | h
    · omega
    · have := mem_sizes h; omega
theorem lift_call {c : List S → Mach → Rs S Mach} {s0 k a w : D} {x y : D} (m : Mach) (h : c [.d x, .d k, .d a] m = .ok (.d y) m) : escf (eCall c (aCons (escf (eVar 4)) (aCons (escf (eVar 1)) (aCons (escf (eVar 2)) aNil))) : Sm Mx S) ⟨[some (.d s0), some (.d k), some (.d a), some (.d w), some (.d x)], m⟩ = .ok (.d y) ⟨[some (.d s0), some (.d k), some (.d a), some (.d w), some (.d x)], m⟩ := by
  walk_at "ex"
  rw [h]
  walk_at "ex"
theorem lift_lc {c : List S → Mach → Rs S Mach} {w f : D} {k a : Int} {as : List Th} (m : Mach) (hl : as.length ≤ lim) (h : ∀ u ∈ as, c [.d (enc u), .d (.int k), .d (.int a)] m = .ok (.d (enc (lift k u a))) m) :
    (eLc (iAnyM (eBin dIx (eVar 0) (eC (.int 2)))) (kName 4) (fun z => .ok true z) (eCall c (aCons (escf (eVar 4)) (aCons (escf (eVar 1)) (aCons (escf (eVar 2)) aNil)))) [4] : Sm Mx S) ⟨[some (.d (.tup [w, f, .tup (encs as)])), some (.d (.int k)), some (.d (.int a)), some (.d w), none], m⟩ = .ok (.l (encs (lifts k as a))) ⟨[some (.d (.tup [w, f, .tup (encs as)])), some (.d (.int k)), some (.d (.int a)), some (.d w), none], m⟩ := by
  have e : encs (lifts k as a) = as.map fun u => enc (lift k u a) := by rw [lifts_map, encs_map, List.map_map]; rfl
  rw [e]
  refine elc_map (M := Mx) enc (g := fun u => enc (lift k u a)) (ts := as) ?_ rfl hl (fun u hu => lift_call m (h u hu))
  rw [encs_map]
  rfl
theorem lifted_eq : ∀ (n : Nat) (t : Th) (k a : Int) (m : Mach), depth t ≤ n → size t ≤ 900000 → mir (n + 1) .lifted [.d (enc t), .d (.int k), .d (.int a)] m = .ok (.d (enc (lift k t a))) m
  | 0, t, _, _, _, h, _ => by rw [depth_kids] at h; omega
  | n + 1, t, k, a, m, h, hs => by
    rw [depth_kids] at h
    rw [size_kids] at hs
    have hl := sizes_len (kids t)
    have ih : ∀ u ∈ kids t, ∀ a : Int, mir (n + 1) .lifted [.d (enc u), .d (.int k), .d (.int a)] m = .ok (.d (enc (lift k u a))) m := fun u hu a => lifted_eq n u k a m (depths_le (by omega) u hu) (by have := mem_sizes hu; omega)
    show fnM 5 (m_lifted (mir (n + 1))) [.d (enc t), .d (.int k), .d (.int a)] m = _
    unfold m_lifted
    cases t with
    | var v =>
      rw [enc, lift]
      walk_at "ex"
      by_cases c : a ≤ v
      · simp only [c]
        walk_at "ex"
        rw [enc]
      · simp only [c]
        walk_at "ex"
        rw [enc]
    | call f as =>
      have l1 := lift_lc (w := .str "call") (f := .str f) m (show as.length ≤ 1000000 by simp only [kids] at hs hl; omega) (fun u hu => ih u hu a)
      rw [enc, lift]
      walk_at "ex"
      rw [l1]
      walk_at "ex"
      rw [enc]
    | rel f as =>
      have l1 := lift_lc (w := .str "rel") (f := .str f) m (show as.length ≤ 1000000 by simp only [kids] at hs hl; omega) (fun u hu => ih u hu a)
      rw [enc, lift]
      walk_at "ex"
      rw [l1]
      walk_at "ex"
      rw [enc]
    | no =>
      rw [lift, enc]
      walk_at "ex"
    | same x y =>
      rw [enc, lift]
      walk_at "ex"
      rw [ih x (by simp [kids]) a]
      walk_at "ex"
      rw [ih y (by simp [kids]) a]
      walk_at "ex"
      rw [enc]
    | and x y =>
      rw [enc, lift]
      walk_at "ex"
      rw [ih x (by simp [kids]) a]
      walk_at "ex"
      rw [ih y (by simp [kids]) a]
      walk_at "ex"
      rw [enc]
    | or x y =>
      rw [enc, lift]
      walk_at "ex"
      rw [ih x (by simp [kids]) a]
      walk_at "ex"
      rw [ih y (by simp [kids]) a]
      walk_at "ex"
      rw [enc]
    | imp x y =>
      rw [enc, lift]
      walk_at "ex"
      rw [ih x (by simp [kids]) a]
      walk_at "ex"
      rw [ih y (by simp [kids]) a]
      walk_at "ex"
      rw [enc]
    | all s x =>
      rw [enc, lift]
      walk_at "ex"
      rw [ih x (by simp [kids]) (a + 1)]
      walk_at "ex"
      rw [enc]
    | some s x =>
      rw [enc, lift]
      walk_at "ex"
      rw [ih x (by simp [kids]) (a + 1)]
      walk_at "ex"
      rw [enc]
def bnd : Th → Nat
  | .all _ _ => 1
  | .some _ _ => 1
  | _ => 0
end L
set_option pp.maxSteps 400
set_option pp.deepTerms false
namespace L
open PySem L2 G
variable [TP]
local macro_rules | `(tactic| walk_at "ex") => `(tactic| try simp only [sSeq, sSet, sExpr, sRet, sIf, sAsg, una, escf, escS, opd, eVar, eC, eBin, eUn, eFn, eCall, eTup, eLst, aCons, aNil, fin, rd, rds, R.toS, dsOf, Rs.bind_ok, Rs.bind_bad, Rs.bind_ex, Rs.opt_some, Option.bind_some, Option.map_some, ownAt, eExt, eApp, ePop, List.getElem?_cons_zero, List.getElem?_cons_succ, List.set_cons_zero, List.set_cons_succ, okArg, List.all_cons, List.all_nil, Bool.and_self, if_true, kName, kTup, ksCons, ksNil, fMax, tOf, List.length_cons, List.length_nil, Bool.not_false, Bool.not_true, if_false, Bool.false_eq_true, lm0, lm1, lm2, lm3, lm4, lm5, lm6, lm7, lm8, lm9, lm10, lm11, lm12, fnM, List.map_cons, List.map_nil, List.replicate, List.cons_append, List.nil_append, Nat.reduceAdd, Nat.reduceSub, sNil, tAndM, tOrM, tNotM, tTru, dTru, eIf, dSub_i, dAdd_i, dLt_i, dLe_i, dGt_i, dGe_i, dEq_i, decide_true, decide_false, eChain, eAndM, eSl, oInt, dNeg, dIx, atI0, atI1, atI2, aDef, fTuple, wv_var, wc_var, wj_var, wb_var, wv_call, wc_call, wj_call, wb_call, wv_rel, wc_rel, wj_rel, wb_rel, wv_same, wc_same, wj_same, wb_same, wv_no, wc_no, wj_no, wb_no, wv_and, wc_and, wj_and, wb_and, wv_or, wc_or, wj_or, wb_or, wv_if, wc_if, wj_if, wb_if, wv_all, wc_all, wj_all, wb_all, wv_some, wc_some, wj_some, wb_some])
local macro_rules | `(tactic| walk_at "ey") => `(tactic| try simp only [sSeq, sSet, sExpr, sRet, sIf, sAsg, una, escf, escS, opd, eVar, eC, eBin, eUn, eFn, eCall, eTup, eLst, aCons, aNil, fin, rd, rds, R.toS, dsOf, Rs.bind_ok, Rs.bind_bad, Rs.bind_ex, Rs.opt_some, Option.bind_some, Option.map_some, ownAt, eExt, eApp, ePop, List.getElem?_cons_zero, List.getElem?_cons_succ, List.set_cons_zero, List.set_cons_succ, okArg, List.all_cons, List.all_nil, Bool.and_self, if_true, kName, kTup, ksCons, ksNil, fMax, tOf, List.length_cons, List.length_nil, Bool.not_false, Bool.not_true, if_false, Bool.false_eq_true, lm0, lm1, lm2, lm3, lm4, lm5, lm6, lm7, lm8, lm9, lm10, lm11, lm12, fnM, List.map_cons, List.map_nil, List.replicate, List.cons_append, List.nil_append, Nat.reduceAdd, Nat.reduceSub, sNil, tAndM, tOrM, tNotM, tTru, dTru, eIf, dSub_i, dAdd_i, dLt_i, dLe_i, dGt_i, dGe_i, dEq_i, decide_true, decide_false, eChain, eAndM, eSl, oInt, dNeg, fInt, aDef, fTuple])
def wd : Th → Str
  | .var _ => "var"
  | .call _ _ => "call"
  | .rel _ _ => "rel"
  | .same _ _ => "same"
  | .no => "no"
  | .and _ _ => "and"
  | .or _ _ => "or"
  | .imp _ _ => "if"
  | .all _ _ => "all"
  | .some _ _ => "some"
theorem hd0 (t : Th) : dIx (enc t) (.int 0) = some (.d (.str (wd t))) := by
  cases t <;> kernel_rfl
theorem wdB (t : Th) : dIn (.str (wd t)) c_BOUND = some (.d (.bl (bnd t == 1))) := by
  cases t <;> kernel_rfl
def isVar : Th → Bool
  | .var _ => true
  | _ => false
theorem wdV (t : Th) : dEq (.str (wd t)) (.str "var") = some (.d (.bl (isVar t))) := by
  cases t <;> kernel_rfl
theorem bnd_int (t : Th) : (if (bnd t == 1) = true then (1 : Int) else 0) = ((bnd t : Nat) : Int) := by
  cases t <;> rfl
theorem split_lastP {α : Type} (ts : List α) : ts = [] ∨ ∃ r t, ts = r ++ [t] := by
  rcases List.eq_nil_or_concat ts with h | ⟨r, t, h⟩
  · exact .inl h
  · exact .inr ⟨r, t, by simpa using h⟩
/-! term_for -/
def Sq (X : D) (xs : List D) : Prop := fLen [X] = some (.d (.int (xs.length : Nat))) ∧ ∀ j, dIx X (.int j) = (atI xs j).map .d
theorem sq_tup (xs : List D) : Sq (.tup xs) xs := ⟨rfl, fun _ => rfl⟩
theorem sq_lst (xs : List D) : Sq (.lst xs) xs := ⟨rfl, fun _ => rfl⟩
theorem tf_some {X : D} {xs : List D} (sq : Sq X xs) {i : Nat} {d : D} (n : Nat) (m : Mach) (h : xs.reverse[i]? = some d) : mir (n + 1) .term_for [.d X, .d (.int (i : Int))] m = .ok (.d d) m := by
  have hi : i < xs.length := by
    have := List.getElem?_eq_some_iff.mp h
    obtain ⟨q, _⟩ := this
    rwa [List.length_reverse] at q
  have ea : atI xs ((xs.length : Nat) - 1 - (i : Int)) = some d := by
    unfold atI ixN
    rw [if_pos (by omega), if_pos (by omega), Option.bind_some]
    have e : ((xs.length : Nat) - 1 - (i : Int) : Int).toNat = xs.length - 1 - i := by omega
    rw [e, ← h, List.getElem?_reverse hi]
  show fnM 2 (m_term_for (mir n)) [.d X, .d (.int (i : Int))] m = _
  unfold m_term_for
  have c1 : (0 : Int) ≤ (i : Int) := by omega
  have c2 : (i : Int) < ((xs.length : Nat) : Int) := by omega
  have fl := sq.1
  walk_at "ey"
  simp only [c1]
  walk_at "ey"
  rw [fl]
  walk_at "ey"
  simp only [c2]
  walk_at "ey"
  rw [fl]
  walk_at "ey"
  rw [sq.2, ea]
  walk_at "ey"
theorem tf_none {X : D} {xs : List D} (sq : Sq X xs) {i : Int} (n : Nat) (m : Mach) (h : i < 0 ∨ ((xs.length : Nat) : Int) ≤ i) : mir (n + 1) .term_for [.d X, .d (.int i)] m = .ok (.d .non) m := by
  show fnM 2 (m_term_for (mir n)) [.d X, .d (.int i)] m = _
  unfold m_term_for
  have fl := sq.1
  by_cases c1 : (0 : Int) ≤ i
  · have c2 : ¬ i < ((xs.length : Nat) : Int) := by omega
    walk_at "ey"
    simp only [c1]
    walk_at "ey"
    rw [fl]
    walk_at "ey"
    simp only [c2]
    walk_at "ey"
  · walk_at "ey"
    simp only [c1]
    walk_at "ey"
end L
set_option pp.maxSteps 400
set_option pp.deepTerms false
namespace L
open PySem L2 G
variable [TP]
local macro_rules | `(tactic| walk_at "ex") => `(tactic| try simp only [sSeq, sSet, sExpr, sRet, sIf, sAsg, una, escf, escS, opd, eVar, eC, eBin, eUn, eFn, eCall, eTup, eLst, aCons, aNil, fin, rd, rds, R.toS, dsOf, Rs.bind_ok, Rs.bind_bad, Rs.bind_ex, Rs.opt_some, Option.bind_some, Option.map_some, ownAt, eExt, eApp, ePop, List.getElem?_cons_zero, List.getElem?_cons_succ, List.set_cons_zero, List.set_cons_succ, okArg, List.all_cons, List.all_nil, Bool.and_self, if_true, kName, kTup, ksCons, ksNil, fMax, tOf, List.length_cons, List.length_nil, Bool.not_false, Bool.not_true, if_false, Bool.false_eq_true, lm0, lm1, lm2, lm3, lm4, lm5, lm6, lm7, lm8, lm9, lm10, lm11, lm12, fnM, List.map_cons, List.map_nil, List.replicate, List.cons_append, List.nil_append, Nat.reduceAdd, Nat.reduceSub, sNil, tAndM, tOrM, tNotM, tTru, dTru, eIf, dSub_i, dAdd_i, dLt_i, dLe_i, dGt_i, dGe_i, dEq_i, decide_true, decide_false, eChain, eAndM, eSl, oInt, dNeg, dIx, atI0, atI1, atI2, aDef, fTuple, wv_var, wc_var, wj_var, wb_var, wv_call, wc_call, wj_call, wb_call, wv_rel, wc_rel, wj_rel, wb_rel, wv_same, wc_same, wj_same, wb_same, wv_no, wc_no, wj_no, wb_no, wv_and, wc_and, wj_and, wb_and, wv_or, wc_or, wj_or, wb_or, wv_if, wc_if, wj_if, wb_if, wv_all, wc_all, wj_all, wb_all, wv_some, wc_some, wj_some, wb_some])
local macro_rules | `(tactic| walk_at "ey") => `(tactic| try simp only [sSeq, sSet, sExpr, sRet, sIf, sAsg, una, escf, escS, opd, eVar, eC, eBin, eUn, eFn, eCall, eTup, eLst, aCons, aNil, fin, rd, rds, R.toS, dsOf, Rs.bind_ok, Rs.bind_bad, Rs.bind_ex, Rs.opt_some, Option.bind_some, Option.map_some, ownAt, eExt, eApp, ePop, List.getElem?_cons_zero, List.getElem?_cons_succ, List.set_cons_zero, List.set_cons_succ, okArg, List.all_cons, List.all_nil, Bool.and_self, if_true, kName, kTup, ksCons, ksNil, fMax, tOf, List.length_cons, List.length_nil, Bool.not_false, Bool.not_true, if_false, Bool.false_eq_true, lm0, lm1, lm2, lm3, lm4, lm5, lm6, lm7, lm8, lm9, lm10, lm11, lm12, fnM, List.map_cons, List.map_nil, List.replicate, List.cons_append, List.nil_append, Nat.reduceAdd, Nat.reduceSub, sNil, tAndM, tOrM, tNotM, tTru, dTru, eIf, dSub_i, dAdd_i, dLt_i, dLe_i, dGt_i, dGe_i, dEq_i, decide_true, decide_false, eChain, eAndM, eSl, oInt, dNeg, fInt, aDef, fTuple])

def subV (us : List Th) (v b : Int) : Th := match us.reverse[(v - b).toNat]? with
  | some u => if 0 ≤ v - b then lift b u 0 else .var v
  | none => if v < b then .var v else .var (v - (us.length : Nat))
mutual
def sub (us : List Th) : Th → Int → Th
  | .var v, b => subV us v b
  | .call f as, b => .call f (subs us as b)
  | .rel f as, b => .rel f (subs us as b)
  | .same x y, b => .same (sub us x b) (sub us y b)
  | .no, _ => .no
  | .and x y, b => .and (sub us x b) (sub us y b)
  | .or x y, b => .or (sub us x b) (sub us y b)
  | .imp x y, b => .imp (sub us x b) (sub us y b)
  | .all s x, b => .all s (sub us x (b + 1))
  | .some s x, b => .some s (sub us x (b + 1))
def subs (us : List Th) : List Th → Int → List Th
  | [], _ => []
  | t :: r, b => sub us t b :: subs us r b
end
theorem subs_map (us : List Th) (b : Int) : ∀ ts : List Th, subs us ts b = ts.map fun t => sub us t b
  | [] => by rw [subs]; rfl
  | t :: r => by rw [subs, subs_map us b r]; rfl
theorem sub_call {c : List S → Mach → Rs S Mach} {s0 k a w : D} {x y : D} {s4 : Option S} (m : Mach) (h : c [.d x, .d k, .d a] m = .ok (.d y) m) : escf (eCall c (aCons (escf (eVar 5)) (aCons (escf (eVar 1)) (aCons (escf (eVar 2)) aNil))) : Sm Mx S) ⟨[some (.d s0), some (.d k), some (.d a), some (.d w), s4, some (.d x)], m⟩ = .ok (.d y) ⟨[some (.d s0), some (.d k), some (.d a), some (.d w), s4, some (.d x)], m⟩ := by
  walk_at "ex"
  rw [h]
  walk_at "ex"
theorem sub_lc {c : List S → Mach → Rs S Mach} {w f : D} {us : List Th} {b : Int} {s4 : Option S} {as : List Th} (m : Mach) (hl : as.length ≤ lim) (h : ∀ u ∈ as, c [.d (enc u), .d (.tup (encs us)), .d (.int b)] m = .ok (.d (enc (sub us u b))) m) :
    (eLc (iAnyM (eBin dIx (eVar 0) (eC (.int 2)))) (kName 5) (fun z => .ok true z) (eCall c (aCons (escf (eVar 5)) (aCons (escf (eVar 1)) (aCons (escf (eVar 2)) aNil)))) [5] : Sm Mx S) ⟨[some (.d (.tup [w, f, .tup (encs as)])), some (.d (.tup (encs us))), some (.d (.int b)), some (.d w), s4, none], m⟩ = .ok (.l (encs (subs us as b))) ⟨[some (.d (.tup [w, f, .tup (encs as)])), some (.d (.tup (encs us))), some (.d (.int b)), some (.d w), s4, none], m⟩ := by
  have e : encs (subs us as b) = as.map fun u => enc (sub us u b) := by rw [subs_map, encs_map, List.map_map]; rfl
  rw [e]
  refine elc_map (M := Mx) enc (g := fun u => enc (sub us u b)) (ts := as) ?_ rfl hl (fun u hu => sub_call m (h u hu))
  rw [encs_map]
  rfl
theorem not_non (t : Th) : dIsNot (enc t) .non = some (.d (.bl true)) := by cases t <;> rfl
theorem non_non : dIsNot .non .non = some (.d (.bl false)) := rfl
theorem encs_rev (us : List Th) (i : Nat) : (encs us).reverse[i]? = (us.reverse[i]?).map enc := by
  rw [encs_map, ← List.map_reverse, List.getElem?_map]
theorem put_eq (us : List Th) (hu : ∀ u ∈ us, depth u ≤ 62 ∧ size u ≤ 900000) : ∀ (n : Nat) (t : Th) (b : Int) (m : Mach), depth t ≤ n → size t ≤ 900000 → mir (n + 64) .put [.d (enc t), .d (.tup (encs us)), .d (.int b)] m = .ok (.d (enc (sub us t b))) m
  | 0, t, _, _, h, _ => by rw [depth_kids] at h; omega
  | n + 1, t, b, m, h, hs => by
    rw [depth_kids] at h
    rw [size_kids] at hs
    have hl := sizes_len (kids t)
    have ih : ∀ u ∈ kids t, ∀ b : Int, mir (n + 64) .put [.d (enc u), .d (.tup (encs us)), .d (.int b)] m = .ok (.d (enc (sub us u b))) m := fun u hu2 b => put_eq us hu n u b m (depths_le (by omega) u hu2) (by have := mem_sizes hu2; omega)
    show fnM 6 (m_put (mir (n + 64))) [.d (enc t), .d (.tup (encs us)), .d (.int b)] m = _
    unfold m_put
    cases t with
    | var v =>
      rw [enc, sub]
      walk_at "ex"
      unfold subV
      by_cases c : 0 ≤ v - b ∧ v - b < (us.length : Nat)
      · have e : v - b = (((v - b).toNat : Nat) : Int) := by omega
        have hi : (v - b).toNat < us.reverse.length := by rw [List.length_reverse]; omega
        obtain ⟨u, eu⟩ : ∃ u, us.reverse[(v - b).toNat]? = some u := ⟨_, List.getElem?_eq_getElem hi⟩
        have mu : u ∈ us := by
          have := List.mem_of_getElem? eu
          exact List.mem_reverse.mp this
        have tf := tf_some (sq_tup (encs us)) (n + 63) m (i := (v - b).toNat) (d := enc u) (by rw [encs_rev, eu]; rfl)
        rw [← e] at tf
        rw [tf, eu]
        walk_at "ex"
        rw [not_non]
        walk_at "ex"
        have lf : mir (n + 64) .lifted [.d (enc u), .d (.int b), .d (.int 0)] m = .ok (.d (enc (lift b u 0))) m := by
          have := lifted_eq (n + 63) u b 0 m (by have := (hu u mu).1; omega) (hu u mu).2
          exact this
        rw [lf]
        walk_at "ex"
        rw [if_pos c.1]
      · have tf := tf_none (sq_tup (encs us)) (i := v - b) (n + 63) m (by rw [encs_length]; omega)
        rw [tf]
        walk_at "ex"
        rw [non_non]
        walk_at "ex"
        by_cases c2 : v < b
        · have e0 : (v - b).toNat = 0 := by omega
          simp only [c2]
          walk_at "ex"
          have ne : ¬ 0 ≤ v - b := by omega
          cases us.reverse[(v - b).toNat]? with
          | none => simp only []; rw [enc]
          | some u => simp only [if_neg ne]; rw [enc]
        · simp only [c2]
          walk_at "ex"
          have fl : fLen [.tup (encs us)] = some (.d (.int ((encs us).length : Nat))) := rfl
          rw [fl, encs_length]
          walk_at "ex"
          have en : us.reverse[(v - b).toNat]? = none := List.getElem?_eq_none (by rw [List.length_reverse]; omega)
          rw [en]
          simp only []
          rw [enc]
    | no =>
      rw [sub, enc]
      walk_at "ex"
    | call f as =>
      have l1 := sub_lc (w := .str "call") (f := .str f) (us := us) (s4 := none) m (show as.length ≤ 1000000 by simp only [kids] at hs hl; omega) (fun u hu => ih u hu b)
      rw [enc, sub]
      walk_at "ex"
      rw [l1]
      walk_at "ex"
      rw [enc]
    | rel f as =>
      have l1 := sub_lc (w := .str "rel") (f := .str f) (us := us) (s4 := none) m (show as.length ≤ 1000000 by simp only [kids] at hs hl; omega) (fun u hu => ih u hu b)
      rw [enc, sub]
      walk_at "ex"
      rw [l1]
      walk_at "ex"
      rw [enc]
    | same x y =>
      rw [enc, sub]
      walk_at "ex"
      rw [ih x (by simp [kids]) b]
      walk_at "ex"
      rw [ih y (by simp [kids]) b]
      walk_at "ex"
      rw [enc]
    | and x y =>
      rw [enc, sub]
      walk_at "ex"
      rw [ih x (by simp [kids]) b]
      walk_at "ex"
      rw [ih y (by simp [kids]) b]
      walk_at "ex"
      rw [enc]
    | or x y =>
      rw [enc, sub]
      walk_at "ex"
      rw [ih x (by simp [kids]) b]
      walk_at "ex"
      rw [ih y (by simp [kids]) b]
      walk_at "ex"
      rw [enc]
    | imp x y =>
      rw [enc, sub]
      walk_at "ex"
      rw [ih x (by simp [kids]) b]
      walk_at "ex"
      rw [ih y (by simp [kids]) b]
      walk_at "ex"
      rw [enc]
    | all s x =>
      rw [enc, sub]
      walk_at "ex"
      rw [ih x (by simp [kids]) (b + 1)]
      walk_at "ex"
      rw [enc]
    | some s x =>
      rw [enc, sub]
      walk_at "ex"
      rw [ih x (by simp [kids]) (b + 1)]
      walk_at "ex"
      rw [enc]
end L
set_option pp.maxSteps 400
set_option pp.deepTerms false
namespace L
open PySem L2 G
variable [TP]
local macro_rules | `(tactic| walk_at "ev") => `(tactic| try simp only [sSeq, sSet, sExpr, sRet, sIf, sAsg, una, escf, escS, opd, eVar, eC, eBin, eUn, eFn, eCall, eTup, eLst, aCons, aNil, fin, rd, rds, R.toS, dsOf, Rs.bind_ok, Rs.bind_bad, Rs.bind_ex, Rs.opt_some, Option.bind_some, Option.map_some, ownAt, eExt, eApp, ePop, List.getElem?_cons_zero, List.getElem?_cons_succ, List.set_cons_zero, List.set_cons_succ, okArg, List.all_cons, List.all_nil, Bool.and_self, if_true, dAdd, kName, kTup, ksCons, ksNil, fMax, tOf, List.length_cons, List.length_nil, Bool.not_false, Bool.not_true, if_false, Bool.false_eq_true, lm0, lm1, lm2, lm3, lm4, lm5, lm6, lm7, lm8, lm9, lm10, lm11, lm12, fnM, List.map_cons, List.map_nil, List.replicate, List.cons_append, List.nil_append, Nat.reduceAdd, Nat.reduceSub, dIx, atI0, atI1, atI2, sNil, tAndM, tOrM, tNotM, tTru, dTru, eIf, dI, dSub, dLt, dLe, dGt, dGe])
/-! parts_of -/
def ePB (c : Fn → List S → Mach → Rs S Mach) : Sm Mx Out := sSeq (sSet 1 (eBin dAdd (eVar 1) (eC (.int 1)))) (sExpr (eExt 2 (eCall (c .within) (aCons (escf (ePop 2)) aNil))))
theorem parts_step {c : Fn → List S → Mach → Rs S Mach} (hc : ∀ t m, c .within [.d (enc t)] m = .ok (.l (encs (kids t))) m) (x : Option S) (f : Int) (ys : List D) (t : Th) (m : Mach) (hl : ys.length + (encs (kids t)).length ≤ lim) :
    ePB c ⟨[x, some (.d (.int f)), some (.l (ys ++ [enc t]))], m⟩ = .ok .nx ⟨[x, some (.d (.int (f + 1))), some (.l (ys ++ encs (kids t)))], m⟩ := by
  have e1 : (ys ++ [enc t])[(ys ++ [enc t]).length - 1]? = some (enc t) := by simp
  have e2 : (ys ++ [enc t]).dropLast = ys := by simp
  unfold ePB
  walk_at "ev"
  rw [e1]
  walk_at "ev"
  rw [hc, e2]
  walk_at "ev"
  rw [if_pos hl]
  rfl
theorem split_lastN (ts : List Th) : ts = [] ∨ ∃ r t, ts = r ++ [t] := by
  rcases List.eq_nil_or_concat ts with h | ⟨r, t, h⟩
  · exact .inl h
  · exact .inr ⟨r, t, by simpa using h⟩
theorem cond_eqN (x f : Option S) {xs : List D} (m : Mach) (h : lays xs = true) : (tOf (eBin dNe (eVar 2) (eLst aNil)) : Sm Mx Bool) ⟨[x, f, some (.l xs)], m⟩ = .ok (!xs.isEmpty) ⟨[x, f, some (.l xs)], m⟩ := by
  walk_at "ev"
  simp only [ne_nil h]
  rfl
theorem parts_loop {c : Fn → List S → Mach → Rs S Mach} (hc : ∀ t m, c .within [.d (enc t)] m = .ok (.l (encs (kids t))) m) (x : Option S) (m : Mach) : ∀ (n : Nat) (ts : List Th) (f : Int), sizes ts < n → sizes ts ≤ 900000 → nmss ts = true →
    sWhile (tOf (eBin dNe (eVar 2) (eLst aNil))) (ePB c) n ⟨[x, some (.d (.int f)), some (.l (encs ts))], m⟩ = .ok .nx ⟨[x, some (.d (.int (f + sizes ts))), some (.l [])], m⟩
  | 0, ts, f, h, _, _ => by omega
  | n + 1, ts, f, h, hs, hn => by
    unfold sWhile
    rw [cond_eqN _ _ _ (by rw [lays_encs]; exact hn)]
    rcases split_lastN ts with rfl | ⟨r, t, rfl⟩
    · simp [encs, sizes]
    · rw [sizes_append] at h hs
      have e0 : (encs (r ++ [t])).isEmpty = false := by rw [encs_append]; cases encs r <;> rfl
      have e1 : encs (r ++ [t]) = encs r ++ [enc t] := by rw [encs_append, encs, encs]
      have e2 : sizes [t] = 1 + sizes (kids t) := by rw [sizes, sizes, size_kids]; omega
      have hr := sizes_len r
      have hk := sizes_len (kids t)
      rw [nmss_append, Bool.and_eq_true] at hn
      have hn2 : nms t = true := by have := hn.2; simpa [nmss] using this
      rw [e0, e1]
      simp only [Bool.not_false, Rs.bind_ok, if_true]
      rw [parts_step hc x f (encs r) t m (by rw [encs_length, encs_length]; show _ ≤ 1000000; omega), ← encs_append]
      simp only [Rs.bind_ok]
      rw [parts_loop hc x m n (r ++ kids t) (f + 1) (by rw [sizes_append]; omega) (by rw [sizes_append]; omega) (by rw [nmss_append, hn.1, nms_kids hn2]; rfl), sizes_append, sizes_append]
      have e3 : f + 1 + ((sizes r + sizes (kids t) : Nat) : Int) = f + ((sizes r + sizes [t] : Nat) : Int) := by omega
      rw [e3]
theorem parts_eq (n : Nat) (t : Th) (m : Mach) (h : size t ≤ 900000) (hn : nms t = true) : mir (n + 2) .parts_of [.d (enc t)] m = .ok (.d (.int (size t))) m := by
  have hc := within_eq n
  have e : sizes [t] = size t := by simp [sizes]
  have L := parts_loop (c := mir (n + 1)) (fun t m => hc t m) (some (.d (enc t))) m whileN [t] 0 (by rw [e]; show _ < 1000000000; omega) (by rw [e]; exact h) (by simpa [nmss] using hn)
  have e2 : encs [t] = [enc t] := by simp [encs]
  rw [e2, e] at L
  show fnM 3 (m_parts_of (mir (n + 1))) [.d (enc t)] m = _
  unfold m_parts_of
  unfold ePB at L
  walk_at "ev"
  rw [L, Int.zero_add]
  walk_at "ev"
/-! deep_of -/
def prN (p : Th × Nat) : D := .tup [enc p.1, .int p.2]
def mxsN : List (Th × Nat) → Nat
  | [] => 0
  | (t, d) :: r => max (d + depths (kids t)) (mxsN r)
def szsN : List (Th × Nat) → Nat
  | [] => 0
  | (t, _) :: r => size t + szsN r
def nmpN : List (Th × Nat) → Bool
  | [] => true
  | (t, _) :: r => nms t && nmpN r
theorem mxs_appendN : ∀ xs ys, mxsN (xs ++ ys) = max (mxsN xs) (mxsN ys)
  | [], ys => by simp [mxsN]
  | x :: r, ys => by simp only [List.cons_append, mxsN, mxs_appendN r ys]; omega
theorem szs_appendN : ∀ xs ys, szsN (xs ++ ys) = szsN xs + szsN ys
  | [], ys => by simp [szsN]
  | x :: r, ys => by simp only [List.cons_append, szsN, szs_appendN r ys]; omega
theorem nmp_appendN : ∀ xs ys, nmpN (xs ++ ys) = (nmpN xs && nmpN ys)
  | [], ys => by simp [nmpN]
  | x :: r, ys => by simp only [List.cons_append, nmpN, nmp_appendN r ys, Bool.and_assoc]
theorem szs_lenN : ∀ ts : List (Th × Nat), ts.length ≤ szsN ts
  | [] => by simp [szsN]
  | (t, d) :: r => by
    have h := szs_lenN r
    have h2 := size_kids t
    simp only [List.length_cons, szsN]
    omega
theorem szs_kidsN (d : Nat) : ∀ ts : List Th, szsN (ts.map fun t => (t, d)) = sizes ts
  | [] => by simp [szsN, sizes]
  | t :: r => by simp only [List.map_cons, szsN, sizes, szs_kidsN d r]
theorem nmp_kidsN (d : Nat) : ∀ ts : List Th, nmpN (ts.map fun t => (t, d)) = nmss ts
  | [] => by simp [nmpN, nmss]
  | t :: r => by simp only [List.map_cons, nmpN, nmss, nmp_kidsN d r]
theorem mxs_kidsN (d : Nat) : ∀ ts : List Th, ts ≠ [] → mxsN (ts.map fun t => (t, d + 1)) = d + depths ts
  | [], h => (h rfl).elim
  | [t], _ => by
    simp only [List.map_cons, List.map_nil, mxsN, depths, depth_kids t]
    omega
  | t :: u :: r, _ => by
    have ih := mxs_kidsN d (u :: r) (by intro e; cases e)
    have e1 : mxsN ((t :: u :: r).map fun t => (t, d + 1)) = max (d + 1 + depths (kids t)) (mxsN ((u :: r).map fun t => (t, d + 1))) := rfl
    have e2 : depths (t :: u :: r) = max (depth t) (depths (u :: r)) := by rw [depths]
    rw [e1, ih, e2, depth_kids t]
    omega
theorem lays_prsN : ∀ ts : List (Th × Nat), lays (ts.map prN) = nmpN ts
  | [] => by simp [lays, nmpN]
  | (t, d) :: r => by simp [lays, nmpN, prN, lay, lay_enc, lays_prsN r]
def eDB (c : Fn → List S → Mach → Rs S Mach) : Sm Mx Out := sSeq (sAsg (ePop 2) (kTup 2 (ksCons (kName 3) (ksCons (kName 4) ksNil))))
    (sSeq (sSet 1 (eFn fMax (aCons (opd (eVar 1)) (aCons (opd (eVar 4)) aNil))))
    (sExpr (eExt 2 (eLc (iAnyM (eCall (c .within) (aCons (escf (eVar 3)) aNil))) (kName 5) (fun z => .ok true z) (eTup (aCons (escf (eVar 5)) (aCons (escf (eBin dAdd (eVar 4) (eC (.int 1)))) aNil))) [5]))))
theorem deep_step {c : Fn → List S → Mach → Rs S Mach} (hc : ∀ t m, c .within [.d (enc t)] m = .ok (.l (encs (kids t))) m) (x s3 s4 : Option S) (f : Int) (ys : List D) (t : Th) (d : Nat) (m : Mach) (hl : ys.length + (kids t).length ≤ lim) :
    eDB c ⟨[x, some (.d (.int f)), some (.l (ys ++ [prN (t, d)])), s3, s4, none], m⟩ = .ok .nx ⟨[x, some (.d (.int (if (d : Int) > f then (d : Int) else f))), some (.l (ys ++ ((kids t).map fun k => (k, d + 1)).map prN)), some (.d (enc t)), some (.d (.int d)), none], m⟩ := by
  have e1 : (ys ++ [prN (t, d)])[(ys ++ [prN (t, d)]).length - 1]? = some (prN (t, d)) := by simp
  have e2 : (ys ++ [prN (t, d)]).dropLast = ys := by simp
  unfold eDB
  walk_at "ev"
  rw [e1, e2]
  simp only [prN]
  walk_at "ev"
  simp only [eLc, iAnyM]
  walk_at "ev"
  rw [hc]
  simp only [itemsD, noOwn, List.all_cons, List.all_nil, Bool.and_self]
  walk_at "ev"
  simp only [wipeZ, wipeR]
  walk_at "ev"
  rw [lc_map (M := Mx) (i := 5) (g := fun k => .tup [k, .int ((d : Int) + 1)]) ?h1 (encs (kids t)) [] ?h2 ?h3]
  case h1 => rfl
  case h2 => rw [encs_length, List.length_nil]; omega
  case h3 => exact fun k _ => ⟨_, rfl, rfl⟩
  walk_at "ev"
  simp only [restR]
  walk_at "ev"
  have e3 : (encs (kids t)).map (fun k => D.tup [k, .int ((d : Int) + 1)]) = ((kids t).map fun k => (k, d + 1)).map prN := by
    rw [encs_map, List.map_map, List.map_map]
    rfl
  rw [e3]
  simp only [Option.getD]
  walk_at "ev"
  rw [if_pos (by rw [List.length_map, List.length_map]; exact hl)]
  rfl
theorem condD_eqN (x f s3 s4 s5 : Option S) {xs : List D} (m : Mach) (h : lays xs = true) : (tOf (eBin dNe (eVar 2) (eLst aNil)) : Sm Mx Bool) ⟨[x, f, some (.l xs), s3, s4, s5], m⟩ = .ok (!xs.isEmpty) ⟨[x, f, some (.l xs), s3, s4, s5], m⟩ := by
  walk_at "ev"
  simp only [ne_nil h]
  rfl
theorem split_lastPN {α : Type} (ts : List α) : ts = [] ∨ ∃ r t, ts = r ++ [t] := by
  rcases List.eq_nil_or_concat ts with h | ⟨r, t, h⟩
  · exact .inl h
  · exact .inr ⟨r, t, by simpa using h⟩
theorem deep_loop {c : Fn → List S → Mach → Rs S Mach} (hc : ∀ t m, c .within [.d (enc t)] m = .ok (.l (encs (kids t))) m) (x : Option S) (m : Mach) : ∀ (n : Nat) (ts : List (Th × Nat)) (f : Nat) (s3 s4 : Option S), szsN ts < n → szsN ts ≤ 900000 → nmpN ts = true →
    ∃ s3' s4', sWhile (tOf (eBin dNe (eVar 2) (eLst aNil))) (eDB c) n ⟨[x, some (.d (.int (f : Int))), some (.l (ts.map prN)), s3, s4, none], m⟩ = .ok .nx ⟨[x, some (.d (.int ((max f (mxsN ts) : Nat) : Int))), some (.l []), s3', s4', none], m⟩
  | 0, ts, f, _, _, h, _, _ => by omega
  | n + 1, ts, f, s3, s4, h, hs, hn => by
    unfold sWhile
    rw [condD_eqN _ _ _ _ _ _ (by rw [lays_prsN]; exact hn)]
    rcases split_lastPN ts with rfl | ⟨r, ⟨t, d⟩, rfl⟩
    · exact ⟨s3, s4, by simp [mxsN]⟩
    · rw [szs_appendN] at h hs
      have e0 : ((r ++ [(t, d)]).map prN).isEmpty = false := by simp
      have e1 : (r ++ [(t, d)]).map prN = r.map prN ++ [prN (t, d)] := by simp
      have e2 : szsN [(t, d)] = 1 + sizes (kids t) := by simp only [szsN, size_kids]; omega
      have hr := szs_lenN r
      have hk := sizes_len (kids t)
      rw [nmp_appendN, Bool.and_eq_true] at hn
      have hn2 : nms t = true := by have := hn.2; simpa [nmpN] using this
      rw [e0, e1]
      simp only [Bool.not_false, Rs.bind_ok, if_true]
      rw [deep_step hc x s3 s4 f (r.map prN) t d m (by rw [List.length_map]; show _ ≤ 1000000; omega), ← List.map_append]
      simp only [Rs.bind_ok]
      have ef : (if (d : Int) > (f : Int) then (d : Int) else (f : Int)) = ((max f d : Nat) : Int) := by split <;> omega
      rw [ef]
      obtain ⟨s3', s4', ih⟩ := deep_loop hc x m n (r ++ (kids t).map fun k => (k, d + 1)) (max f d) (some (.d (enc t))) (some (.d (.int d))) (by rw [szs_appendN, szs_kidsN]; omega) (by rw [szs_appendN, szs_kidsN]; omega) (by rw [nmp_appendN, hn.1, nmp_kidsN, nms_kids hn2]; rfl)
      refine ⟨s3', s4', ?_⟩
      rw [ih]
      have em : max (max f d) (mxsN (r ++ (kids t).map fun k => (k, d + 1))) = max f (mxsN (r ++ [(t, d)])) := by
        rw [mxs_appendN, mxs_appendN]
        by_cases hz : kids t = []
        · rw [hz]
          simp only [List.map_nil, mxsN, hz, depths]
          omega
        · rw [mxs_kidsN d _ hz]
          simp only [mxsN]
          omega
      rw [em]
theorem deep_eq (n : Nat) (t : Th) (m : Mach) (h : size t ≤ 900000) (hn : nms t = true) : mir (n + 2) .deep_of [.d (enc t)] m = .ok (.d (.int (depth t))) m := by
  have hc := within_eq n
  have e : szsN [(t, 1)] = size t := by simp [szsN]
  obtain ⟨s3, s4, L⟩ := deep_loop (c := mir (n + 1)) (fun t m => hc t m) (some (.d (enc t))) m whileN [(t, 1)] 0 none none (by rw [e]; show _ < 1000000000; omega) (by rw [e]; exact h) (by simpa [nmpN] using hn)
  have ed : max 0 (mxsN [(t, 1)]) = depth t := by simp only [mxsN, depth_kids]; omega
  rw [ed] at L
  show fnM 6 (m_deep_of (mir (n + 1))) [.d (enc t)] m = _
  unfold m_deep_of
  unfold eDB at L
  walk_at "ev"
  simp only [List.map_cons, List.map_nil, prN] at L
  have c0 : ((0 : Nat) : Int) = 0 := rfl
  have c1 : ((1 : Nat) : Int) = 1 := rfl
  rw [c0, c1] at L
  rw [L]
  walk_at "ev"
end L
set_option pp.maxSteps 400
set_option pp.deepTerms false
namespace L
open PySem L2 G
variable [TP]
local macro_rules | `(tactic| walk_at "ex") => `(tactic| try simp only [sSeq, sSet, sExpr, sRet, sIf, sAsg, una, escf, escS, opd, eVar, eC, eBin, eUn, eFn, eCall, eTup, eLst, aCons, aNil, fin, rd, rds, R.toS, dsOf, Rs.bind_ok, Rs.bind_bad, Rs.bind_ex, Rs.opt_some, Option.bind_some, Option.map_some, ownAt, eExt, eApp, ePop, List.getElem?_cons_zero, List.getElem?_cons_succ, List.set_cons_zero, List.set_cons_succ, okArg, List.all_cons, List.all_nil, Bool.and_self, if_true, kName, kTup, ksCons, ksNil, fMax, tOf, List.length_cons, List.length_nil, Bool.not_false, Bool.not_true, if_false, Bool.false_eq_true, lm0, lm1, lm2, lm3, lm4, lm5, lm6, lm7, lm8, lm9, lm10, lm11, lm12, fnM, List.map_cons, List.map_nil, List.replicate, List.cons_append, List.nil_append, Nat.reduceAdd, Nat.reduceSub, sNil, tAndM, tOrM, tNotM, tTru, dTru, eIf, dSub_i, dAdd_i, dLt_i, dLe_i, dGt_i, dGe_i, dEq_i, decide_true, decide_false, eChain, eAndM, eSl, oInt, dNeg, dIx, atI0, atI1, atI2, aDef, fTuple, wv_var, wc_var, wj_var, wb_var, wv_call, wc_call, wj_call, wb_call, wv_rel, wc_rel, wj_rel, wb_rel, wv_same, wc_same, wj_same, wb_same, wv_no, wc_no, wj_no, wb_no, wv_and, wc_and, wj_and, wb_and, wv_or, wc_or, wj_or, wb_or, wv_if, wc_if, wj_if, wb_if, wv_all, wc_all, wj_all, wb_all, wv_some, wc_some, wj_some, wb_some])
local macro_rules | `(tactic| walk_at "ey") => `(tactic| try simp only [sSeq, sSet, sExpr, sRet, sIf, sAsg, una, escf, escS, opd, eVar, eC, eBin, eUn, eFn, eCall, eTup, eLst, aCons, aNil, fin, rd, rds, R.toS, dsOf, Rs.bind_ok, Rs.bind_bad, Rs.bind_ex, Rs.opt_some, Option.bind_some, Option.map_some, ownAt, eExt, eApp, ePop, List.getElem?_cons_zero, List.getElem?_cons_succ, List.set_cons_zero, List.set_cons_succ, okArg, List.all_cons, List.all_nil, Bool.and_self, if_true, kName, kTup, ksCons, ksNil, fMax, tOf, List.length_cons, List.length_nil, Bool.not_false, Bool.not_true, if_false, Bool.false_eq_true, lm0, lm1, lm2, lm3, lm4, lm5, lm6, lm7, lm8, lm9, lm10, lm11, lm12, fnM, List.map_cons, List.map_nil, List.replicate, List.cons_append, List.nil_append, Nat.reduceAdd, Nat.reduceSub, sNil, tAndM, tOrM, tNotM, tTru, dTru, eIf, dSub_i, dAdd_i, dLt_i, dLe_i, dGt_i, dGe_i, dEq_i, decide_true, decide_false, eChain, eAndM, eSl, oInt, dNeg, fInt, aDef, fTuple])
def row (t : Th) : D := .tup [.int ((size t : Nat) : Int), .int ((depth t : Nat) : Int)]
def tr (p : Th × Int × Nat) : D := .tup [enc p.1, .int p.2.1, .int ((p.2.2 : Nat) : Int)]
/-- behind the look at the size -/
def NB2 (c : Fn → List S → Mach → Rs S Mach) : Sm Mx Out := (sSeq (sSet 3 (eBin dAdd (eVar 3) (eBin dIx (eVar 8) (eC (.int 0)))))
    (sSeq (sIf (tOrM (tOf (eBin dGt (eVar 3) (eC c_MOST_FOUND))) (tOf (eBin dGt (eBin dAdd (eBin dSub (eVar 7) (eC (.int 1))) (eBin dIx (eVar 8) (eC (.int 1)))) (eC c_MOST_FOUND_DEEP)))) (sRaise "TooMany") sNil)
    (sSeq (sSet 9 (eFn fInt (aCons (opd (eBin dIn (eBin dIx (eVar 5) (eC (.int 0))) (eC c_BOUND))) aNil)))
    (sExpr (eExt 4 (eLc (iAnyM (eCall (c .within) (aCons (escf (eVar 5)) aNil))) (kName 11) (fun z => .ok true z) (eTup (aCons (escf (eVar 11)) (aCons (escf (eBin dAdd (eVar 6) (eVar 9))) (aCons (escf (eBin dAdd (eVar 7) (eC (.int 1)))) aNil)))) [11]))))))
def NB (c : Fn → List S → Mach → Rs S Mach) : Sm Mx Out := (sSeq (sAsg (ePop 4) (kTup 3 (ksCons (kName 5) (ksCons (kName 6) (ksCons (kName 7) ksNil)))))
    (sSeq (sSet 8 (eC .non))
    (sSeq (sIf (tOf (eBin dEq (eBin dIx (eVar 5) (eC (.int 0))) (eC (.str "var")))) (sSet 8 (eCall (c .term_for) (aCons (escf (eVar 2)) (aCons (escf (eBin dSub (eBin dIx (eVar 5) (eC (.int 1))) (eVar 6))) aNil)))) sNil)
    (sSeq (sIf (tOf (eBin dIs (eVar 8) (eC .non))) (sSet 8 (eTup (aCons (escf (eC (.int 1))) (aCons (escf (eC (.int 1))) aNil)))) sNil)
    (NB2 c)))))
theorem nb_lc {c : Fn → List S → Mach → Rs S Mach} (hc : ∀ t m, c .within [.d (enc t)] m = .ok (.l (encs (kids t))) m) (s0 s1 s2 s3 s4 s8 s10 : Option S) (t : Th) (b k : Int) (d : Nat) (m : Mach) (hl : (kids t).length ≤ lim) :
    (eLc (iAnyM (eCall (c .within) (aCons (escf (eVar 5)) aNil))) (kName 11) (fun z => .ok true z) (eTup (aCons (escf (eVar 11)) (aCons (escf (eBin dAdd (eVar 6) (eVar 9))) (aCons (escf (eBin dAdd (eVar 7) (eC (.int 1)))) aNil)))) [11] : Sm Mx S) ⟨[s0, s1, s2, s3, s4, some (.d (enc t)), some (.d (.int b)), some (.d (.int (d : Nat))), s8, some (.d (.int k)), s10, none], m⟩ = .ok (.l (((kids t).map fun u => (u, b + k, d + 1)).map tr)) ⟨[s0, s1, s2, s3, s4, some (.d (enc t)), some (.d (.int b)), some (.d (.int (d : Nat))), s8, some (.d (.int k)), s10, none], m⟩ := by
  have i1 : (iAnyM (eCall (c .within) (aCons (escf (eVar 5)) aNil)) : Sm Mx (List D)) ⟨[s0, s1, s2, s3, s4, some (.d (enc t)), some (.d (.int b)), some (.d (.int (d : Nat))), s8, some (.d (.int k)), s10, none], m⟩ = .ok ((kids t).map enc) ⟨[s0, s1, s2, s3, s4, some (.d (enc t)), some (.d (.int b)), some (.d (.int (d : Nat))), s8, some (.d (.int k)), s10, none], m⟩ := by
    simp only [iAnyM]
    walk_at "ey"
    rw [hc, ← encs_map]
    rfl
  rw [List.map_map]
  exact elc_map (M := Mx) enc (g := tr ∘ fun u => (u, b + k, d + 1)) i1 rfl hl (fun u _ => rfl)
theorem nb2_step {c : Fn → List S → Mach → Rs S Mach} (hc : ∀ t m, c .within [.d (enc t)] m = .ok (.l (encs (kids t))) m) (s0 s1 s2 s9 s10 : Option S) (ys : List D) (t : Th) (b : Int) (d p q mn : Nat) (m : Mach) (hl : ys.length + (kids t).length ≤ lim) (h1 : mn + p ≤ 4000) (h2 : d + q ≤ 121) :
    NB2 c ⟨[s0, s1, s2, some (.d (.int (mn : Nat))), some (.l ys), some (.d (enc t)), some (.d (.int b)), some (.d (.int (d : Nat))), some (.d (.tup [.int (p : Nat), .int (q : Nat)])), s9, s10, none], m⟩ = .ok .nx ⟨[s0, s1, s2, some (.d (.int ((mn + p : Nat) : Int))), some (.l (ys ++ ((kids t).map fun u => (u, b + (bnd t : Nat), d + 1)).map tr)), some (.d (enc t)), some (.d (.int b)), some (.d (.int (d : Nat))), some (.d (.tup [.int (p : Nat), .int (q : Nat)])), some (.d (.int (bnd t : Nat))), s10, none], m⟩ := by
  have i0 : dIx (.tup [.int (p : Nat), .int (q : Nat)]) (.int 0) = some (.d (.int (p : Nat))) := rfl
  have i1 : dIx (.tup [.int (p : Nat), .int (q : Nat)]) (.int 1) = some (.d (.int (q : Nat))) := rfl
  have m1 : c_MOST_FOUND = .int 4000 := rfl
  have m2 : c_MOST_FOUND_DEEP = .int 120 := rfl
  have g1 : ¬ (4000 : Int) < (mn : Int) + (p : Int) := by omega
  have g2 : ¬ (120 : Int) < (d : Int) - 1 + (q : Int) := by omega
  unfold NB2
  rw [m1, m2]
  walk_at "ey"
  rw [i0]
  walk_at "ey"
  simp only [g1]
  walk_at "ey"
  rw [i1]
  walk_at "ey"
  simp only [g2]
  walk_at "ey"
  rw [hd0]
  walk_at "ey"
  rw [wdB]
  walk_at "ey"
  rw [bnd_int, nb_lc hc _ _ _ _ _ _ _ t b _ d m (by omega)]
  walk_at "ey"
  rw [if_pos (by rw [List.length_map, List.length_map]; exact hl)]
  have e : ((mn + p : Nat) : Int) = (mn : Int) + (p : Int) := by omega
  rw [e]
  rfl
theorem is_nn : dIs .non .non = some (.d (.bl true)) := rfl
theorem is_row (u : Th) : dIs (row u) .non = some (.d (.bl false)) := rfl
theorem hd1 (v : Int) : dIx (enc (.var v)) (.int 1) = some (.d (.int v)) := by rw [enc]; rfl

theorem nb2_no {c : Fn → List S → Mach → Rs S Mach} (s0 s1 s2 s4 s9 s10 : Option S) (t : Th) (b : Int) (d p q mn : Nat) (m : Mach) (h : ¬ (mn + p ≤ 4000 ∧ d + q ≤ 121)) :
    ∃ rho', NB2 c ⟨[s0, s1, s2, some (.d (.int (mn : Nat))), s4, some (.d (enc t)), some (.d (.int b)), some (.d (.int (d : Nat))), some (.d (.tup [.int (p : Nat), .int (q : Nat)])), s9, s10, none], m⟩ = .ex ⟨"TooMany", none⟩ ⟨rho', m⟩ := by
  have i0 : dIx (.tup [.int (p : Nat), .int (q : Nat)]) (.int 0) = some (.d (.int (p : Nat))) := rfl
  have i1 : dIx (.tup [.int (p : Nat), .int (q : Nat)]) (.int 1) = some (.d (.int (q : Nat))) := rfl
  have m1 : c_MOST_FOUND = .int 4000 := rfl
  have m2 : c_MOST_FOUND_DEEP = .int 120 := rfl
  unfold NB2
  rw [m1, m2]
  walk_at "ey"
  rw [i0]
  walk_at "ey"
  by_cases g1 : (4000 : Int) < (mn : Int) + (p : Int)
  · simp only [g1]
    walk_at "ey"
    exact ⟨_, rfl⟩
  · have g2 : (120 : Int) < (d : Int) - 1 + (q : Int) := by omega
    simp only [g1]
    walk_at "ey"
    rw [i1]
    walk_at "ey"
    simp only [g2]
    walk_at "ey"
    exact ⟨_, rfl⟩
/-- what a node counts: a variable that is met counts as its term -/
def vc (us : List Th) (t : Th) (b : Int) : Nat × Nat := match t with
  | .var v => (match us.reverse[(v - b).toNat]? with
    | some u => if 0 ≤ v - b then (size u, depth u) else (1, 1)
    | none => (1, 1))
  | _ => (1, 1)
theorem vc_non {us : List Th} {t : Th} {b : Int} (h : isVar t = false) : vc us t b = (1, 1) := by
  cases t with
  | var v => cases h
  | _ => rfl
theorem nb_pre {c : Fn → List S → Mach → Rs S Mach} {us : List Th} (m : Mach) (ht1 : ∀ (i : Nat) (d : D), (us.map row).reverse[i]? = some d → c .term_for [.d (.lst (us.map row)), .d (.int (i : Int))] m = .ok (.d d) m) (ht2 : ∀ i : Int, (i < 0 ∨ ((us.length : Nat) : Int) ≤ i) → c .term_for [.d (.lst (us.map row)), .d (.int i)] m = .ok (.d .non) m)
    (s0 s1 s2 s5 s6 s7 s8 s9 s10 : Option S) (h2 : s2 = some (.l (us.map row)) ∨ s2 = some (.d (.lst (us.map row)))) (ys : List D) (t : Th) (b : Int) (d mn : Nat) :
    ∃ (s2' : Option S), (s2' = some (.l (us.map row)) ∨ s2' = some (.d (.lst (us.map row)))) ∧ NB c ⟨[s0, s1, s2, some (.d (.int (mn : Nat))), some (.l (ys ++ [tr (t, b, d)])), s5, s6, s7, s8, s9, s10, none], m⟩ = NB2 c ⟨[s0, s1, s2', some (.d (.int (mn : Nat))), some (.l ys), some (.d (enc t)), some (.d (.int b)), some (.d (.int (d : Nat))), some (.d (.tup [.int ((vc us t b).1 : Nat), .int ((vc us t b).2 : Nat)])), s9, s10, none], m⟩ := by
  have e1 : (ys ++ [tr (t, b, d)])[(ys ++ [tr (t, b, d)]).length - 1]? = some (tr (t, b, d)) := by simp
  have e2 : (ys ++ [tr (t, b, d)]).dropLast = ys := by simp
  unfold NB
  walk_at "ey"
  rw [e1, e2]
  simp only [tr]
  walk_at "ey"
  rw [hd0]
  walk_at "ey"
  rw [wdV]
  walk_at "ey"
  cases hv : isVar t with
  | false =>
    walk_at "ey"
    rw [is_nn, vc_non hv]
    walk_at "ey"
    exact ⟨s2, h2, rfl⟩
  | true =>
    cases t with
    | var v =>
      walk_at "ey"
      have tf : ∃ r : D, c .term_for [.d (.lst (us.map row)), .d (.int (v - b))] m = .ok (.d r) m ∧ ((r = .non ∧ vc us (.var v) b = (1, 1)) ∨ ∃ u, r = row u ∧ vc us (.var v) b = (size u, depth u)) := by
        by_cases q : 0 ≤ v - b ∧ v - b < (us.length : Nat)
        · have e : v - b = (((v - b).toNat : Nat) : Int) := by omega
          have hi : (v - b).toNat < us.reverse.length := by rw [List.length_reverse]; omega
          obtain ⟨u, eu⟩ : ∃ u, us.reverse[(v - b).toNat]? = some u := ⟨_, List.getElem?_eq_getElem hi⟩
          have f := ht1 (v - b).toNat (row u) (by rw [← List.map_reverse, List.getElem?_map, eu]; rfl)
          rw [← e] at f
          exact ⟨_, f, .inr ⟨u, rfl, by unfold vc; simp only [eu]; rw [if_pos q.1]⟩⟩
        · refine ⟨_, ht2 (v - b) (by omega), .inl ⟨rfl, ?_⟩⟩
          unfold vc
          simp only []
          split
          · rename_i u eu
            have hi := (List.getElem?_eq_some_iff.mp eu).1
            rw [List.length_reverse] at hi
            rw [if_neg (by omega)]
          · rfl
      obtain ⟨r, f, hr⟩ := tf
      rcases h2 with rfl | rfl
      · walk_at "ey"
        rw [hd1]
        walk_at "ey"
        rw [f]
        walk_at "ey"
        rcases hr with ⟨rfl, hr⟩ | ⟨u, rfl, hr⟩
        · rw [is_nn, hr]
          walk_at "ey"
          exact ⟨_, .inr rfl, rfl⟩
        · rw [is_row, hr]
          walk_at "ey"
          exact ⟨_, .inr rfl, rfl⟩
      · walk_at "ey"
        rw [hd1]
        walk_at "ey"
        rw [f]
        walk_at "ey"
        rcases hr with ⟨rfl, hr⟩ | ⟨u, rfl, hr⟩
        · rw [is_nn, hr]
          walk_at "ey"
          exact ⟨_, .inr rfl, rfl⟩
        · rw [is_row, hr]
          walk_at "ey"
          exact ⟨_, .inr rfl, rfl⟩
    | _ => cases hv
/-! sizes of what comes -/
mutual
theorem lift_size (k : Int) : ∀ (t : Th) (a : Int), size (lift k t a) = size t ∧ depth (lift k t a) = depth t ∧ nms (lift k t a) = nms t
  | .var v, a => by rw [lift]; split <;> simp [size, depth, nms]
  | .call f as, a => by obtain ⟨h1, h2, h3⟩ := lifts_size k as a; simp [lift, size, depth, nms, h1, h2, h3]
  | .rel f as, a => by obtain ⟨h1, h2, h3⟩ := lifts_size k as a; simp [lift, size, depth, nms, h1, h2, h3]
  | .same x y, a => by obtain ⟨h1, h2, h3⟩ := lift_size k x a; obtain ⟨g1, g2, g3⟩ := lift_size k y a; simp [lift, size, depth, nms, h1, h2, h3, g1, g2, g3]
  | .no, a => by simp [lift]
  | .and x y, a => by obtain ⟨h1, h2, h3⟩ := lift_size k x a; obtain ⟨g1, g2, g3⟩ := lift_size k y a; simp [lift, size, depth, nms, h1, h2, h3, g1, g2, g3]
  | .or x y, a => by obtain ⟨h1, h2, h3⟩ := lift_size k x a; obtain ⟨g1, g2, g3⟩ := lift_size k y a; simp [lift, size, depth, nms, h1, h2, h3, g1, g2, g3]
  | .imp x y, a => by obtain ⟨h1, h2, h3⟩ := lift_size k x a; obtain ⟨g1, g2, g3⟩ := lift_size k y a; simp [lift, size, depth, nms, h1, h2, h3, g1, g2, g3]
  | .all s x, a => by obtain ⟨h1, h2, h3⟩ := lift_size k x (a + 1); simp [lift, size, depth, nms, h1, h2, h3]
  | .some s x, a => by obtain ⟨h1, h2, h3⟩ := lift_size k x (a + 1); simp [lift, size, depth, nms, h1, h2, h3]
theorem lifts_size (k : Int) : ∀ (ts : List Th) (a : Int), sizes (lifts k ts a) = sizes ts ∧ depths (lifts k ts a) = depths ts ∧ nmss (lifts k ts a) = nmss ts
  | [], a => by simp [lifts]
  | t :: r, a => by obtain ⟨h1, h2, h3⟩ := lift_size k t a; obtain ⟨g1, g2, g3⟩ := lifts_size k r a; simp [lifts, sizes, depths, nmss, h1, h2, h3, g1, g2, g3]
end
theorem sub_node (us : List Th) (t : Th) (b : Int) : size (sub us t b) = (vc us t b).1 + sizes (subs us (kids t) (b + (bnd t : Nat))) ∧ (isVar t = true → depth (sub us t b) = (vc us t b).2) ∧ (isVar t = false → depth (sub us t b) = 1 + depths (subs us (kids t) (b + (bnd t : Nat)))) := by
  cases t with
  | var v =>
    have e : kids (.var v) = [] := rfl
    refine ⟨?_, fun _ => ?_, fun h => by cases h⟩
    · rw [e, subs, sizes, sub, subV, vc]
      cases us.reverse[(v - b).toNat]? with
      | none => simp only []; split <;> simp [size]
      | some u =>
        simp only []
        by_cases c : 0 ≤ v - b
        · rw [if_pos c, if_pos c, (lift_size b u 0).1]; simp
        · rw [if_neg c, if_neg c]; simp [size]
    · rw [sub, subV, vc]
      cases us.reverse[(v - b).toNat]? with
      | none => simp only []; split <;> simp [depth]
      | some u =>
        simp only []
        by_cases c : 0 ≤ v - b
        · rw [if_pos c, if_pos c, (lift_size b u 0).2.1]
        · rw [if_neg c, if_neg c]; simp [depth]
  | _ => exact ⟨by simp [sub, size, vc, kids, subs, sizes, bnd], (fun h => by cases h), fun _ => by simp [sub, depth, kids, subs, depths, bnd]⟩
/-! the loop -/
def tS (us : List Th) : List (Th × Int × Nat) → Nat
  | [] => 0
  | (t, b, _) :: r => size (sub us t b) + tS us r
theorem tS_append (us : List Th) : ∀ xs ys, tS us (xs ++ ys) = tS us xs + tS us ys
  | [], ys => by simp [tS]
  | (t, b, d) :: r, ys => by simp only [List.cons_append, tS, tS_append us r ys]; omega
theorem tS_kids (us : List Th) (b : Int) (d : Nat) : ∀ ts : List Th, tS us (ts.map fun t => (t, b, d)) = sizes (subs us ts b)
  | [] => by simp [tS, subs, sizes]
  | t :: r => by simp only [List.map_cons, tS, subs, sizes, tS_kids us b d r]
theorem subs_mem {us : List Th} {b : Int} : ∀ {ts : List Th} {n : Nat}, depths (subs us ts b) ≤ n ↔ ∀ u ∈ ts, depth (sub us u b) ≤ n
  | [], n => by simp [subs, depths]
  | t :: r, n => by
    rw [subs, depths]
    have := subs_mem (us := us) (b := b) (ts := r) (n := n)
    constructor
    · intro h u hu
      rcases List.mem_cons.mp hu with rfl | hu
      · omega
      · exact this.mp (by omega) u hu
    · intro h
      have h1 := h t List.mem_cons_self
      have h2 := this.mpr fun u hu => h u (List.mem_cons_of_mem _ hu)
      omega
def goodT (us : List Th) (mn : Nat) (ts : List (Th × Int × Nat)) : Prop := mn + tS us ts ≤ 4000 ∧ ∀ p ∈ ts, p.2.2 + depth (sub us p.1 p.2.1) ≤ 121
theorem goodT_step (us : List Th) (mn : Nat) (r : List (Th × Int × Nat)) (t : Th) (b : Int) (d : Nat) :
    goodT us mn (r ++ [(t, b, d)]) ↔ (mn + (vc us t b).1 ≤ 4000 ∧ d + (vc us t b).2 ≤ 121) ∧ goodT us (mn + (vc us t b).1) (r ++ (kids t).map fun u => (u, b + (bnd t : Nat), d + 1)) := by
  obtain ⟨n1, n2, n3⟩ := sub_node us t b
  have one : tS us [(t, b, d)] = size (sub us t b) := by simp [tS]
  unfold goodT
  rw [tS_append, tS_append, one, tS_kids, n1]
  have kd : (∀ p ∈ (kids t).map fun u => (u, b + ((bnd t : Nat) : Int), d + 1), p.2.2 + depth (sub us p.1 p.2.1) ≤ 121) ↔ ∀ u ∈ kids t, d + 1 + depth (sub us u (b + (bnd t : Nat))) ≤ 121 := by
    constructor
    · intro h u hu
      exact h (u, b + ((bnd t : Nat) : Int), d + 1) (List.mem_map.mpr ⟨u, hu, rfl⟩)
    · intro h p hp
      obtain ⟨u, hu, rfl⟩ := List.mem_map.mp hp
      exact h u hu
  have al : ∀ xs ys : List (Th × Int × Nat), (∀ p ∈ xs ++ ys, p.2.2 + depth (sub us p.1 p.2.1) ≤ 121) ↔ (∀ p ∈ xs, p.2.2 + depth (sub us p.1 p.2.1) ≤ 121) ∧ ∀ p ∈ ys, p.2.2 + depth (sub us p.1 p.2.1) ≤ 121 := fun xs ys => by
    constructor
    · intro h
      exact ⟨fun p hp => h p (List.mem_append_left _ hp), fun p hp => h p (List.mem_append_right _ hp)⟩
    · intro h p hp
      rcases List.mem_append.mp hp with hp | hp
      · exact h.1 p hp
      · exact h.2 p hp
  rw [al, al, kd]
  have self : (∀ p ∈ [(t, b, d)], p.2.2 + depth (sub us p.1 p.2.1) ≤ 121) ↔ d + depth (sub us t b) ≤ 121 := by simp
  rw [self]
  have key : d + depth (sub us t b) ≤ 121 ↔ d + (vc us t b).2 ≤ 121 ∧ ∀ u ∈ kids t, d + 1 + depth (sub us u (b + (bnd t : Nat))) ≤ 121 := by
    cases hv : isVar t with
    | true =>
      rw [n2 hv]
      have e : kids t = [] := by cases t <;> first | rfl | cases hv
      rw [e]
      simp
    | false =>
      rw [n3 hv, vc_non hv]
      have q : (∀ u ∈ kids t, d + 1 + depth (sub us u (b + (bnd t : Nat))) ≤ 121) ↔ (depths (subs us (kids t) (b + (bnd t : Nat))) ≤ 120 - d ∨ kids t = []) ∧ (d + 1 ≤ 121 ∨ kids t = []) := by
        constructor
        · intro h
          cases hk : kids t with
          | nil => exact ⟨.inr rfl, .inr rfl⟩
          | cons x r =>
            rw [hk] at h
            have := h x List.mem_cons_self
            exact ⟨.inl (subs_mem.mpr fun u hu => by have := h u hu; omega), .inl (by omega)⟩
        · rintro ⟨h1 | h1, h2 | h2⟩ u hu
          · have := subs_mem.mp h1 u hu
            omega
          · rw [h2] at hu; cases hu
          · rw [h1] at hu; cases hu
          · rw [h1] at hu; cases hu
      rw [q]
      have z : kids t = [] → depths (subs us (kids t) (b + (bnd t : Nat))) = 0 := fun h => by rw [h, subs, depths]
      constructor
      · intro h
        exact ⟨by show d + 1 ≤ 121; omega, .inl (by omega), .inl (by omega)⟩
      · rintro ⟨h0, h1 | h1, h2⟩
        · have h0' : d + 1 ≤ 121 := h0
          omega
        · have h0' : d + 1 ≤ 121 := h0
          have := z h1
          omega
  rw [key]
  constructor
  · rintro ⟨h1, h2, h3, h4⟩
    exact ⟨⟨by omega, h3⟩, by omega, h2, h4⟩
  · rintro ⟨⟨h1, h2⟩, h3, h4, h5⟩
    exact ⟨by omega, h4, h2, h5⟩

def szT : List (Th × Int × Nat) → Nat
  | [] => 0
  | (t, _, _) :: r => size t + szT r
def nmT : List (Th × Int × Nat) → Bool
  | [] => true
  | (t, _, _) :: r => nms t && nmT r
theorem szT_append : ∀ xs ys, szT (xs ++ ys) = szT xs + szT ys
  | [], ys => by simp [szT]
  | x :: r, ys => by simp only [List.cons_append, szT, szT_append r ys]; omega
theorem nmT_append : ∀ xs ys, nmT (xs ++ ys) = (nmT xs && nmT ys)
  | [], ys => by simp [nmT]
  | x :: r, ys => by simp only [List.cons_append, nmT, nmT_append r ys, Bool.and_assoc]
theorem szT_len : ∀ ts : List (Th × Int × Nat), ts.length ≤ szT ts
  | [] => by simp [szT]
  | (t, _, _) :: r => by
    have h := szT_len r
    have h2 := size_kids t
    simp only [List.length_cons, szT]
    omega
theorem szT_kids (b : Int) (d : Nat) : ∀ ts : List Th, szT (ts.map fun t => (t, b, d)) = sizes ts
  | [] => by simp [szT, sizes]
  | t :: r => by simp only [List.map_cons, szT, sizes, szT_kids b d r]
theorem nmT_kids (b : Int) (d : Nat) : ∀ ts : List Th, nmT (ts.map fun t => (t, b, d)) = nmss ts
  | [] => by simp [nmT, nmss]
  | t :: r => by simp only [List.map_cons, nmT, nmss, nmT_kids b d r]
theorem lays_trs : ∀ ts : List (Th × Int × Nat), lays (ts.map tr) = nmT ts
  | [] => by simp [lays, nmT]
  | (t, b, d) :: r => by simp [lays, nmT, tr, lay, lay_enc, lays_trs r]
theorem nb_cond (s0 s1 s2 s3 s5 s6 s7 s8 s9 s10 s11 : Option S) {xs : List D} (m : Mach) (h : lays xs = true) : (tOf (eBin dNe (eVar 4) (eLst aNil)) : Sm Mx Bool) ⟨[s0, s1, s2, s3, some (.l xs), s5, s6, s7, s8, s9, s10, s11], m⟩ = .ok (!xs.isEmpty) ⟨[s0, s1, s2, s3, some (.l xs), s5, s6, s7, s8, s9, s10, s11], m⟩ := by
  walk_at "ey"
  simp only [ne_nil h]
  rfl
theorem nb_loop {c : Fn → List S → Mach → Rs S Mach} (hc : ∀ t m, c .within [.d (enc t)] m = .ok (.l (encs (kids t))) m) {us : List Th}
    (m : Mach) (ht1 : ∀ (i : Nat) (d : D), (us.map row).reverse[i]? = some d → c .term_for [.d (.lst (us.map row)), .d (.int (i : Int))] m = .ok (.d d) m) (ht2 : ∀ i : Int, (i < 0 ∨ ((us.length : Nat) : Int) ≤ i) → c .term_for [.d (.lst (us.map row)), .d (.int i)] m = .ok (.d .non) m) (s0 s1 s10 : Option S) :
    ∀ (n : Nat) (ts : List (Th × Int × Nat)) (mn : Nat) (s2 s5 s6 s7 s8 s9 : Option S), (s2 = some (.l (us.map row)) ∨ s2 = some (.d (.lst (us.map row)))) → szT ts < n → szT ts ≤ 900000 → nmT ts = true →
    (goodT us mn ts → ∃ rho', (sWhile (tOf (eBin dNe (eVar 4) (eLst aNil))) (NB c) n : Sm Mx Out) ⟨[s0, s1, s2, some (.d (.int (mn : Nat))), some (.l (ts.map tr)), s5, s6, s7, s8, s9, s10, none], m⟩ = .ok .nx ⟨rho', m⟩) ∧
    (¬ goodT us mn ts → mn ≤ 4000 → ∃ rho', (sWhile (tOf (eBin dNe (eVar 4) (eLst aNil))) (NB c) n : Sm Mx Out) ⟨[s0, s1, s2, some (.d (.int (mn : Nat))), some (.l (ts.map tr)), s5, s6, s7, s8, s9, s10, none], m⟩ = .ex ⟨"TooMany", none⟩ ⟨rho', m⟩)
  | 0, ts, _, _, _, _, _, _, _, _, h, _, _ => by omega
  | n + 1, ts, mn, s2, s5, s6, s7, s8, s9, h2, h, hs, hn => by
    rcases split_lastP ts with rfl | ⟨r, ⟨t, b, d⟩, rfl⟩
    · refine ⟨fun _ => ?_, fun hb hm => ?_⟩
      · unfold sWhile
        rw [nb_cond _ _ _ _ _ _ _ _ _ _ _ _ (by rw [lays_trs]; exact hn)]
        exact ⟨[s0, s1, s2, some (.d (.int (mn : Nat))), some (.l []), s5, s6, s7, s8, s9, s10, none], by simp⟩
      · exact (hb ⟨by simpa [tS] using hm, fun p hp => by cases hp⟩).elim
    · rw [szT_append] at h hs
      have e0 : ((r ++ [(t, b, d)]).map tr).isEmpty = false := by simp
      have e1 : (r ++ [(t, b, d)]).map tr = r.map tr ++ [tr (t, b, d)] := by simp
      have e2 : szT [(t, b, d)] = 1 + sizes (kids t) := by simp only [szT, size_kids]; omega
      have hr := szT_len r
      have hk := sizes_len (kids t)
      have hn0 := hn
      rw [nmT_append, Bool.and_eq_true] at hn
      have hn2 : nms t = true := by have := hn.2; simpa [nmT] using this
      obtain ⟨s2', g1, g3⟩ := nb_pre m ht1 ht2 s0 s1 s2 s5 s6 s7 s8 s9 s10 h2 (r.map tr) t b d mn
      have st : ∀ {X : Rs Out (Z Mach)}, NB c ⟨[s0, s1, s2, some (.d (.int (mn : Nat))), some (.l (r.map tr ++ [tr (t, b, d)])), s5, s6, s7, s8, s9, s10, none], m⟩ = X → (sWhile (tOf (eBin dNe (eVar 4) (eLst aNil))) (NB c) (n + 1) : Sm Mx Out) ⟨[s0, s1, s2, some (.d (.int (mn : Nat))), some (.l ((r ++ [(t, b, d)]).map tr)), s5, s6, s7, s8, s9, s10, none], m⟩ = X.bind fun o z2 => (match o with
          | .nx => sWhile (tOf (eBin dNe (eVar 4) (eLst aNil))) (NB c) n z2
          | .ct => sWhile (tOf (eBin dNe (eVar 4) (eLst aNil))) (NB c) n z2
          | .bk => .ok .nx z2
          | .rt s => .ok (.rt s) z2) := fun {X} hX => by
        conv => lhs; unfold sWhile
        rw [nb_cond _ _ _ _ _ _ _ _ _ _ _ _ (by rw [lays_trs]; exact hn0), e0, e1]
        simp only [Bool.not_false, Rs.bind_ok, if_true]
        rw [hX]
        all_goals rfl
      by_cases nd : mn + (vc us t b).1 ≤ 4000 ∧ d + (vc us t b).2 ≤ 121
      · have y := nb2_step hc s0 s1 s2' s9 s10 (r.map tr) t b d (vc us t b).1 (vc us t b).2 mn m (by rw [List.length_map]; show _ ≤ 1000000; omega) nd.1 nd.2
        have ih := nb_loop hc m ht1 ht2 s0 s1 s10 n (r ++ (kids t).map fun u => (u, b + (bnd t : Nat), d + 1)) (mn + (vc us t b).1) s2' (some (.d (enc t))) (some (.d (.int b))) (some (.d (.int (d : Nat)))) (some (.d (.tup [.int ((vc us t b).1 : Nat), .int ((vc us t b).2 : Nat)]))) (some (.d (.int (bnd t : Nat)))) g1 (by rw [szT_append, szT_kids]; omega) (by rw [szT_append, szT_kids]; omega) (by rw [nmT_append, hn.1, nmT_kids, nms_kids hn2]; rfl)
        have sw := st (g3.trans y)
        rw [← List.map_append] at sw
        rw [sw]
        simp only [Rs.bind_ok]
        exact ⟨fun hg => ih.1 ((goodT_step us mn r t b d).mp hg).2, fun hg _ => ih.2 (fun q => hg ((goodT_step us mn r t b d).mpr ⟨nd, q⟩)) nd.1⟩
      · obtain ⟨rho', y⟩ := nb2_no (c := c) s0 s1 s2' (some (.l (r.map tr))) s9 s10 t b d (vc us t b).1 (vc us t b).2 mn m nd
        have sw := st (g3.trans y)
        rw [sw]
        refine ⟨fun hg => (nd ((goodT_step us mn r t b d).mp hg).1).elim, fun _ _ => ⟨rho', rfl⟩⟩
theorem row_call {c : Fn → List S → Mach → Rs S Mach} {u : Th} {s0 s1 : Option S} (m : Mach) (h1 : c .parts_of [.d (enc u)] m = .ok (.d (.int (size u : Nat))) m) (h2 : c .deep_of [.d (enc u)] m = .ok (.d (.int (depth u : Nat))) m) :
    escf (eTup (aCons (escf (eCall (c .parts_of) (aCons (escf (eVar 10)) aNil))) (aCons (escf (eCall (c .deep_of) (aCons (escf (eVar 10)) aNil))) aNil)) : Sm Mx S) ⟨[s0, s1, none, none, none, none, none, none, none, none, some (.d (enc u)), none], m⟩ = .ok (.d (row u)) ⟨[s0, s1, none, none, none, none, none, none, none, none, some (.d (enc u)), none], m⟩ := by
  walk_at "ey"
  rw [h1]
  walk_at "ey"
  rw [h2]
  walk_at "ey"
  rfl

def fnR (X : Rs Out (Z Mach)) : Rs S Mach := match X with
  | .ok (.rt s) z => .ok s z.m
  | .ok .nx z => .ok (.d .non) z.m
  | .ok _ _ => .bad
  | .ex x z => .ex x z.m
  | .bad => .bad
theorem nf_gen {W : Sm Mx Out} {x y : D} {m : Mach} {rows : List D} {X : Rs Out (Z Mach)} {E : Sm Mx S} (hE : E ⟨[some (.d x), some (.d y), none, none, none, none, none, none, none, none, none, none], m⟩ = .ok (.l rows) ⟨[some (.d x), some (.d y), none, none, none, none, none, none, none, none, none, none], m⟩)
    (hW : W ⟨[some (.d x), some (.d y), some (.l rows), some (.d (.int 0)), some (.l [.tup [x, .int 0, .int 1]]), none, none, none, none, none, none, none], m⟩ = X) :
    fnM 12 (sSeq (sSet 2 E) (sSeq (sSet 3 (eC (.int 0))) (sSeq (sSet 4 (eLst (aCons (escf (eTup (aCons (escf (eVar 0)) (aCons (escf (eC (.int 0))) (aCons (escf (eC (.int 1))) aNil))))) aNil))) W))) [.d x, .d y] m = fnR X := by
  subst hW
  walk_at "ey"
  rw [hE]
  walk_at "ey"
  generalize W _ = X
  cases X with
  | ok o z => cases o <;> rfl
  | ex _ _ => rfl
  | bad => rfl
/-- need_fit lets by just what fits -/
theorem need_fit_eq (n : Nat) (t : Th) (us : List Th) (m : Mach) (hu : ∀ u ∈ us, size u ≤ 900000 ∧ nms u = true) (hul : us.length ≤ 1000) (h1 : size t ≤ 900000) (hn : nms t = true) :
    (size (sub us t 0) ≤ 4000 ∧ depth (sub us t 0) ≤ 120 → mir (n + 3) .need_fit [.d (enc t), .d (.tup (encs us))] m = .ok (.d .non) m) ∧ (¬ (size (sub us t 0) ≤ 4000 ∧ depth (sub us t 0) ≤ 120) → mir (n + 3) .need_fit [.d (enc t), .d (.tup (encs us))] m = .ex ⟨"TooMany", none⟩ m) := by
  have hE := elc_map (M := Mx) (i := 10) (its := iAnyM (eVar 1)) (e := (eTup (aCons (escf (eCall (mir (n + 2) .parts_of) (aCons (escf (eVar 10)) aNil))) (aCons (escf (eCall (mir (n + 2) .deep_of) (aCons (escf (eVar 10)) aNil))) aNil)))) enc (g := row) (ts := us) (z := ⟨[some (.d (enc t)), some (.d (.tup (encs us))), none, none, none, none, none, none, none, none, none, none], m⟩) (z0 := ⟨[some (.d (enc t)), some (.d (.tup (encs us))), none, none, none, none, none, none, none, none, none, none], m⟩) (by rw [encs_map]; rfl) rfl (by show _ ≤ 1000000; omega) (fun u hu2 => row_call m (parts_eq n u m (hu u hu2).1 (hu u hu2).2) (deep_eq n u m (hu u hu2).1 (hu u hu2).2))
  have e : szT [(t, 0, 1)] = size t := by simp [szT]
  obtain ⟨y1, y2⟩ := nb_loop (c := mir (n + 2)) (fun t m => within_eq (n + 1) t m) (us := us) m (fun i d h => tf_some (sq_lst (us.map row)) (n + 1) m h) (fun i h => tf_none (sq_lst (us.map row)) (n + 1) m (by rw [List.length_map]; exact h)) (some (.d (enc t))) (some (.d (.tup (encs us)))) none whileN [(t, 0, 1)] 0 (some (.l (us.map row))) none none none none none (.inl rfl) (by rw [e]; show _ < 1000000000; omega) (by rw [e]; exact h1) (by simpa [nmT] using hn)
  have gi : goodT us 0 [(t, 0, 1)] ↔ size (sub us t 0) ≤ 4000 ∧ depth (sub us t 0) ≤ 120 := by
    unfold goodT
    simp only [tS, List.mem_singleton, forall_eq]
    omega
  constructor
  · intro h
    obtain ⟨rho', hW⟩ := y1 (gi.mpr h)
    exact nf_gen hE hW
  · intro h
    obtain ⟨rho', hW⟩ := y2 (fun q => h (gi.mp q)) (by omega)
    exact nf_gen hE hW
end L
set_option pp.maxSteps 400
set_option pp.deepTerms false
namespace L
open PySem L2 G
variable [TP]
theorem xb_var : dIn (.str "var") (.tup [.str "all", .str "some"]) = some (.d (.bl false)) := wb_var
theorem xc_var : dIn (.str "var") (.tup [.str "call", .str "rel"]) = some (.d (.bl false)) := wc_var
theorem xb_call : dIn (.str "call") (.tup [.str "all", .str "some"]) = some (.d (.bl false)) := wb_call
theorem xc_call : dIn (.str "call") (.tup [.str "call", .str "rel"]) = some (.d (.bl true)) := wc_call
theorem xb_rel : dIn (.str "rel") (.tup [.str "all", .str "some"]) = some (.d (.bl false)) := wb_rel
theorem xc_rel : dIn (.str "rel") (.tup [.str "call", .str "rel"]) = some (.d (.bl true)) := wc_rel
theorem xb_same : dIn (.str "same") (.tup [.str "all", .str "some"]) = some (.d (.bl false)) := wb_same
theorem xc_same : dIn (.str "same") (.tup [.str "call", .str "rel"]) = some (.d (.bl false)) := wc_same
theorem xb_no : dIn (.str "no") (.tup [.str "all", .str "some"]) = some (.d (.bl false)) := wb_no
theorem xc_no : dIn (.str "no") (.tup [.str "call", .str "rel"]) = some (.d (.bl false)) := wc_no
theorem xb_and : dIn (.str "and") (.tup [.str "all", .str "some"]) = some (.d (.bl false)) := wb_and
theorem xc_and : dIn (.str "and") (.tup [.str "call", .str "rel"]) = some (.d (.bl false)) := wc_and
theorem xb_or : dIn (.str "or") (.tup [.str "all", .str "some"]) = some (.d (.bl false)) := wb_or
theorem xc_or : dIn (.str "or") (.tup [.str "call", .str "rel"]) = some (.d (.bl false)) := wc_or
theorem xb_if : dIn (.str "if") (.tup [.str "all", .str "some"]) = some (.d (.bl false)) := wb_if
theorem xc_if : dIn (.str "if") (.tup [.str "call", .str "rel"]) = some (.d (.bl false)) := wc_if
theorem xb_all : dIn (.str "all") (.tup [.str "all", .str "some"]) = some (.d (.bl true)) := wb_all
theorem xc_all : dIn (.str "all") (.tup [.str "call", .str "rel"]) = some (.d (.bl false)) := wc_all
theorem xb_some : dIn (.str "some") (.tup [.str "all", .str "some"]) = some (.d (.bl true)) := wb_some
theorem xc_some : dIn (.str "some") (.tup [.str "call", .str "rel"]) = some (.d (.bl false)) := wc_some
theorem sl2 (a b c : D) : dSl (.tup [a, b, c]) none (some 2) = some (.t [a, b]) := rfl
theorem sl1 (a b c : D) : dSl (.tup [a, b, c]) none (some 1) = some (.t [a]) := rfl
theorem slr (a b c : D) : dSl (.tup [a, b, c]) (some 1) none = some (.t [b, c]) := rfl
theorem sn1 (a : D) : dSl (.tup [a]) none (some 1) = some (.t [a]) := rfl
theorem snr (a : D) : dSl (.tup [a]) (some 1) none = some (.t []) := rfl
theorem ta21 (a b c : D) : dAdd (.tup [a, b]) (.tup [c]) = some (.t [a, b, c]) := by unfold dAdd; exact if_pos (show 2 + 1 ≤ 1000000 by omega)
theorem ta12 (a b c : D) : dAdd (.tup [a]) (.tup [b, c]) = some (.t [a, b, c]) := by unfold dAdd; exact if_pos (show 1 + 2 ≤ 1000000 by omega)
theorem ta10 (a : D) : dAdd (.tup [a]) (.tup []) = some (.t [a]) := by unfold dAdd; exact if_pos (show 1 + 0 ≤ 1000000 by omega)
local macro_rules | `(tactic| walk_at "ex") => `(tactic| try simp only [sSeq, sSet, sExpr, sRet, sIf, sAsg, una, escf, escS, opd, eVar, eC, eBin, eUn, eFn, eCall, eTup, eLst, aCons, aNil, fin, rd, rds, R.toS, dsOf, Rs.bind_ok, Rs.bind_bad, Rs.bind_ex, Rs.opt_some, Option.bind_some, Option.map_some, ownAt, eExt, eApp, ePop, List.getElem?_cons_zero, List.getElem?_cons_succ, List.set_cons_zero, List.set_cons_succ, okArg, List.all_cons, List.all_nil, Bool.and_self, if_true, kName, kTup, ksCons, ksNil, fMax, tOf, List.length_cons, List.length_nil, Bool.not_false, Bool.not_true, if_false, Bool.false_eq_true, lm0, lm1, lm2, lm3, lm4, lm5, lm6, lm7, lm8, lm9, lm10, lm11, lm12, fnM, List.map_cons, List.map_nil, List.replicate, List.cons_append, List.nil_append, Nat.reduceAdd, Nat.reduceSub, sNil, tAndM, tOrM, tNotM, tTru, dTru, eIf, dSub_i, dAdd_i, dLt_i, dLe_i, dGt_i, dGe_i, dEq_i, decide_true, decide_false, eChain, eAndM, eSl, oInt, dNeg, dIx, atI0, atI1, atI2, aDef, fTuple, wv_var, wc_var, wj_var, wb_var, wv_call, wc_call, wj_call, wb_call, wv_rel, wc_rel, wj_rel, wb_rel, wv_same, wc_same, wj_same, wb_same, wv_no, wc_no, wj_no, wb_no, wv_and, wc_and, wj_and, wb_and, wv_or, wc_or, wj_or, wb_or, wv_if, wc_if, wj_if, wb_if, wv_all, wc_all, wj_all, wb_all, wv_some, wc_some, wj_some, wb_some])
local macro_rules | `(tactic| walk_at "ey") => `(tactic| try simp only [sSeq, sSet, sExpr, sRet, sIf, sAsg, una, escf, escS, opd, eVar, eC, eBin, eUn, eFn, eCall, eTup, eLst, aCons, aNil, fin, rd, rds, R.toS, dsOf, Rs.bind_ok, Rs.bind_bad, Rs.bind_ex, Rs.opt_some, Option.bind_some, Option.map_some, ownAt, eExt, eApp, ePop, List.getElem?_cons_zero, List.getElem?_cons_succ, List.set_cons_zero, List.set_cons_succ, okArg, List.all_cons, List.all_nil, Bool.and_self, if_true, kName, kTup, ksCons, ksNil, fMax, tOf, List.length_cons, List.length_nil, Bool.not_false, Bool.not_true, if_false, Bool.false_eq_true, lm0, lm1, lm2, lm3, lm4, lm5, lm6, lm7, lm8, lm9, lm10, lm11, lm12, fnM, List.map_cons, List.map_nil, List.replicate, List.cons_append, List.nil_append, Nat.reduceAdd, Nat.reduceSub, sNil, tAndM, tOrM, tNotM, tTru, dTru, eIf, dSub_i, dAdd_i, dLt_i, dLe_i, dGt_i, dGe_i, dEq_i, decide_true, decide_false, eChain, eAndM, eSl, oInt, dNeg, fInt, aDef, fTuple])
local macro_rules | `(tactic| walk_at "ez") => `(tactic| try simp only [sSeq, sSet, sExpr, sRet, sIf, sAsg, una, escf, escS, opd, eVar, eC, eBin, eUn, eFn, eCall, eTup, eLst, aCons, aNil, fin, rd, rds, R.toS, dsOf, Rs.bind_ok, Rs.bind_bad, Rs.bind_ex, Rs.opt_some, Option.bind_some, Option.map_some, ownAt, eExt, eApp, ePop, List.getElem?_cons_zero, List.getElem?_cons_succ, List.set_cons_zero, List.set_cons_succ, okArg, List.all_cons, List.all_nil, Bool.and_self, if_true, kName, kTup, ksCons, ksNil, fMax, tOf, List.length_cons, List.length_nil, Bool.not_false, Bool.not_true, if_false, Bool.false_eq_true, lm0, lm1, lm2, lm3, lm4, lm5, lm6, lm7, lm8, lm9, lm10, lm11, lm12, fnM, List.map_cons, List.map_nil, List.replicate, List.cons_append, List.nil_append, Nat.reduceAdd, Nat.reduceSub, sNil, tAndM, tOrM, tNotM, tTru, dTru, eIf, dSub_i, dAdd_i, dLt_i, dLe_i, dGt_i, dGe_i, dEq_i, decide_true, decide_false, eChain, eAndM, eSl, oInt, dNeg, dIx, atI0, atI1, atI2, aDef, fTuple, wv_var, wc_var, wj_var, wb_var, wv_call, wc_call, wj_call, wb_call, wv_rel, wc_rel, wj_rel, wb_rel, wv_same, wc_same, wj_same, wb_same, wv_no, wc_no, wj_no, wb_no, wv_and, wc_and, wj_and, wb_and, wv_or, wc_or, wj_or, wb_or, wv_if, wc_if, wj_if, wb_if, wv_all, wc_all, wj_all, wb_all, wv_some, wc_some, wj_some, wb_some , sl2, sl1, slr, sn1, snr, ta21, ta12, ta10, xb_var, xc_var, xb_call, xc_call, xb_rel, xc_rel, xb_same, xc_same, xb_no, xc_no, xb_and, xc_and, xb_or, xc_or, xb_if, xc_if, xb_all, xc_all, xb_some, xc_some])
mutual
def nmd : Th → Int → D
  | .var v, b => if v < b then .tup [.str "own", .int (b - 1 - v)] else .tup [.str "free", .int (v - b)]
  | .call f as, b => .tup [.str "call", .str f, .tup (nmds as b)]
  | .rel f as, b => .tup [.str "rel", .str f, .tup (nmds as b)]
  | .same x y, b => .tup [.str "same", nmd x b, nmd y b]
  | .no, _ => .tup [.str "no"]
  | .and x y, b => .tup [.str "and", nmd x b, nmd y b]
  | .or x y, b => .tup [.str "or", nmd x b, nmd y b]
  | .imp x y, b => .tup [.str "if", nmd x b, nmd y b]
  | .all s x, b => .tup [.str "all", .str s, nmd x (b + 1)]
  | .some s x, b => .tup [.str "some", .str s, nmd x (b + 1)]
def nmds : List Th → Int → List D
  | [], _ => []
  | t :: r, b => nmd t b :: nmds r b
end
theorem nmds_map (b : Int) : ∀ ts : List Th, nmds ts b = ts.map fun t => nmd t b
  | [] => by rw [nmds]; rfl
  | t :: r => by rw [nmds, nmds_map b r]; rfl
theorem nm_call {c : List S → Mach → Rs S Mach} {s0 b x y : D} (m : Mach) (h : c [.d x, .d b] m = .ok (.d y) m) : escf (eCall c (aCons (escf (eVar 3)) (aCons (escf (eVar 1)) aNil)) : Sm Mx S) ⟨[some (.d s0), some (.d b), none, some (.d x)], m⟩ = .ok (.d y) ⟨[some (.d s0), some (.d b), none, some (.d x)], m⟩ := by
  walk_at "ex"
  rw [h]
  walk_at "ex"
theorem nm_lc {c : List S → Mach → Rs S Mach} {th : D} {b : Int} {as : List Th} {its : Sm Mx (List D)} (m : Mach) (hi : its ⟨[some (.d th), some (.d (.int b)), none, none], m⟩ = .ok (as.map enc) ⟨[some (.d th), some (.d (.int b)), none, none], m⟩) (hl : as.length ≤ lim) (h : ∀ u ∈ as, c [.d (enc u), .d (.int b)] m = .ok (.d (nmd u b)) m) :
    (eLc its (kName 3) (fun z => .ok true z) (eCall c (aCons (escf (eVar 3)) (aCons (escf (eVar 1)) aNil))) [3] : Sm Mx S) ⟨[some (.d th), some (.d (.int b)), none, none], m⟩ = .ok (.l (nmds as b)) ⟨[some (.d th), some (.d (.int b)), none, none], m⟩ := by
  rw [nmds_map]
  exact elc_map (M := Mx) enc (g := fun u => nmd u b) (ts := as) hi rfl hl (fun u hu => nm_call m (h u hu))
theorem named_eq : ∀ (n : Nat) (t : Th) (b : Int) (m : Mach), depth t ≤ n → size t ≤ 900000 → mir (n + 1) ._law_named [.d (enc t), .d (.int b)] m = .ok (.d (nmd t b)) m
  | 0, t, _, _, h, _ => by rw [depth_kids] at h; omega
  | n + 1, t, b, m, h, hs => by
    rw [depth_kids] at h
    rw [size_kids] at hs
    have hl := sizes_len (kids t)
    have ih : ∀ u ∈ kids t, ∀ b : Int, mir (n + 1) ._law_named [.d (enc u), .d (.int b)] m = .ok (.d (nmd u b)) m := fun u hu b => named_eq n u b m (depths_le (by omega) u hu) (by have := mem_sizes hu; omega)
    show fnM 4 (m__law_named (mir (n + 1))) [.d (enc t), .d (.int b)] m = _
    unfold m__law_named
    cases t with
    | var v =>
      rw [enc, nmd]
      walk_at "ez"
      by_cases c : v < b
      · simp only [c]
        walk_at "ez"
      · simp only [c]
        walk_at "ez"
    | no =>
      rw [enc, nmd]
      walk_at "ez"
      have lc := nm_lc (c := mir (n + 1) ._law_named) (as := []) (th := .tup [.str "no"]) (its := iAnyM (eSl dSl (eVar 0) (oInt (eC (.int 1))) (fun z => .ok none z))) (b := b) m rfl (show (0 : Nat) ≤ 1000000 by omega) (fun u hu => by cases hu)
      rw [lc]
      simp only [nmds]
      walk_at "ez"
    | call f as =>
      rw [enc, nmd]
      walk_at "ez"
      have lc := nm_lc (as := as) (th := .tup [.str "call", .str f, .tup (encs as)]) (its := iAnyM (eBin dIx (eVar 0) (eC (.int 2)))) (b := b) m (by rw [← encs_map]; rfl) (show as.length ≤ 1000000 by simp only [kids] at hs hl; omega) (fun u hu => ih u hu b)
      rw [lc]
      walk_at "ez"
    | rel f as =>
      rw [enc, nmd]
      walk_at "ez"
      have lc := nm_lc (as := as) (th := .tup [.str "rel", .str f, .tup (encs as)]) (its := iAnyM (eBin dIx (eVar 0) (eC (.int 2)))) (b := b) m (by rw [← encs_map]; rfl) (show as.length ≤ 1000000 by simp only [kids] at hs hl; omega) (fun u hu => ih u hu b)
      rw [lc]
      walk_at "ez"
    | same x y =>
      rw [enc, nmd]
      walk_at "ez"
      have lc := nm_lc (as := [x, y]) (th := .tup [.str "same", enc x, enc y]) (its := iAnyM (eSl dSl (eVar 0) (oInt (eC (.int 1))) (fun z => .ok none z))) (b := b) m rfl (show (2 : Nat) ≤ 1000000 by omega) (fun u hu => ih u (by simpa [kids] using hu) b)
      rw [lc]
      simp only [nmds]
      walk_at "ez"
    | and x y =>
      rw [enc, nmd]
      walk_at "ez"
      have lc := nm_lc (as := [x, y]) (th := .tup [.str "and", enc x, enc y]) (its := iAnyM (eSl dSl (eVar 0) (oInt (eC (.int 1))) (fun z => .ok none z))) (b := b) m rfl (show (2 : Nat) ≤ 1000000 by omega) (fun u hu => ih u (by simpa [kids] using hu) b)
      rw [lc]
      simp only [nmds]
      walk_at "ez"
    | or x y =>
      rw [enc, nmd]
      walk_at "ez"
      have lc := nm_lc (as := [x, y]) (th := .tup [.str "or", enc x, enc y]) (its := iAnyM (eSl dSl (eVar 0) (oInt (eC (.int 1))) (fun z => .ok none z))) (b := b) m rfl (show (2 : Nat) ≤ 1000000 by omega) (fun u hu => ih u (by simpa [kids] using hu) b)
      rw [lc]
      simp only [nmds]
      walk_at "ez"
    | imp x y =>
      rw [enc, nmd]
      walk_at "ez"
      have lc := nm_lc (as := [x, y]) (th := .tup [.str "if", enc x, enc y]) (its := iAnyM (eSl dSl (eVar 0) (oInt (eC (.int 1))) (fun z => .ok none z))) (b := b) m rfl (show (2 : Nat) ≤ 1000000 by omega) (fun u hu => ih u (by simpa [kids] using hu) b)
      rw [lc]
      simp only [nmds]
      walk_at "ez"
    | all s x =>
      rw [enc, nmd]
      walk_at "ez"
      rw [ih x (by simp [kids]) (b + 1)]
      walk_at "ez"
    | some s x =>
      rw [enc, nmd]
      walk_at "ez"
      rw [ih x (by simp [kids]) (b + 1)]
      walk_at "ez"
end L
set_option pp.maxSteps 400
set_option pp.deepTerms false
namespace L
open PySem L2 G
variable [TP]
local macro_rules | `(tactic| walk_at "ey") => `(tactic| try simp only [sSeq, sSet, sExpr, sRet, sIf, sAsg, una, escf, escS, opd, eVar, eC, eBin, eUn, eFn, eCall, eTup, eLst, aCons, aNil, fin, rd, rds, R.toS, dsOf, Rs.bind_ok, Rs.bind_bad, Rs.bind_ex, Rs.opt_some, Option.bind_some, Option.map_some, ownAt, eExt, eApp, ePop, List.getElem?_cons_zero, List.getElem?_cons_succ, List.set_cons_zero, List.set_cons_succ, okArg, List.all_cons, List.all_nil, Bool.and_self, if_true, kName, kTup, ksCons, ksNil, fMax, tOf, List.length_cons, List.length_nil, Bool.not_false, Bool.not_true, if_false, Bool.false_eq_true, lm0, lm1, lm2, lm3, lm4, lm5, lm6, lm7, lm8, lm9, lm10, lm11, lm12, fnM, List.map_cons, List.map_nil, List.replicate, List.cons_append, List.nil_append, Nat.reduceAdd, Nat.reduceSub, sNil, tAndM, tOrM, tNotM, tTru, dTru, eIf, dSub_i, dAdd_i, dLt_i, dLe_i, dGt_i, dGe_i, dEq_i, decide_true, decide_false, eChain, eAndM, eSl, oInt, dNeg, fInt, aDef, fTuple])
local macro_rules | `(tactic| walk_at "ez") => `(tactic| try simp only [sSeq, sSet, sExpr, sRet, sIf, sAsg, una, escf, escS, opd, eVar, eC, eBin, eUn, eFn, eCall, eTup, eLst, aCons, aNil, fin, rd, rds, R.toS, dsOf, Rs.bind_ok, Rs.bind_bad, Rs.bind_ex, Rs.opt_some, Option.bind_some, Option.map_some, ownAt, eExt, eApp, ePop, List.getElem?_cons_zero, List.getElem?_cons_succ, List.set_cons_zero, List.set_cons_succ, okArg, List.all_cons, List.all_nil, Bool.and_self, if_true, kName, kTup, ksCons, ksNil, fMax, tOf, List.length_cons, List.length_nil, Bool.not_false, Bool.not_true, if_false, Bool.false_eq_true, lm0, lm1, lm2, lm3, lm4, lm5, lm6, lm7, lm8, lm9, lm10, lm11, lm12, fnM, List.map_cons, List.map_nil, List.replicate, List.cons_append, List.nil_append, Nat.reduceAdd, Nat.reduceSub, sNil, tAndM, tOrM, tNotM, tTru, dTru, eIf, dSub_i, dAdd_i, dLt_i, dLe_i, dGt_i, dGe_i, dEq_i, decide_true, decide_false, eChain, eAndM, eSl, oInt, dNeg, dIx, atI0, atI1, atI2, aDef, fTuple, wv_var, wc_var, wj_var, wb_var, wv_call, wc_call, wj_call, wb_call, wv_rel, wc_rel, wj_rel, wb_rel, wv_same, wc_same, wj_same, wb_same, wv_no, wc_no, wj_no, wb_no, wv_and, wc_and, wj_and, wb_and, wv_or, wc_or, wj_or, wb_or, wv_if, wc_if, wj_if, wb_if, wv_all, wc_all, wj_all, wb_all, wv_some, wc_some, wj_some, wb_some , sl2, sl1, slr, sn1, snr, ta21, ta12, ta10, xb_var, xc_var, xb_call, xc_call, xb_rel, xc_rel, xb_same, xc_same, xb_no, xc_no, xb_and, xc_and, xb_or, xc_or, xb_if, xc_if, xb_all, xc_all, xb_some, xc_some])
theorem put_in_yes (n : Nat) (t : Th) (us : List Th) (m : Mach) (hu : ∀ u ∈ us, depth u ≤ 62 ∧ size u ≤ 900000 ∧ nms u = true) (hul : us.length ≤ 1000) (h1 : size t ≤ 900000) (hn : nms t = true) (hd : depth t ≤ n) (g : size (sub us t 0) ≤ 4000 ∧ depth (sub us t 0) ≤ 120) :
    mir (n + 65) .put_in [.d (enc t), .d (.tup (encs us))] m = .ok (.d (enc (sub us t 0))) m := by
  have a := (need_fit_eq (n + 61) t us m (fun u h => (hu u h).2) hul h1 hn).1 g
  have b := put_eq us (fun u h => ⟨(hu u h).1, (hu u h).2.1⟩) n t 0 m hd h1
  show fnM 2 (m_put_in (mir (n + 64))) [.d (enc t), .d (.tup (encs us))] m = _
  unfold m_put_in
  walk_at "ey"
  rw [a]
  walk_at "ey"
  rw [b]
  walk_at "ey"
theorem put_in_no (n : Nat) (t : Th) (us : List Th) (m : Mach) (hu : ∀ u ∈ us, size u ≤ 900000 ∧ nms u = true) (hul : us.length ≤ 1000) (h1 : size t ≤ 900000) (hn : nms t = true) (g : ¬ (size (sub us t 0) ≤ 4000 ∧ depth (sub us t 0) ≤ 120)) :
    mir (n + 65) .put_in [.d (enc t), .d (.tup (encs us))] m = .ex ⟨"TooMany", none⟩ m := by
  have a := (need_fit_eq (n + 61) t us m hu hul h1 hn).2 g
  show fnM 2 (m_put_in (mir (n + 64))) [.d (enc t), .d (.tup (encs us))] m = _
  unfold m_put_in
  walk_at "ey"
  rw [a]
  walk_at "ey"
theorem told_ok {c : Fn → List S → Mach → Rs S Mach} {x y r : D} {m : Mach} (h : c .put_in [.d x, .d y] m = .ok (.d r) m) : fnM 7 (m__law_told c) [.d x, .d y] m = .ok (.d r) m := by
  unfold m__law_told
  walk_at "ey"
  simp only [sCatch]
  walk_at "ey"
  rw [h]
  walk_at "ey"
  rw [is_nn]
  walk_at "ey"
theorem told_ex {c : Fn → List S → Mach → Rs S Mach} {x y : D} {m : Mach} (h : c .put_in [.d x, .d y] m = .ex ⟨"TooMany", none⟩ m) : fnM 7 (m__law_told c) [.d x, .d y] m = .ok (.d (.str "many")) m := by
  have t1 : tb1 "TooMany" true "TooMany" = some true := by kernel_rfl
  have i1 : dIs (.exc "TooMany" []) .non = some (.d (.bl false)) := rfl
  have i2 : dIsX (tb1 "TooMany" false) (.exc "TooMany" []) = some (.d (.bl false)) := by kernel_rfl
  have i3 : dIsX (tb1 "TooMany" true) (.exc "TooMany" []) = some (.d (.bl true)) := by kernel_rfl
  unfold m__law_told
  walk_at "ey"
  simp only [sCatch]
  walk_at "ey"
  rw [h]
  walk_at "ey"
  simp only [t1]
  walk_at "ey"
  rw [if_pos (by decide)]
  walk_at "ey"
  rw [i1]
  walk_at "ey"
  rw [i2]
  walk_at "ey"
  rw [i3]
  walk_at "ey"
  rw [i3]
  walk_at "ey"
  simp only [eNotM]
  walk_at "ey"
end L
set_option pp.maxSteps 400
set_option pp.deepTerms false
namespace L
open PySem L2 G
variable [TP]
local macro_rules | `(tactic| walk_at "ev") => `(tactic| try simp only [sSeq, sSet, sExpr, sRet, sIf, sAsg, una, escf, escS, opd, eVar, eC, eBin, eUn, eFn, eCall, eTup, eLst, aCons, aNil, fin, rd, rds, R.toS, dsOf, Rs.bind_ok, Rs.bind_bad, Rs.bind_ex, Rs.opt_some, Option.bind_some, Option.map_some, ownAt, eExt, eApp, ePop, List.getElem?_cons_zero, List.getElem?_cons_succ, List.set_cons_zero, List.set_cons_succ, okArg, List.all_cons, List.all_nil, Bool.and_self, if_true, dAdd, kName, kTup, ksCons, ksNil, fMax, tOf, List.length_cons, List.length_nil, Bool.not_false, Bool.not_true, if_false, Bool.false_eq_true, lm0, lm1, lm2, lm3, lm4, lm5, lm6, lm7, lm8, lm9, lm10, lm11, lm12, fnM, List.map_cons, List.map_nil, List.replicate, List.cons_append, List.nil_append, Nat.reduceAdd, Nat.reduceSub, dIx, atI0, atI1, atI2, sNil, tAndM, tOrM, tNotM, tTru, dTru, eIf, dI, dSub, dLt, dLe, dGt, dGe])
def kb : Th → Int → Int
  | .all _ _, b => b + 1
  | .some _ _, b => b + 1
  | _, b => b
theorem kb_eq (t : Th) (b : Int) : kb t b = b + (bnd t : Nat) := by
  cases t <;> simp [kb, bnd]
theorem insideN (n : Nat) (t : Th) (b : Int) (m : Mach) : mir (n + 1) ._law_inside [.d (nmd t b)] m = .ok (.l (nmds (kids t) (kb t b))) m := by
  cases t with
  | var v =>
    rw [nmd]
    split <;> kernel_rfl
  | _ => kernel_rfl

theorem row_call2 {c : List S → Mach → Rs S Mach} {x y : D} (m : Mach) (h : c [.d x] m = .ok (.d y) m) (a : Option S) : escf (eCall c (aCons (escf (eVar 2)) aNil) : Sm Mx S) ⟨[a, none, some (.d x), none], m⟩ = .ok (.d y) ⟨[a, none, some (.d x), none], m⟩ := by
  walk_at "ev"
  rw [h]
  walk_at "ev"
theorem rows0 (ts : List Th) (a : Option S) (m : Mach) (hl : ts.length ≤ lim) : (eLc (iAnyM (eVar 1)) (kName 3) (fun z => .ok true z) (eBin dIx (eVar 3) (eC (.int 0))) [3] : Sm Mx S) ⟨[a, some (.l (ts.map row)), none, none], m⟩ = .ok (.l (ts.map fun u => .int ((size u : Nat) : Int))) ⟨[a, some (.d (.lst (ts.map row))), none, none], m⟩ := by
  refine elc_map (M := Mx) row (ts := ts) (z := ⟨[a, some (.d (.lst (ts.map row))), none, none], m⟩) rfl rfl hl (fun t _ => rfl)
theorem rows1 (ts : List Th) (a : Option S) (m : Mach) (hl : ts.length ≤ lim) : (eLc (iAnyM (eVar 1)) (kName 3) (fun z => .ok true z) (eBin dIx (eVar 3) (eC (.int 1))) [3] : Sm Mx S) ⟨[a, some (.d (.lst (ts.map row))), none, none], m⟩ = .ok (.l (ts.map fun u => .int ((depth u : Nat) : Int))) ⟨[a, some (.d (.lst (ts.map row))), none, none], m⟩ := by
  refine elc_map (M := Mx) row (ts := ts) rfl rfl hl (fun t _ => rfl)
theorem counted_eq : ∀ (n : Nat) (t : Th) (b : Int) (m : Mach), depth t ≤ n → size t ≤ 900000 → mir (n + 1) ._law_counted [.d (nmd t b)] m = .ok (.d (row t)) m
  | 0, t, b, m, h, _ => by rw [depth_kids] at h; omega
  | n + 1, t, b, m, h, hs => by
    rw [depth_kids] at h
    rw [size_kids] at hs
    have hl := sizes_len (kids t)
    have hl2 : (kids t).length ≤ lim := by show _ ≤ 1000000; omega
    have hd : ∀ u ∈ kids t, mir (n + 1) ._law_counted [.d (nmd u (kb t b))] m = .ok (.d (row u)) m := fun u hu => counted_eq n u (kb t b) m (depths_le (by omega) u hu) (by have := mem_sizes hu; omega)
    have i1 : (iAnyM (eCall (mir (n + 1) ._law_inside) (aCons (escf (eVar 0)) aNil)) : Sm Mx (List D)) ⟨[some (.d (nmd t b)), none, none, none], m⟩ = .ok ((kids t).map fun u => nmd u (kb t b)) ⟨[some (.d (nmd t b)), none, none, none], m⟩ := by
      simp only [iAnyM]
      walk_at "ev"
      rw [insideN, nmds_map]
      rfl
    have l1 := elc_map (M := Mx) (i := 2) (e := eCall (mir (n + 1) ._law_counted) (aCons (escf (eVar 2)) aNil)) (fun u => nmd u (kb t b)) (g := row) (ts := kids t) i1 rfl hl2 (fun u hu => row_call2 m (hd u hu) _)
    have l2 := rows0 (kids t) (some (.d (nmd t b))) m hl2
    have l3 := rows1 (kids t) (some (.d (nmd t b))) m hl2
    show fnM 4 (m__law_counted (mir (n + 1))) [.d (nmd t b)] m = _
    unfold m__law_counted
    walk_at "ev"
    rw [l1]
    walk_at "ev"
    rw [l2]
    walk_at "ev"
    simp only [fSum, intsOf_map, Option.map_some, sum_map_cast]
    walk_at "ev"
    rw [l3]
    walk_at "ev"
    rw [if_pos (by rw [List.length_map]; show _ ≤ 1000000; omega)]
    walk_at "ev"
    have im : intsOf (D.int 0 :: (kids t).map fun u => D.int ((depth u : Nat) : Int)) = some (0 :: (kids t).map fun u => ((depth u : Nat) : Int)) := by rw [intsOf, intsOf_map]; rfl
    simp only [im, maxL_depths]
    walk_at "ev"
    unfold row
    rw [size_kids t, depth_kids t]
    have e1 : ((1 + sizes (kids t) : Nat) : Int) = 1 + ((sizes (kids t) : Nat) : Int) := by omega
    have e2 : ((1 + depths (kids t) : Nat) : Int) = 1 + ((depths (kids t) : Nat) : Int) := by omega
    rw [e1, e2]
end L
set_option pp.maxSteps 400
set_option pp.deepTerms false
namespace L
open PySem L2 G
variable [TP]

theorem log_ib {i : Int} (h : i.natAbs < 1000000000000) : i.natAbs.log2 < 40 := by
  rcases Nat.eq_zero_or_pos i.natAbs with e | e
  · rw [e]; decide
  · exact (Nat.log2_lt (by omega)).mpr (by show i.natAbs < 1099511627776; omega)
theorem wtN_int {i : Int} (h : i.natAbs < 1000000000000) : wtN (.int i) ≤ 41 := by
  unfold wtN
  rw [toPy, PyData.weight]
  have a := log_ib h
  split <;> omega
def okNm (f : Str) : Bool := PyData.strOk f && decide (f.cps.size ≤ 10)
theorem okNm_ok {f : Str} (h : okNm f = true) : PyData.strOk f = true ∧ f.cps.size ≤ 10 := by
  unfold okNm at h
  rw [Bool.and_eq_true] at h
  exact ⟨h.1, of_decide_eq_true h.2⟩
mutual
def fn1 (B : Nat) : Th → Bool
  | .var v => decide (v.natAbs ≤ B)
  | .call f as => okNm f && fn1s B as
  | .rel f as => okNm f && fn1s B as
  | .same a b => fn1 B a && fn1 B b
  | .no => true
  | .and a b => fn1 B a && fn1 B b
  | .or a b => fn1 B a && fn1 B b
  | .imp a b => fn1 B a && fn1 B b
  | .all s a => okNm s && fn1 B a
  | .some s a => okNm s && fn1 B a
def fn1s (B : Nat) : List Th → Bool
  | [] => true
  | t :: r => fn1 B t && fn1s B r
end
mutual
theorem fn1_mono {B C : Nat} (h : B ≤ C) : ∀ t : Th, fn1 B t = true → fn1 C t = true
  | .var v, e => by rw [fn1] at e ⊢; exact decide_eq_true (Nat.le_trans (of_decide_eq_true e) h)
  | .call f as, e => by rw [fn1, Bool.and_eq_true] at e ⊢; exact ⟨e.1, fn1s_mono h as e.2⟩
  | .rel f as, e => by rw [fn1, Bool.and_eq_true] at e ⊢; exact ⟨e.1, fn1s_mono h as e.2⟩
  | .same a b, e => by rw [fn1, Bool.and_eq_true] at e ⊢; exact ⟨fn1_mono h a e.1, fn1_mono h b e.2⟩
  | .no, _ => by rw [fn1]
  | .and a b, e => by rw [fn1, Bool.and_eq_true] at e ⊢; exact ⟨fn1_mono h a e.1, fn1_mono h b e.2⟩
  | .or a b, e => by rw [fn1, Bool.and_eq_true] at e ⊢; exact ⟨fn1_mono h a e.1, fn1_mono h b e.2⟩
  | .imp a b, e => by rw [fn1, Bool.and_eq_true] at e ⊢; exact ⟨fn1_mono h a e.1, fn1_mono h b e.2⟩
  | .all s a, e => by rw [fn1, Bool.and_eq_true] at e ⊢; exact ⟨e.1, fn1_mono h a e.2⟩
  | .some s a, e => by rw [fn1, Bool.and_eq_true] at e ⊢; exact ⟨e.1, fn1_mono h a e.2⟩
theorem fn1s_mono {B C : Nat} (h : B ≤ C) : ∀ ts : List Th, fn1s B ts = true → fn1s C ts = true
  | [], _ => by rw [fn1s]
  | t :: r, e => by rw [fn1s, Bool.and_eq_true] at e ⊢; exact ⟨fn1_mono h t e.1, fn1s_mono h r e.2⟩
end
mutual
theorem fn1_nms {B : Nat} : ∀ t : Th, fn1 B t = true → nms t = true
  | .var _, _ => by rw [nms]
  | .call f as, h => by rw [fn1, Bool.and_eq_true] at h; rw [nms, (okNm_ok h.1).1, fn1s_nms as h.2]; rfl
  | .rel f as, h => by rw [fn1, Bool.and_eq_true] at h; rw [nms, (okNm_ok h.1).1, fn1s_nms as h.2]; rfl
  | .same a b, h => by rw [fn1, Bool.and_eq_true] at h; rw [nms, fn1_nms a h.1, fn1_nms b h.2]; rfl
  | .no, _ => by rw [nms]
  | .and a b, h => by rw [fn1, Bool.and_eq_true] at h; rw [nms, fn1_nms a h.1, fn1_nms b h.2]; rfl
  | .or a b, h => by rw [fn1, Bool.and_eq_true] at h; rw [nms, fn1_nms a h.1, fn1_nms b h.2]; rfl
  | .imp a b, h => by rw [fn1, Bool.and_eq_true] at h; rw [nms, fn1_nms a h.1, fn1_nms b h.2]; rfl
  | .all s a, h => by rw [fn1, Bool.and_eq_true] at h; rw [nms, (okNm_ok h.1).1, fn1_nms a h.2]; rfl
  | .some s a, h => by rw [fn1, Bool.and_eq_true] at h; rw [nms, (okNm_ok h.1).1, fn1_nms a h.2]; rfl
theorem fn1s_nms {B : Nat} : ∀ ts : List Th, fn1s B ts = true → nmss ts = true
  | [], _ => by rw [nmss]
  | t :: r, h => by rw [fn1s, Bool.and_eq_true] at h; rw [nmss, fn1_nms t h.1, fn1s_nms r h.2]; rfl
end
mutual
theorem fn1_lift {B : Nat} (k : Int) : ∀ (t : Th) (a : Int), fn1 B t = true → fn1 (B + k.natAbs) (lift k t a) = true
  | .var v, a, h => by
    rw [fn1] at h
    have := of_decide_eq_true h
    rw [lift]
    split
    · rw [fn1]; exact decide_eq_true (by omega)
    · rw [fn1]; exact decide_eq_true (by omega)
  | .call f as, a, h => by rw [fn1, Bool.and_eq_true] at h; rw [lift, fn1, h.1, fn1s_lift k as a h.2]; rfl
  | .rel f as, a, h => by rw [fn1, Bool.and_eq_true] at h; rw [lift, fn1, h.1, fn1s_lift k as a h.2]; rfl
  | .same x y, a, h => by rw [fn1, Bool.and_eq_true] at h; rw [lift, fn1, fn1_lift k x a h.1, fn1_lift k y a h.2]; rfl
  | .no, a, h => by rw [lift, fn1]
  | .and x y, a, h => by rw [fn1, Bool.and_eq_true] at h; rw [lift, fn1, fn1_lift k x a h.1, fn1_lift k y a h.2]; rfl
  | .or x y, a, h => by rw [fn1, Bool.and_eq_true] at h; rw [lift, fn1, fn1_lift k x a h.1, fn1_lift k y a h.2]; rfl
  | .imp x y, a, h => by rw [fn1, Bool.and_eq_true] at h; rw [lift, fn1, fn1_lift k x a h.1, fn1_lift k y a h.2]; rfl
  | .all s x, a, h => by rw [fn1, Bool.and_eq_true] at h; rw [lift, fn1, h.1, fn1_lift k x (a + 1) h.2]; rfl
  | .some s x, a, h => by rw [fn1, Bool.and_eq_true] at h; rw [lift, fn1, h.1, fn1_lift k x (a + 1) h.2]; rfl
theorem fn1s_lift {B : Nat} (k : Int) : ∀ (ts : List Th) (a : Int), fn1s B ts = true → fn1s (B + k.natAbs) (lifts k ts a) = true
  | [], a, h => by rw [lifts, fn1s]
  | t :: r, a, h => by rw [fn1s, Bool.and_eq_true] at h; rw [lifts, fn1s, fn1_lift k t a h.1, fn1s_lift k r a h.2]; rfl
end
/-- a piece that has a text: k deep, s great -/
def Pk (d : D) (k s : Nat) : Prop := lay d = true ∧ ib d = true ∧ dep d ≤ 2 * k ∧ wtN d + 1 ≤ 60 * s
def Pks (ds : List D) (k s : Nat) : Prop := lays ds = true ∧ ibs ds = true ∧ deps ds ≤ 2 * k ∧ wtsN ds ≤ 60 * s
theorem pks_nil : Pks [] 0 0 := ⟨by rw [lays], by rw [ibs], by rw [deps]; omega, by rw [wtsN_nil]; omega⟩
theorem pks_cons {d : D} {ds : List D} {k s k2 s2 : Nat} (a : Pk d k s) (b : Pks ds k2 s2) : Pks (d :: ds) (max k k2) (s + s2) :=
  ⟨by rw [lays, a.1, b.1]; rfl, by rw [ibs, a.2.1, b.2.1]; rfl, by have := a.2.2.1; have := b.2.2.1; rw [deps]; omega, by have := a.2.2.2; have := b.2.2.2; rw [wtsN_cons]; omega⟩
theorem pk_var {w : Str} {i : Int} (hw : okNm w = true) (h : i.natAbs < 1000000000000) : Pk (.tup [.str w, .int i]) 1 1 := by
  have a := wtN_int h
  have b := okNm_ok hw
  refine ⟨?_, ?_, ?_, ?_⟩
  · rw [lay, lays, lays, lays, lay, lay, b.1]; rfl; all_goals (intros; contradiction)
  · rw [ib, ibs, ibs, ibs, ib, ib, decide_eq_true h]; rfl; all_goals (intros; contradiction)
  · simp [dep, deps]
  · rw [wtN_tup, wtsN_cons, wtsN_cons, wtsN_nil, wtN_str]; omega
theorem pk_app {w f : Str} {ds : List D} {k s : Nat} (hw : okNm w = true) (hf : okNm f = true) (h : Pks ds k s) : Pk (.tup [.str w, .str f, .tup ds]) (1 + k) (1 + s) := by
  have a := okNm_ok hf
  have b := okNm_ok hw
  obtain ⟨h1, h2, h3, h4⟩ := h
  refine ⟨?_, ?_, ?_, ?_⟩
  · simp [lay, lays, a.1, b.1, h1]
  · simp [ib, ibs, h2]
  · simp only [dep, deps]; omega
  · rw [wtN_tup, wtsN_cons, wtsN_cons, wtsN_cons, wtsN_nil, wtN_str, wtN_str, wtN_tup]; omega
theorem pk_two {w : Str} {a b : D} {k1 s1 k2 s2 : Nat} (hw : okNm w = true) (h : Pk a k1 s1) (g : Pk b k2 s2) : Pk (.tup [.str w, a, b]) (1 + max k1 k2) (1 + (s1 + s2)) := by
  have c := okNm_ok hw
  obtain ⟨h1, h2, h3, h4⟩ := h
  obtain ⟨g1, g2, g3, g4⟩ := g
  refine ⟨?_, ?_, ?_, ?_⟩
  · simp [lay, lays, c.1, h1, g1]
  · simp [ib, ibs, h2, g2]
  · simp only [dep, deps]; omega
  · rw [wtN_tup, wtsN_cons, wtsN_cons, wtsN_cons, wtsN_nil, wtN_str]; omega
theorem pk_one {w : Str} (hw : okNm w = true) : Pk (.tup [.str w]) 1 1 := by
  have c := okNm_ok hw
  refine ⟨?_, ?_, ?_, ?_⟩
  · simp [lay, lays, c.1]
  · simp [ib, ibs]
  · simp [dep, deps]
  · rw [wtN_tup, wtsN_cons, wtsN_nil, wtN_str]; omega
theorem pk_bnd {w s : Str} {a : D} {k n : Nat} (hw : okNm w = true) (hs : okNm s = true) (h : Pk a k n) : Pk (.tup [.str w, .str s, a]) (1 + k) (1 + n) := by
  have c := okNm_ok hw
  have e := okNm_ok hs
  obtain ⟨h1, h2, h3, h4⟩ := h
  refine ⟨?_, ?_, ?_, ?_⟩
  · simp [lay, lays, c.1, e.1, h1]
  · simp [ib, ibs, h2]
  · simp only [dep, deps]; omega
  · rw [wtN_tup, wtsN_cons, wtsN_cons, wtsN_cons, wtsN_nil, wtN_str, wtN_str]; omega
theorem ow_var : okNm "var" = true := by decide +kernel
theorem ow_call : okNm "call" = true := by decide +kernel
theorem ow_rel : okNm "rel" = true := by decide +kernel
theorem ow_same : okNm "same" = true := by decide +kernel
theorem ow_no : okNm "no" = true := by decide +kernel
theorem ow_and : okNm "and" = true := by decide +kernel
theorem ow_or : okNm "or" = true := by decide +kernel
theorem ow_if : okNm "if" = true := by decide +kernel
theorem ow_all : okNm "all" = true := by decide +kernel
theorem ow_some : okNm "some" = true := by decide +kernel
theorem ow_own : okNm "own" = true := by decide +kernel
theorem ow_free : okNm "free" = true := by decide +kernel
mutual
theorem pk_enc {B : Nat} (hB : B < 1000000000000) : ∀ t : Th, fn1 B t = true → Pk (enc t) (depth t) (size t)
  | .var v, h => by rw [fn1] at h; have := of_decide_eq_true h; rw [enc, depth, size]; exact pk_var ow_var (by omega)
  | .call f as, h => by rw [fn1, Bool.and_eq_true] at h; rw [enc, depth, size]; exact pk_app ow_call h.1 (pks_encs hB as h.2)
  | .rel f as, h => by rw [fn1, Bool.and_eq_true] at h; rw [enc, depth, size]; exact pk_app ow_rel h.1 (pks_encs hB as h.2)
  | .same a b, h => by rw [fn1, Bool.and_eq_true] at h; rw [enc, depth, size]; exact pk_two ow_same (pk_enc hB a h.1) (pk_enc hB b h.2)
  | .no, _ => by rw [enc, depth, size]; exact pk_one ow_no
  | .and a b, h => by rw [fn1, Bool.and_eq_true] at h; rw [enc, depth, size]; exact pk_two ow_and (pk_enc hB a h.1) (pk_enc hB b h.2)
  | .or a b, h => by rw [fn1, Bool.and_eq_true] at h; rw [enc, depth, size]; exact pk_two ow_or (pk_enc hB a h.1) (pk_enc hB b h.2)
  | .imp a b, h => by rw [fn1, Bool.and_eq_true] at h; rw [enc, depth, size]; exact pk_two ow_if (pk_enc hB a h.1) (pk_enc hB b h.2)
  | .all s a, h => by rw [fn1, Bool.and_eq_true] at h; rw [enc, depth, size]; exact pk_bnd ow_all h.1 (pk_enc hB a h.2)
  | .some s a, h => by rw [fn1, Bool.and_eq_true] at h; rw [enc, depth, size]; exact pk_bnd ow_some h.1 (pk_enc hB a h.2)
theorem pks_encs {B : Nat} (hB : B < 1000000000000) : ∀ ts : List Th, fn1s B ts = true → Pks (encs ts) (depths ts) (sizes ts)
  | [], _ => by rw [encs, depths, sizes]; exact pks_nil
  | t :: r, h => by rw [fn1s, Bool.and_eq_true] at h; rw [encs, depths, sizes]; exact pks_cons (pk_enc hB t h.1) (pks_encs hB r h.2)
end
mutual
theorem pk_nmd {B : Nat} : ∀ (t : Th) (b : Int), 0 ≤ b → B + b.toNat + depth t < 1000000000000 → fn1 B t = true → Pk (nmd t b) (depth t) (size t)
  | .var v, b, h0, hB, h => by
    rw [fn1] at h; have := of_decide_eq_true h; rw [nmd, depth, size]
    rw [depth] at hB
    by_cases c : v < b
    · rw [if_pos c]; exact pk_var ow_own (by omega)
    · rw [if_neg c]; exact pk_var ow_free (by omega)
  | .call f as, b, h0, hB, h => by rw [fn1, Bool.and_eq_true] at h; rw [depth] at hB; rw [nmd, depth, size]; exact pk_app ow_call h.1 (pks_nmds as b h0 (by omega) h.2)
  | .rel f as, b, h0, hB, h => by rw [fn1, Bool.and_eq_true] at h; rw [depth] at hB; rw [nmd, depth, size]; exact pk_app ow_rel h.1 (pks_nmds as b h0 (by omega) h.2)
  | .same x y, b, h0, hB, h => by rw [fn1, Bool.and_eq_true] at h; rw [depth] at hB; rw [nmd, depth, size]; exact pk_two ow_same (pk_nmd x b h0 (by omega) h.1) (pk_nmd y b h0 (by omega) h.2)
  | .no, b, _, _, _ => by rw [nmd, depth, size]; exact pk_one ow_no
  | .and x y, b, h0, hB, h => by rw [fn1, Bool.and_eq_true] at h; rw [depth] at hB; rw [nmd, depth, size]; exact pk_two ow_and (pk_nmd x b h0 (by omega) h.1) (pk_nmd y b h0 (by omega) h.2)
  | .or x y, b, h0, hB, h => by rw [fn1, Bool.and_eq_true] at h; rw [depth] at hB; rw [nmd, depth, size]; exact pk_two ow_or (pk_nmd x b h0 (by omega) h.1) (pk_nmd y b h0 (by omega) h.2)
  | .imp x y, b, h0, hB, h => by rw [fn1, Bool.and_eq_true] at h; rw [depth] at hB; rw [nmd, depth, size]; exact pk_two ow_if (pk_nmd x b h0 (by omega) h.1) (pk_nmd y b h0 (by omega) h.2)
  | .all s x, b, h0, hB, h => by rw [fn1, Bool.and_eq_true] at h; rw [depth] at hB; rw [nmd, depth, size]; exact pk_bnd ow_all h.1 (pk_nmd x (b + 1) (by omega) (by omega) h.2)
  | .some s x, b, h0, hB, h => by rw [fn1, Bool.and_eq_true] at h; rw [depth] at hB; rw [nmd, depth, size]; exact pk_bnd ow_some h.1 (pk_nmd x (b + 1) (by omega) (by omega) h.2)
theorem pks_nmds {B : Nat} : ∀ (ts : List Th) (b : Int), 0 ≤ b → B + b.toNat + depths ts < 1000000000000 → fn1s B ts = true → Pks (nmds ts b) (depths ts) (sizes ts)
  | [], b, _, _, _ => by rw [nmds, depths, sizes]; exact pks_nil
  | t :: r, b, h0, hB, h => by rw [fn1s, Bool.and_eq_true] at h; rw [depths] at hB; rw [nmds, depths, sizes]; exact pks_cons (pk_nmd t b h0 (by omega) h.1) (pks_nmds r b h0 (by omega) h.2)
end
/-- what has a text tells it -/
theorem pk_repr {d : D} {k s : Nat} (ht : ∃ xs, d = .tup xs) (h : Pk d k s) (hk : k ≤ 140) (hs : s ≤ 14000) : ∃ x : Str, fRepr [d] = some (.d (.str x)) ∧ dNe (.str x) (.str x) = some (.d (.bl false)) ∧ dEq (.str x) (.str x) = some (.d (.bl true)) := by
  obtain ⟨xs, rfl⟩ := ht
  obtain ⟨h1, h2, h3, h4⟩ := h
  have a := reprT_of (xs := xs) (by rw [lay] at h1; exact h1) (by rw [ib] at h2; exact h2) (by rw [dep] at h3; omega) (by omega)
  have ok : eqOk (.str (shw (.tup xs))) (.str (shw (.tup xs))) = true := by
    unfold eqOk
    have l : lay (.str (shw (.tup xs))) = true := by rw [lay]; exact a.2
    rw [l, Bool.true_and, Bool.true_and]
    exact decide_eq_true (by simp [dep])
  refine ⟨_, a.1, ?_, ?_⟩
  · unfold dNe
    rw [if_pos ok, eqD_str]
    simp
  · unfold dEq
    rw [if_pos ok, eqD_str]
    simp
theorem enc_tup (t : Th) : ∃ xs, enc t = .tup xs := by
  cases t <;> (rw [enc]; exact ⟨_, rfl⟩)
theorem nmd_tup (t : Th) (b : Int) : ∃ xs, nmd t b = .tup xs := by
  cases t
  case var v => rw [nmd]; split <;> exact ⟨_, rfl⟩
  all_goals (rw [nmd]; exact ⟨_, rfl⟩)

/-! terms, their variables from 0 on -/
mutual
def tmn : Th → Bool
  | .var v => decide (0 ≤ v)
  | .call _ as => tmns as
  | _ => false
def tmns : List Th → Bool
  | [] => true
  | t :: r => tmn t && tmns r
end
mutual
theorem nmd_lift0 : ∀ (u : Th) (b : Int), 0 ≤ b → tmn u = true → nmd (lift b u 0) b = nmd u 0
  | .var v, b, hb, h => by
    rw [tmn] at h
    have := of_decide_eq_true h
    rw [lift, if_pos this, nmd, nmd, if_neg (by omega), if_neg (by omega), show v + b - b = v - 0 by omega]
  | .call f as, b, hb, h => by rw [tmn] at h; rw [lift, nmd, nmd, nmds_lift0 as b hb h]
  | .rel _ _, _, _, h => by rw [tmn] at h; cases h; all_goals (intros; contradiction)
  | .same _ _, _, _, h => by rw [tmn] at h; cases h; all_goals (intros; contradiction)
  | .no, _, _, h => by rw [tmn] at h; cases h; all_goals (intros; contradiction)
  | .and _ _, _, _, h => by rw [tmn] at h; cases h; all_goals (intros; contradiction)
  | .or _ _, _, _, h => by rw [tmn] at h; cases h; all_goals (intros; contradiction)
  | .imp _ _, _, _, h => by rw [tmn] at h; cases h; all_goals (intros; contradiction)
  | .all _ _, _, _, h => by rw [tmn] at h; cases h; all_goals (intros; contradiction)
  | .some _ _, _, _, h => by rw [tmn] at h; cases h; all_goals (intros; contradiction)
theorem nmds_lift0 : ∀ (us : List Th) (b : Int), 0 ≤ b → tmns us = true → nmds (lifts b us 0) b = nmds us 0
  | [], b, _, _ => by rw [lifts, nmds, nmds]
  | u :: r, b, hb, h => by rw [tmns, Bool.and_eq_true] at h; rw [lifts, nmds, nmds, nmd_lift0 u b hb h.1, nmds_lift0 r b hb h.2]
end
theorem tmns_all : ∀ {us : List Th}, (∀ u ∈ us, tmn u = true) → tmns us = true
  | [], _ => by rw [tmns]
  | u :: r, h => by rw [tmns, h u List.mem_cons_self, tmns_all fun x hx => h x (List.mem_cons_of_mem _ hx)]; rfl
/-- what comes for a free number -/
def tbl (us : List Th) (j : Int) : D := match us.reverse[j.toNat]? with
  | some u => nmd u 0
  | none => .tup [.str "free", .int (j - (us.length : Nat))]
theorem fn1_var {B : Nat} {v : Int} : fn1 B (.var v) = decide (v.natAbs ≤ B) := by rw [fn1]
theorem fn1_subV {us : List Th} (hu : ∀ u ∈ us, fn1 1000 u = true) (hl : us.length ≤ 100) {v b : Int} (hb : 0 ≤ b) (hb2 : b ≤ 900) (h : v.natAbs ≤ 1000) : fn1 2000 (subV us v b) = true := by
  unfold subV
  split
  · rename_i u e
    have hm : u ∈ us := List.mem_reverse.mp (List.mem_of_getElem? e)
    split
    · exact fn1_mono (by omega) _ (fn1_lift b u 0 (hu u hm))
    · rw [fn1]; exact decide_eq_true (by omega)
  · split
    · rw [fn1]; exact decide_eq_true (by omega)
    · rw [fn1]; exact decide_eq_true (by omega)
mutual
theorem fn1_sub {us : List Th} (hu : ∀ u ∈ us, fn1 1000 u = true) (hl : us.length ≤ 100) : ∀ (t : Th) (b : Int), 0 ≤ b → b + depth t ≤ 900 → fn1 1000 t = true → fn1 2000 (sub us t b) = true
  | .var v, b, hb, hd, h => by rw [fn1] at h; rw [depth] at hd; rw [sub]; exact fn1_subV hu hl hb (by omega) (of_decide_eq_true h)
  | .call f as, b, hb, hd, h => by rw [fn1, Bool.and_eq_true] at h; rw [depth] at hd; rw [sub, fn1, h.1, fn1s_sub hu hl as b hb (by omega) h.2]; rfl
  | .rel f as, b, hb, hd, h => by rw [fn1, Bool.and_eq_true] at h; rw [depth] at hd; rw [sub, fn1, h.1, fn1s_sub hu hl as b hb (by omega) h.2]; rfl
  | .same x y, b, hb, hd, h => by rw [fn1, Bool.and_eq_true] at h; rw [depth] at hd; rw [sub, fn1, fn1_sub hu hl x b hb (by omega) h.1, fn1_sub hu hl y b hb (by omega) h.2]; rfl
  | .no, b, _, _, _ => by rw [sub, fn1]
  | .and x y, b, hb, hd, h => by rw [fn1, Bool.and_eq_true] at h; rw [depth] at hd; rw [sub, fn1, fn1_sub hu hl x b hb (by omega) h.1, fn1_sub hu hl y b hb (by omega) h.2]; rfl
  | .or x y, b, hb, hd, h => by rw [fn1, Bool.and_eq_true] at h; rw [depth] at hd; rw [sub, fn1, fn1_sub hu hl x b hb (by omega) h.1, fn1_sub hu hl y b hb (by omega) h.2]; rfl
  | .imp x y, b, hb, hd, h => by rw [fn1, Bool.and_eq_true] at h; rw [depth] at hd; rw [sub, fn1, fn1_sub hu hl x b hb (by omega) h.1, fn1_sub hu hl y b hb (by omega) h.2]; rfl
  | .all s x, b, hb, hd, h => by rw [fn1, Bool.and_eq_true] at h; rw [depth] at hd; rw [sub, fn1, h.1, fn1_sub hu hl x (b + 1) (by omega) (by omega) h.2]; rfl
  | .some s x, b, hb, hd, h => by rw [fn1, Bool.and_eq_true] at h; rw [depth] at hd; rw [sub, fn1, h.1, fn1_sub hu hl x (b + 1) (by omega) (by omega) h.2]; rfl
theorem fn1s_sub {us : List Th} (hu : ∀ u ∈ us, fn1 1000 u = true) (hl : us.length ≤ 100) : ∀ (ts : List Th) (b : Int), 0 ≤ b → b + depths ts ≤ 900 → fn1s 1000 ts = true → fn1s 2000 (subs us ts b) = true
  | [], _, _, _, _ => by rw [subs, fn1s]
  | t :: r, b, hb, hd, h => by rw [fn1s, Bool.and_eq_true] at h; rw [depths] at hd; rw [subs, fn1s, fn1_sub hu hl t b hb (by omega) h.1, fn1s_sub hu hl r b hb (by omega) h.2]; rfl
end
end L
set_option pp.maxSteps 400
set_option pp.deepTerms false
namespace L
open PySem L2 G
variable [TP]
mutual
theorem lift_low : ∀ (t : Th) (b : Int), lift (-1) (lift 1 t b) (b + 1) = t
  | .var v, b => by
    by_cases c : b ≤ v
    · rw [lift, if_pos c, lift, if_pos (by omega), show v + 1 + -1 = v by omega]
    · rw [lift, if_neg c, lift, if_neg (by omega)]
  | .call f as, b => by rw [lift, lift, lifts_low as b]
  | .rel f as, b => by rw [lift, lift, lifts_low as b]
  | .same x y, b => by rw [lift, lift, lift_low x b, lift_low y b]
  | .no, b => by rw [lift, lift]
  | .and x y, b => by rw [lift, lift, lift_low x b, lift_low y b]
  | .or x y, b => by rw [lift, lift, lift_low x b, lift_low y b]
  | .imp x y, b => by rw [lift, lift, lift_low x b, lift_low y b]
  | .all s x, b => by rw [lift, lift, lift_low x (b + 1)]
  | .some s x, b => by rw [lift, lift, lift_low x (b + 1)]
theorem lifts_low : ∀ (ts : List Th) (b : Int), lifts (-1) (lifts 1 ts b) (b + 1) = ts
  | [], b => by rw [lifts, lifts]
  | t :: r, b => by rw [lifts, lifts, lift_low t b, lifts_low r b]
end
mutual
theorem lift_lift {k j : Int} (hk : 0 ≤ k) : ∀ (t : Th) (b : Int), lift j (lift k t b) b = lift (k + j) t b
  | .var v, b => by
    by_cases c : b ≤ v
    · rw [lift, if_pos c, lift, if_pos (by omega), lift, if_pos c, show v + k + j = v + (k + j) by omega]
    · rw [lift, if_neg c, lift, if_neg c, lift, if_neg c]
  | .call f as, b => by rw [lift, lift, lift, lifts_lifts hk as b]
  | .rel f as, b => by rw [lift, lift, lift, lifts_lifts hk as b]
  | .same x y, b => by rw [lift, lift, lift, lift_lift hk x b, lift_lift hk y b]
  | .no, b => by rw [lift, lift, lift]
  | .and x y, b => by rw [lift, lift, lift, lift_lift hk x b, lift_lift hk y b]
  | .or x y, b => by rw [lift, lift, lift, lift_lift hk x b, lift_lift hk y b]
  | .imp x y, b => by rw [lift, lift, lift, lift_lift hk x b, lift_lift hk y b]
  | .all s x, b => by rw [lift, lift, lift, lift_lift hk x (b + 1)]
  | .some s x, b => by rw [lift, lift, lift, lift_lift hk x (b + 1)]
theorem lifts_lifts {k j : Int} (hk : 0 ≤ k) : ∀ (ts : List Th) (b : Int), lifts j (lifts k ts b) b = lifts (k + j) ts b
  | [], b => by rw [lifts, lifts, lifts]
  | t :: r, b => by rw [lifts, lifts, lifts, lift_lift hk t b, lifts_lifts hk r b]
end
end L
set_option pp.maxSteps 400
set_option pp.deepTerms false
namespace L
open PySem L2 G
variable [TP]
theorem xf_own : dEq (.str "own") (.str "free") = some (.d (.bl false)) := by kernel_rfl
theorem xo_own : dEq (.str "own") (.str "own") = some (.d (.bl true)) := by kernel_rfl
theorem xf_free : dEq (.str "free") (.str "free") = some (.d (.bl true)) := by kernel_rfl
theorem xo_free : dEq (.str "free") (.str "own") = some (.d (.bl false)) := by kernel_rfl
theorem xf_var : dEq (.str "var") (.str "free") = some (.d (.bl false)) := by kernel_rfl
theorem xo_var : dEq (.str "var") (.str "own") = some (.d (.bl false)) := by kernel_rfl
theorem xf_call : dEq (.str "call") (.str "free") = some (.d (.bl false)) := by kernel_rfl
theorem xo_call : dEq (.str "call") (.str "own") = some (.d (.bl false)) := by kernel_rfl
theorem xf_rel : dEq (.str "rel") (.str "free") = some (.d (.bl false)) := by kernel_rfl
theorem xo_rel : dEq (.str "rel") (.str "own") = some (.d (.bl false)) := by kernel_rfl
theorem xf_same : dEq (.str "same") (.str "free") = some (.d (.bl false)) := by kernel_rfl
theorem xo_same : dEq (.str "same") (.str "own") = some (.d (.bl false)) := by kernel_rfl
theorem xf_no : dEq (.str "no") (.str "free") = some (.d (.bl false)) := by kernel_rfl
theorem xo_no : dEq (.str "no") (.str "own") = some (.d (.bl false)) := by kernel_rfl
theorem xf_and : dEq (.str "and") (.str "free") = some (.d (.bl false)) := by kernel_rfl
theorem xo_and : dEq (.str "and") (.str "own") = some (.d (.bl false)) := by kernel_rfl
theorem xf_or : dEq (.str "or") (.str "free") = some (.d (.bl false)) := by kernel_rfl
theorem xo_or : dEq (.str "or") (.str "own") = some (.d (.bl false)) := by kernel_rfl
theorem xf_if : dEq (.str "if") (.str "free") = some (.d (.bl false)) := by kernel_rfl
theorem xo_if : dEq (.str "if") (.str "own") = some (.d (.bl false)) := by kernel_rfl
theorem xf_all : dEq (.str "all") (.str "free") = some (.d (.bl false)) := by kernel_rfl
theorem xo_all : dEq (.str "all") (.str "own") = some (.d (.bl false)) := by kernel_rfl
theorem xf_some : dEq (.str "some") (.str "free") = some (.d (.bl false)) := by kernel_rfl
theorem xo_some : dEq (.str "some") (.str "own") = some (.d (.bl false)) := by kernel_rfl
theorem xb_own : dIn (.str "own") (.tup [.str "all", .str "some"]) = some (.d (.bl false)) := by kernel_rfl
theorem xc_own : dIn (.str "own") (.tup [.str "call", .str "rel"]) = some (.d (.bl false)) := by kernel_rfl
theorem xb_free : dIn (.str "free") (.tup [.str "all", .str "some"]) = some (.d (.bl false)) := by kernel_rfl
theorem xc_free : dIn (.str "free") (.tup [.str "call", .str "rel"]) = some (.d (.bl false)) := by kernel_rfl
local macro_rules | `(tactic| walk_at "ex") => `(tactic| try simp only [sSeq, sSet, sExpr, sRet, sIf, sAsg, una, escf, escS, opd, eVar, eC, eBin, eUn, eFn, eCall, eTup, eLst, aCons, aNil, fin, rd, rds, R.toS, dsOf, Rs.bind_ok, Rs.bind_bad, Rs.bind_ex, Rs.opt_some, Option.bind_some, Option.map_some, ownAt, eExt, eApp, ePop, List.getElem?_cons_zero, List.getElem?_cons_succ, List.set_cons_zero, List.set_cons_succ, okArg, List.all_cons, List.all_nil, Bool.and_self, if_true, kName, kTup, ksCons, ksNil, fMax, tOf, List.length_cons, List.length_nil, Bool.not_false, Bool.not_true, if_false, Bool.false_eq_true, lm0, lm1, lm2, lm3, lm4, lm5, lm6, lm7, lm8, lm9, lm10, lm11, lm12, fnM, List.map_cons, List.map_nil, List.replicate, List.cons_append, List.nil_append, Nat.reduceAdd, Nat.reduceSub, sNil, tAndM, tOrM, tNotM, tTru, dTru, eIf, dSub_i, dAdd_i, dLt_i, dLe_i, dGt_i, dGe_i, dEq_i, decide_true, decide_false, eChain, eAndM, eSl, oInt, dNeg, dIx, atI0, atI1, atI2, aDef, fTuple, wv_var, wc_var, wj_var, wb_var, wv_call, wc_call, wj_call, wb_call, wv_rel, wc_rel, wj_rel, wb_rel, wv_same, wc_same, wj_same, wb_same, wv_no, wc_no, wj_no, wb_no, wv_and, wc_and, wj_and, wb_and, wv_or, wc_or, wj_or, wb_or, wv_if, wc_if, wj_if, wb_if, wv_all, wc_all, wj_all, wb_all, wv_some, wc_some, wj_some, wb_some , sl2, sl1, slr, sn1, snr, ta21, ta12, ta10, xb_var, xc_var, xb_call, xc_call, xb_rel, xc_rel, xb_same, xc_same, xb_no, xc_no, xb_and, xc_and, xb_or, xc_or, xb_if, xc_if, xb_all, xc_all, xb_some, xc_some, xf_own, xo_own, xb_own, xc_own, xf_free, xo_free, xb_free, xc_free, xf_var, xo_var, xb_var, xc_var, xf_call, xo_call, xb_call, xc_call, xf_rel, xo_rel, xb_rel, xc_rel, xf_same, xo_same, xb_same, xc_same, xf_no, xo_no, xb_no, xc_no, xf_and, xo_and, xb_and, xc_and, xf_or, xo_or, xb_or, xc_or, xf_if, xo_if, xb_if, xc_if, xf_all, xo_all, xb_all, xc_all, xf_some, xo_some, xb_some, xc_some, dIx, atI0, atI1, atI2, sl2, sl1, slr, sn1, snr, ta21, ta12, ta10])
mutual
def xnm (tb : Int → D) : Th → Int → D
  | .var v, b => if v < b then .tup [.str "own", .int (b - 1 - v)] else tb (v - b)
  | .call f as, b => .tup [.str "call", .str f, .tup (xnms tb as b)]
  | .rel f as, b => .tup [.str "rel", .str f, .tup (xnms tb as b)]
  | .same x y, b => .tup [.str "same", xnm tb x b, xnm tb y b]
  | .no, _ => .tup [.str "no"]
  | .and x y, b => .tup [.str "and", xnm tb x b, xnm tb y b]
  | .or x y, b => .tup [.str "or", xnm tb x b, xnm tb y b]
  | .imp x y, b => .tup [.str "if", xnm tb x b, xnm tb y b]
  | .all s x, b => .tup [.str "all", .str s, xnm tb x (b + 1)]
  | .some s x, b => .tup [.str "some", .str s, xnm tb x (b + 1)]
def xnms (tb : Int → D) : List Th → Int → List D
  | [], _ => []
  | t :: r, b => xnm tb t b :: xnms tb r b
end
theorem xnms_map (tb : Int → D) (b : Int) : ∀ ts : List Th, xnms tb ts b = ts.map fun t => xnm tb t b
  | [] => by rw [xnms]; rfl
  | t :: r => by rw [xnms, xnms_map tb b r]; rfl
theorem nmds_eq (b : Int) : ∀ ts : List Th, nmds ts b = ts.map fun t => nmd t b := fun ts => nmds_map b ts
/-- the lambda at a number -/
def LamAt (xs : List D) (tb : Int → D) : Prop := ∀ j : Int, 0 ≤ j → ∃ z', m_lam { rho := (S.d (.int j) :: xs.map S.d).map some ++ List.replicate (3 - (S.d (.int j) :: xs.map S.d).length) none, m := () } = .ok (.d (tb j)) z'
theorem lamV_eq {xs : List D} {tb : Int → D} (h : LamAt xs tb) {w : D} {j : Int} (hj : 0 ≤ j) : eLamV 3 1 m_lam (L := lamL) (eBin dIx (eVar 0) (eC (.int 1))) ⟨[some (.d (.tup [w, .int j])), some (.m 0), none], xs⟩ = .ok (.d (tb j)) ⟨[some (.d (.tup [w, .int j])), some (.m 0), none], xs⟩ := by
  obtain ⟨z', e⟩ := h j hj
  show (match m_lam { rho := (S.d (.int j) :: xs.map S.d).map some ++ List.replicate (3 - (S.d (.int j) :: xs.map S.d).length) none, m := () } with
    | .ok (.d y) _ => Rs.ok (S.d y) (⟨[some (.d (.tup [w, .int j])), some (.m 0), none], xs⟩ : Z (List D))
    | _ => .bad) = _
  rw [e]
theorem xn_call {c : List S → List D → Rs S (List D)} {s0 x y : D} (m : List D) (h : c [.d x, .m 0] m = .ok (.d y) m) : escf (eCall c (aCons (escf (eVar 2)) (aCons (escf (eVar 1)) aNil)) : Sm (ML lamL) S) ⟨[some (.d s0), some (.m 0), some (.d x)], m⟩ = .ok (.d y) ⟨[some (.d s0), some (.m 0), some (.d x)], m⟩ := by
  walk_at "ex"
  rw [h]
  walk_at "ex"
theorem xn_lc {c : List S → List D → Rs S (List D)} {th : D} {tb : Int → D} {b : Int} {as : List Th} {its : Sm (ML lamL) (List D)} (m : List D) (hi : its ⟨[some (.d th), some (.m 0), none], m⟩ = .ok (as.map fun u => nmd u b) ⟨[some (.d th), some (.m 0), none], m⟩) (hl : as.length ≤ lim) (h : ∀ u ∈ as, c [.d (nmd u b), .m 0] m = .ok (.d (xnm tb u b)) m) :
    (eLc its (kName 2) (fun z => .ok true z) (eCall c (aCons (escf (eVar 2)) (aCons (escf (eVar 1)) aNil))) [2] : Sm (ML lamL) S) ⟨[some (.d th), some (.m 0), none], m⟩ = .ok (.l (xnms tb as b)) ⟨[some (.d th), some (.m 0), none], m⟩ := by
  rw [xnms_map]
  exact elc_map (M := ML lamL) (fun u => nmd u b) (g := fun u => xnm tb u b) (ts := as) hi rfl hl (fun u hu => xn_call m (h u hu))
theorem exchanged_eq {xs : List D} {tb : Int → D} (hL : LamAt xs tb) : ∀ (n : Nat) (t : Th) (b : Int), 0 ≤ b → depth t ≤ n → size t ≤ 900000 → mirX (n + 1) [.d (nmd t b), .m 0] xs = .ok (.d (xnm tb t b)) xs
  | 0, t, _, _, h, _ => by rw [depth_kids] at h; omega
  | n + 1, t, b, hb, h, hs => by
    rw [depth_kids] at h
    rw [size_kids] at hs
    have hl := sizes_len (kids t)
    have ih : ∀ u ∈ kids t, ∀ b : Int, 0 ≤ b → mirX (n + 1) [.d (nmd u b), .m 0] xs = .ok (.d (xnm tb u b)) xs := fun u hu b hb => exchanged_eq hL n u b hb (depths_le (by omega) u hu) (by have := mem_sizes hu; omega)
    show fnM 3 (m__law_exchanged (mirX (n + 1))) [.d (nmd t b), .m 0] xs = _
    unfold m__law_exchanged
    cases t with
    | var v =>
      rw [nmd, xnm]
      by_cases c : v < b
      · rw [if_pos c, if_pos c]
        walk_at "ex"
      · rw [if_neg c, if_neg c]
        walk_at "ex"
        rw [lamV_eq hL (by omega)]
        walk_at "ex"
    | no =>
      rw [nmd, xnm]
      walk_at "ex"
      have lc := xn_lc (tb := tb) (c := mirX (n + 1)) (as := []) (th := .tup [.str "no"]) (its := iAnyM (eSl dSl (eVar 0) (oInt (eC (.int 1))) (fun z => .ok none z))) (b := b) xs rfl (show (0 : Nat) ≤ 1000000 by omega) (fun u hu => by cases hu)
      rw [lc]
      simp only [xnms]
      walk_at "ex"
    | call f as =>
      rw [nmd, xnm]
      walk_at "ex"
      have lc := xn_lc (tb := tb) (as := as) (th := .tup [.str "call", .str f, .tup (nmds as b)]) (its := iAnyM (eBin dIx (eVar 0) (eC (.int 2)))) (b := b) xs (by rw [← nmds_eq]; rfl) (show as.length ≤ 1000000 by simp only [kids] at hs hl; omega) (fun u hu => ih u hu b hb)
      rw [lc]
      walk_at "ex"
    | rel f as =>
      rw [nmd, xnm]
      walk_at "ex"
      have lc := xn_lc (tb := tb) (as := as) (th := .tup [.str "rel", .str f, .tup (nmds as b)]) (its := iAnyM (eBin dIx (eVar 0) (eC (.int 2)))) (b := b) xs (by rw [← nmds_eq]; rfl) (show as.length ≤ 1000000 by simp only [kids] at hs hl; omega) (fun u hu => ih u hu b hb)
      rw [lc]
      walk_at "ex"
    | same x y =>
      rw [nmd, xnm]
      walk_at "ex"
      have lc := xn_lc (tb := tb) (as := [x, y]) (th := .tup [.str "same", nmd x b, nmd y b]) (its := iAnyM (eSl dSl (eVar 0) (oInt (eC (.int 1))) (fun z => .ok none z))) (b := b) xs rfl (show (2 : Nat) ≤ 1000000 by omega) (fun u hu => ih u (by simpa [kids] using hu) b hb)
      rw [lc]
      simp only [xnms]
      walk_at "ex"
    | and x y =>
      rw [nmd, xnm]
      walk_at "ex"
      have lc := xn_lc (tb := tb) (as := [x, y]) (th := .tup [.str "and", nmd x b, nmd y b]) (its := iAnyM (eSl dSl (eVar 0) (oInt (eC (.int 1))) (fun z => .ok none z))) (b := b) xs rfl (show (2 : Nat) ≤ 1000000 by omega) (fun u hu => ih u (by simpa [kids] using hu) b hb)
      rw [lc]
      simp only [xnms]
      walk_at "ex"
    | or x y =>
      rw [nmd, xnm]
      walk_at "ex"
      have lc := xn_lc (tb := tb) (as := [x, y]) (th := .tup [.str "or", nmd x b, nmd y b]) (its := iAnyM (eSl dSl (eVar 0) (oInt (eC (.int 1))) (fun z => .ok none z))) (b := b) xs rfl (show (2 : Nat) ≤ 1000000 by omega) (fun u hu => ih u (by simpa [kids] using hu) b hb)
      rw [lc]
      simp only [xnms]
      walk_at "ex"
    | imp x y =>
      rw [nmd, xnm]
      walk_at "ex"
      have lc := xn_lc (tb := tb) (as := [x, y]) (th := .tup [.str "if", nmd x b, nmd y b]) (its := iAnyM (eSl dSl (eVar 0) (oInt (eC (.int 1))) (fun z => .ok none z))) (b := b) xs rfl (show (2 : Nat) ≤ 1000000 by omega) (fun u hu => ih u (by simpa [kids] using hu) b hb)
      rw [lc]
      simp only [xnms]
      walk_at "ex"
    | all s x =>
      rw [nmd, xnm]
      walk_at "ex"
      rw [ih x (by simp [kids]) (b + 1) (by omega)]
      walk_at "ex"
    | some s x =>
      rw [nmd, xnm]
      walk_at "ex"
      rw [ih x (by simp [kids]) (b + 1) (by omega)]
      walk_at "ex"

mutual
theorem xnm_sub {us : List Th} (hu : ∀ u ∈ us, tmn u = true) : ∀ (t : Th) (b : Int), 0 ≤ b → xnm (tbl us) t b = nmd (sub us t b) b
  | .var v, b, hb => by
    rw [xnm, sub]
    by_cases c : v < b
    · rw [if_pos c]
      have e : subV us v b = .var v := by
        unfold subV
        split
        · rw [if_neg (by omega)]
        · rw [if_pos c]
      rw [e, nmd, if_pos c]
    · rw [if_neg c]
      unfold subV tbl
      cases e : us.reverse[(v - b).toNat]? with
      | none =>
        simp only []
        have hl : us.length ≤ (v - b).toNat := by
          have := List.getElem?_eq_none_iff.mp e
          rwa [List.length_reverse] at this
        rw [if_neg c, nmd, if_neg (by omega), show v - (us.length : Nat) - b = v - b - (us.length : Nat) by omega]
      | some u =>
        simp only []
        have hm : u ∈ us := List.mem_reverse.mp (List.mem_of_getElem? e)
        rw [if_pos (show 0 ≤ v - b by omega), nmd_lift0 u b hb (hu u hm)]
  | .call f as, b, hb => by rw [xnm, sub, nmd, xnms_sub hu as b hb]
  | .rel f as, b, hb => by rw [xnm, sub, nmd, xnms_sub hu as b hb]
  | .same x y, b, hb => by rw [xnm, sub, nmd, xnm_sub hu x b hb, xnm_sub hu y b hb]
  | .no, b, hb => by rw [xnm, sub, nmd]
  | .and x y, b, hb => by rw [xnm, sub, nmd, xnm_sub hu x b hb, xnm_sub hu y b hb]
  | .or x y, b, hb => by rw [xnm, sub, nmd, xnm_sub hu x b hb, xnm_sub hu y b hb]
  | .imp x y, b, hb => by rw [xnm, sub, nmd, xnm_sub hu x b hb, xnm_sub hu y b hb]
  | .all s x, b, hb => by rw [xnm, sub, nmd, xnm_sub hu x (b + 1) (by omega)]
  | .some s x, b, hb => by rw [xnm, sub, nmd, xnm_sub hu x (b + 1) (by omega)]
theorem xnms_sub {us : List Th} (hu : ∀ u ∈ us, tmn u = true) : ∀ (ts : List Th) (b : Int), 0 ≤ b → xnms (tbl us) ts b = nmds (subs us ts b) b
  | [], b, hb => by rw [xnms, subs, nmds]
  | t :: r, b, hb => by rw [xnms, subs, nmds, xnm_sub hu t b hb, xnms_sub hu r b hb]
end
theorem dSub_ii (i j : Int) : dSub (.int i) (.int j) = some (.d (.int (i - j))) := rfl
theorem lamAt (us : List Th) : LamAt [.int ((us.length : Nat) : Int), .lst (us.map fun u => nmd u 0)] (tbl us) := fun j hj => by
  refine ⟨⟨[some (.d (.int j)), some (.d (.int ((us.length : Nat) : Int))), some (.d (.lst (us.map fun u => nmd u 0)))], ()⟩, ?_⟩
  unfold m_lam
  walk_at "ex"
  by_cases c : j < ((us.length : Nat) : Int)
  · simp only [c]
    have hi : j.toNat < us.length := by omega
    have e0 : us.reverse[j.toNat]? = some (us[us.length - 1 - j.toNat]'(by omega)) := by
      rw [List.getElem?_reverse hi, List.getElem?_eq_getElem (by omega)]
    have ea : atI (us.map fun u => nmd u 0) (((us.length : Nat) : Int) - 1 - j) = some (nmd (us[us.length - 1 - j.toNat]'(by omega)) 0) := by
      unfold atI ixN
      rw [List.length_map, if_pos (by omega), if_pos (by omega), Option.bind_some]
      have e : (((us.length : Nat) : Int) - 1 - j).toNat = us.length - 1 - j.toNat := by omega
      rw [e, List.getElem?_map, List.getElem?_eq_getElem (by omega), Option.map_some]
    walk_at "ex"
    rw [ea]
    unfold tbl
    rw [e0]
    walk_at "ex"
  · simp only [c]
    have e0 : us.reverse[j.toNat]? = none := by
      rw [List.getElem?_eq_none_iff, List.length_reverse]
      omega
    unfold tbl
    rw [e0]
    walk_at "ex"
end L
set_option pp.maxSteps 400
set_option pp.deepTerms false
namespace L
open PySem L2 G
variable [TP]
local macro_rules | `(tactic| walk_at "ex") => `(tactic| try simp only [sSeq, sSet, sExpr, sRet, sIf, sAsg, una, escf, escS, opd, eVar, eC, eBin, eUn, eFn, eCall, eTup, eLst, aCons, aNil, fin, rd, rds, R.toS, dsOf, Rs.bind_ok, Rs.bind_bad, Rs.bind_ex, Rs.opt_some, Option.bind_some, Option.map_some, ownAt, eExt, eApp, ePop, List.getElem?_cons_zero, List.getElem?_cons_succ, List.set_cons_zero, List.set_cons_succ, okArg, List.all_cons, List.all_nil, Bool.and_self, if_true, kName, kTup, ksCons, ksNil, fMax, tOf, List.length_cons, List.length_nil, Bool.not_false, Bool.not_true, if_false, Bool.false_eq_true, lm0, lm1, lm2, lm3, lm4, lm5, lm6, lm7, lm8, lm9, lm10, lm11, lm12, fnM, List.map_cons, List.map_nil, List.replicate, List.cons_append, List.nil_append, Nat.reduceAdd, Nat.reduceSub, sNil, tAndM, tOrM, tNotM, tTru, dTru, eIf, dSub_i, dAdd_i, dLt_i, dLe_i, dGt_i, dGe_i, dEq_i, decide_true, decide_false, eChain, eAndM, eSl, oInt, dNeg, fInt, aDef, fTuple])
/-! free terms and statements -/
def cst : Nat → Nat
  | 0 => 4
  | d + 1 => 4 * cst d
def sz : Nat → Nat
  | 0 => 1
  | d + 1 => 3 * sz d + 1
theorem cst_lo : ∀ d, 4 ≤ cst d
  | 0 => by rw [cst]; omega
  | d + 1 => by have := cst_lo d; rw [cst]; omega
theorem sz_lo : ∀ d, 1 ≤ sz d
  | 0 => by rw [sz]; omega
  | d + 1 => by have := sz_lo d; rw [sz]; omega
theorem fgh {r : Int} (h : 0 ≤ r) (h2 : r < 3) : ∃ s, dIx (.str "fgh") (.int r) = some (.d (.str s)) ∧ okNm s = true := by
  have c : r = 0 ∨ r = 1 ∨ r = 2 := by omega
  rcases c with rfl | rfl | rfl
  · exact ⟨⟨#[102]⟩, by kernel_rfl, by decide +kernel⟩
  · exact ⟨⟨#[103]⟩, by kernel_rfl, by decide +kernel⟩
  · exact ⟨⟨#[104]⟩, by kernel_rfl, by decide +kernel⟩
theorem pq {r : Int} (h : 0 ≤ r) (h2 : r < 2) : ∃ s, dIx (.str "pq") (.int r) = some (.d (.str s)) ∧ okNm s = true := by
  have c : r = 0 ∨ r = 1 := by omega
  rcases c with rfl | rfl
  · exact ⟨⟨#[112]⟩, by kernel_rfl, by decide +kernel⟩
  · exact ⟨⟨#[113]⟩, by kernel_rfl, by decide +kernel⟩
theorem st {r : Int} (h : 0 ≤ r) (h2 : r < 2) : ∃ s, dIx (.str "st") (.int r) = some (.d (.str s)) ∧ okNm s = true := by
  have c : r = 0 ∨ r = 1 := by omega
  rcases c with rfl | rfl
  · exact ⟨⟨#[115]⟩, by kernel_rfl, by decide +kernel⟩
  · exact ⟨⟨#[116]⟩, by kernel_rfl, by decide +kernel⟩
theorem draw {L : Nat} (many : Int) (m : Mach) (h : 0 < many) (h2 : many < 1073741824) (h3 : m.at_ < drawLim) : ∃ (r : Int) (m' : Mach), mir (L + 1) ._law_next [.m 0, .d (.int many)] m = .ok (.d (.int r)) m' ∧ 0 ≤ r ∧ r < many ∧ m'.at_ = m.at_ + 1 := next_ok h h2 h3
def Gd (d s : Nat) (t : Th) : Prop := fn1 1000 t = true ∧ depth t ≤ d ∧ size t ≤ s
theorem gd_list {d s : Nat} : ∀ {ts : List Th}, (∀ t ∈ ts, Gd d s t) → fn1s 1000 ts = true ∧ depths ts ≤ d ∧ sizes ts ≤ ts.length * s
  | [], _ => by simp [fn1s, depths, sizes]
  | t :: r, h => by
    obtain ⟨a, b, c⟩ := h t List.mem_cons_self
    obtain ⟨a', b', c'⟩ := gd_list fun t ht => h t (List.mem_cons_of_mem _ ht)
    rw [fn1s, depths, sizes, a, a', List.length_cons, Nat.succ_mul]
    exact ⟨rfl, by omega, by omega⟩
def Gt (d s : Nat) (t : Th) : Prop := Gd d s t ∧ tmn t = true
theorem gt_list {d s : Nat} {ts : List Th} (h : ∀ t ∈ ts, Gt d s t) : (fn1s 1000 ts = true ∧ depths ts ≤ d ∧ sizes ts ≤ ts.length * s) ∧ tmns ts = true := ⟨gd_list fun t ht => (h t ht).1, tmns_all fun t ht => (h t ht).2⟩
theorem term_okT : ∀ (d L : Nat) (many : Int) (m : Mach), d + 2 ≤ L → 0 ≤ many → many < 1000 → m.at_ + cst d ≤ drawLim → ∃ t m', mir L ._law_free_term [.m 0, .d (.int many), .d (.int (d : Int))] m = .ok (.d (enc t)) m' ∧ Gt (d + 1) (sz d) t ∧ m'.at_ ≤ m.at_ + cst d
  | d, 0, _, _, h, _, _, _ => by omega
  | d, 1, _, _, h, _, _, _ => by omega
  | d, L + 2, many, m, h, hm, hm2, hb => by
    have k4 := cst_lo d
    have k1 := sz_lo d
    obtain ⟨r, m1, e1, r0, r1, a1⟩ := draw (L := L) 4 m (by omega) (by omega) (by omega)
    show ∃ t m', fnM 6 (m__law_free_term (mir (L + 1))) [.m 0, .d (.int many), .d (.int (d : Int))] m = _ ∧ _
    unfold m__law_free_term
    walk_at "ex"
    rw [e1]
    walk_at "ex"
    by_cases c1 : r < 2 ∧ 0 < many
    · simp only [c1.1, c1.2]
      walk_at "ex"
      obtain ⟨r2, m2, e2, p2, q2, a2⟩ := draw (L := L) many m1 c1.2 (by omega) (by omega)
      rw [e2]
      walk_at "ex"
      refine ⟨.var r2, m2, by rw [enc], ⟨⟨by rw [fn1]; exact decide_eq_true (by omega), by rw [depth]; omega, by rw [size]; omega⟩, by rw [tmn]; exact decide_eq_true p2⟩, by omega⟩
    · rw [and_ok, Rs.bind_ok, decide_eq_false c1]
      walk_at "ex"
      by_cases c2 : r < 3 ∨ (d : Int) < 1
      · rw [or_ok, Rs.bind_ok, decide_eq_true c2]
        walk_at "ex"
        obtain ⟨r2, m2, e2, p2, q2, a2⟩ := draw (L := L) 3 m1 (by omega) (by omega) (by omega)
        rw [e2]
        walk_at "ex"
        obtain ⟨s, es, ns⟩ := fgh p2 q2
        rw [es]
        walk_at "ex"
        exact ⟨.call s [], m2, by rw [enc, encs], ⟨⟨by rw [fn1, ns, fn1s]; rfl, by rw [depth, depths]; omega, by rw [size, sizes]; omega⟩, by rw [tmn, tmns]⟩, by omega⟩
      · rw [or_ok, Rs.bind_ok, decide_eq_false c2]
        walk_at "ex"
        cases d with
        | zero => exact (c2 (.inr (by omega))).elim
        | succ d =>
          rw [cst] at hb ⊢
          rw [sz]
          have k4 := cst_lo d
          have k1 := sz_lo d
          obtain ⟨r2, m2, e2, p2, q2, a2⟩ := draw (L := L) 3 m1 (by omega) (by omega) (by omega)
          have i1 : (iRg1M (aCons (opd (eBin dAdd (eC (.int 1)) (eCall (mir (L + 1) ._law_next) (aCons (escf (eVar 0)) (aCons (escf (eC (.int 3))) aNil))))) aNil) : Sm Mx (List D)) ⟨[some (S.m 0), some (S.d (D.int many)), some (S.d (D.int ((d + 1 : Nat) : Int))), some (S.d (D.int r)), none, none], m1⟩ = .ok (rangeD 0 (1 + r2).toNat) ⟨[some (S.m 0), some (S.d (D.int many)), some (S.d (D.int ((d + 1 : Nat) : Int))), some (S.d (D.int r)), none, none], m2⟩ := by
            simp only [iRg1M]
            walk_at "ex"
            rw [e2]
            walk_at "ex"
            rw [if_pos (rg_lim (by omega) (by omega))]
          obtain ⟨ts, m3, g1, g2, g3, g4⟩ := elc_run (M := Mx) (i := 5) (e := eCall (mir (L + 1) ._law_free_term) (aCons (escf (eVar 0)) (aCons (escf (eVar 1)) (aCons (escf (eBin dSub (eVar 2) (eC (.int 1)))) aNil)))) (en := enc) (P := Gt (d + 1) (sz d)) (Q := fun k m' => k * cst d + m'.at_ ≤ m2.at_ + (1 + r2).toNat * cst d) i1 rfl (by rw [range_len]; show _ ≤ 1000000; omega) (by rw [range_len]; exact Nat.le_of_eq (Nat.add_comm _ _)) (fun k x m' hq => by
            have hr : (1 + r2).toNat * cst d ≤ 3 * cst d := Nat.mul_le_mul_right _ (by omega)
            rw [Nat.succ_mul] at hq
            obtain ⟨t, m4, f1, f2, f3⟩ := term_okT d (L + 1) many m' (by omega) hm hm2 (by omega)
            refine ⟨t, m4, ?_, f2, by omega⟩
            walk_at "ex"
            have ed : (((d + 1 : Nat) : Int) - 1) = (d : Int) := by omega
            rw [ed, f1]
            walk_at "ex")
          rw [g1]
          walk_at "ex"
          have hr : (1 + r2).toNat * cst d ≤ 3 * cst d := Nat.mul_le_mul_right _ (by omega)
          rw [Nat.zero_mul] at g4
          obtain ⟨r5, m5, e5, p5, q5, a5⟩ := draw (L := L) 3 m3 (by omega) (by omega) (by omega)
          rw [e5]
          walk_at "ex"
          obtain ⟨s, es, ns⟩ := fgh p5 q5
          rw [es]
          walk_at "ex"
          try simp only [fTuple]
          walk_at "ex"
          obtain ⟨⟨x1, x2, x3⟩, x4⟩ := gt_list g3
          have hz : ts.length * sz d ≤ 3 * sz d := Nat.mul_le_mul_right _ (by rw [g2, range_len]; omega)
          exact ⟨.call s ts, m5, by rw [enc, encs_map], ⟨⟨by rw [fn1, ns, x1]; rfl, by rw [depth]; omega, by rw [size]; omega⟩, by rw [tmn, x4]⟩, by omega⟩
theorem term_ok (d L : Nat) (many : Int) (m : Mach) (h1 : d + 2 ≤ L) (h2 : 0 ≤ many) (h3 : many < 1000) (h4 : m.at_ + cst d ≤ drawLim) : ∃ t m', mir L ._law_free_term [.m 0, .d (.int many), .d (.int (d : Int))] m = .ok (.d (enc t)) m' ∧ Gd (d + 1) (sz d) t ∧ m'.at_ ≤ m.at_ + cst d := by
  obtain ⟨t, m', a, b, c⟩ := term_okT d L many m h1 h2 h3 h4
  exact ⟨t, m', a, b.1, c⟩
def bst : Nat → Nat
  | 0 => 1000
  | d + 1 => 4 * bst d
def ssz : Nat → Nat
  | 0 => 40
  | d + 1 => 2 * ssz d + 1
theorem bst_lo : ∀ d, 1000 ≤ bst d
  | 0 => by rw [bst]; omega
  | d + 1 => by have := bst_lo d; rw [bst]; omega
theorem ssz_lo : ∀ d, 40 ≤ ssz d
  | 0 => by rw [ssz]; omega
  | d + 1 => by have := ssz_lo d; rw [ssz]; omega
theorem word3 {r : Int} (h : 3 ≤ r) (h2 : r < 6) : ∃ (w : Str) (K : Th → Th → Th), dIx (.lst [.str "and", .str "or", .str "if"]) (.int (r - 3)) = some (.d (.str w)) ∧ ∀ a b, enc (K a b) = .tup [.str w, enc a, enc b] ∧ fn1 1000 (K a b) = (fn1 1000 a && fn1 1000 b) ∧ depth (K a b) = 1 + max (depth a) (depth b) ∧ size (K a b) = 1 + (size a + size b) := by
  have c : r = 3 ∨ r = 4 ∨ r = 5 := by omega
  rcases c with rfl | rfl | rfl
  · exact ⟨"and", .and, rfl, fun a b => ⟨by rw [enc], by rw [fn1], by rw [depth], by rw [size]⟩⟩
  · exact ⟨"or", .or, rfl, fun a b => ⟨by rw [enc], by rw [fn1], by rw [depth], by rw [size]⟩⟩
  · exact ⟨"if", .imp, rfl, fun a b => ⟨by rw [enc], by rw [fn1], by rw [depth], by rw [size]⟩⟩
theorem word6 {r : Int} (h : 6 ≤ r) (h2 : r < 9) : ∃ (w : Str) (K : Str → Th → Th), dIx (.lst [.str "all", .str "some", .str "all"]) (.int (r - 6)) = some (.d (.str w)) ∧ ∀ s a, enc (K s a) = .tup [.str w, .str s, enc a] ∧ fn1 1000 (K s a) = (okNm s && fn1 1000 a) ∧ depth (K s a) = 1 + depth a ∧ size (K s a) = 1 + size a := by
  have c : r = 6 ∨ r = 7 ∨ r = 8 := by omega
  rcases c with rfl | rfl | rfl
  · exact ⟨"all", .all, rfl, fun a b => ⟨by rw [enc], by rw [fn1], by rw [depth], by rw [size]⟩⟩
  · exact ⟨"some", .some, rfl, fun a b => ⟨by rw [enc], by rw [fn1], by rw [depth], by rw [size]⟩⟩
  · exact ⟨"all", .all, rfl, fun a b => ⟨by rw [enc], by rw [fn1], by rw [depth], by rw [size]⟩⟩
theorem c1 : cst 1 = 16 := rfl
theorem c2 : cst 2 = 64 := rfl
theorem s1 : sz 1 = 4 := rfl
theorem s2 : sz 2 = 13 := rfl
theorem stat_ok : ∀ (d L : Nat) (many : Int) (m : Mach), d + 10 ≤ L → 0 ≤ many → many + d < 1000 → m.at_ + bst d ≤ drawLim → ∃ t m', mir L ._law_free_statement [.m 0, .d (.int many), .d (.int (d : Int))] m = .ok (.d (enc t)) m' ∧ Gd (d + 4) (ssz d) t ∧ m'.at_ ≤ m.at_ + bst d
  | d, 0, _, _, h, _, _, _ => by omega
  | d, 1, _, _, h, _, _, _ => by omega
  | d, L + 2, many, m, h, hm, hm2, hb => by
    have k4 := bst_lo d
    have k1 := ssz_lo d
    obtain ⟨r, m1, e1, r0, r1, a1⟩ := draw (L := L) 9 m (by omega) (by omega) (by omega)
    show ∃ t m', fnM 8 (m__law_free_statement (mir (L + 1))) [.m 0, .d (.int many), .d (.int (d : Int))] m = _ ∧ _
    unfold m__law_free_statement
    walk_at "ex"
    rw [e1]
    walk_at "ex"
    by_cases c : (d : Int) < 1 ∨ r < 3
    · rw [or_ok, Rs.bind_ok, decide_eq_true c]
      walk_at "ex"
      by_cases q0 : r = 0
      · simp only [q0]
        walk_at "ex"
        exact ⟨.no, m1, by rw [enc], ⟨by rw [fn1], by rw [depth]; omega, by rw [size]; omega⟩, by omega⟩
      simp only [q0]
      walk_at "ex"
      by_cases q1 : r = 1
      · simp only [q1]
        walk_at "ex"
        obtain ⟨t1, m2, f1, ⟨g1, g2, g3⟩, g4⟩ := term_ok 2 (L + 1) many m1 (by omega) hm (by omega) (by rw [c2]; omega)
        rw [c2] at g4
        rw [s2] at g3
        obtain ⟨t2, m3, f2, ⟨x1, x2, x3⟩, x4⟩ := term_ok 1 (L + 1) many m2 (by omega) hm (by omega) (by rw [c1]; omega)
        rw [c1] at x4
        rw [s1] at x3
        have z2 : ((2 : Nat) : Int) = 2 := rfl
        have z1 : ((1 : Nat) : Int) = 1 := rfl
        rw [z2] at f1
        rw [z1] at f2
        rw [f1]
        walk_at "ex"
        rw [f2]
        walk_at "ex"
        exact ⟨.same t1 t2, m3, by rw [enc], ⟨by rw [fn1, g1, x1]; rfl, by rw [depth]; omega, by rw [size]; omega⟩, by omega⟩
      simp only [q1]
      walk_at "ex"
      obtain ⟨r2, m2, e2, p2, q2, a2⟩ := draw (L := L) 4 m1 (by omega) (by omega) (by omega)
      have i1 : (iRg1M (aCons (opd (eCall (mir (L + 1) ._law_next) (aCons (escf (eVar 0)) (aCons (escf (eC (.int 4))) aNil)))) aNil) : Sm Mx (List D)) ⟨[some (S.m 0), some (S.d (D.int many)), some (S.d (D.int (d : Int))), some (S.d (D.int r)), none, none, none, none], m1⟩ = .ok (rangeD 0 r2.toNat) ⟨[some (S.m 0), some (S.d (D.int many)), some (S.d (D.int (d : Int))), some (S.d (D.int r)), none, none, none, none], m2⟩ := by
        simp only [iRg1M]
        walk_at "ex"
        rw [e2]
        walk_at "ex"
        rw [if_pos (rg_lim (by omega) (by omega))]
      obtain ⟨ts, m3, g1, g2, g3, g4⟩ := elc_run (M := Mx) (i := 7) (e := eCall (mir (L + 1) ._law_free_term) (aCons (escf (eVar 0)) (aCons (escf (eVar 1)) (aCons (escf (eC (.int 2))) aNil)))) (en := enc) (P := Gd 3 13) (Q := fun k m' => k * 64 + m'.at_ ≤ m2.at_ + r2.toNat * 64) i1 rfl (by rw [range_len]; show _ ≤ 1000000; omega) (by rw [range_len]; exact Nat.le_of_eq (Nat.add_comm _ _)) (fun k x m' hq => by
        obtain ⟨t, m4, f1, f2, f3⟩ := term_ok 2 (L + 1) many m' (by omega) hm (by omega) (by rw [c2]; omega)
        rw [c2] at f3
        refine ⟨t, m4, ?_, f2, by omega⟩
        walk_at "ex"
        have ed : ((2 : Nat) : Int) = 2 := rfl
        rw [ed] at f1
        rw [f1]
        walk_at "ex")
      rw [g1]
      walk_at "ex"
      obtain ⟨r5, m5, e5, p5, q5, a5⟩ := draw (L := L) 2 m3 (by omega) (by omega) (by omega)
      rw [e5]
      walk_at "ex"
      obtain ⟨s, es, ns⟩ := pq p5 q5
      rw [es]
      walk_at "ex"
      try simp only [fTuple]
      walk_at "ex"
      obtain ⟨x1, x2, x3⟩ := gd_list g3
      rw [g2, range_len] at x3
      exact ⟨.rel s ts, m5, by rw [enc, encs_map], ⟨by rw [fn1, ns, x1]; rfl, by rw [depth]; omega, by rw [size]; omega⟩, by omega⟩
    · rw [or_ok, Rs.bind_ok, decide_eq_false c]
      walk_at "ex"
      cases d with
      | zero => exact (c (.inl (by omega))).elim
      | succ d =>
        rw [bst] at hb ⊢
        rw [ssz]
        have k4 := bst_lo d
        have k1 := ssz_lo d
        have ed : (((d + 1 : Nat) : Int) - 1) = (d : Int) := by omega
        by_cases q : r < 6
        · simp only [q]
          walk_at "ex"
          obtain ⟨w, K, ew, hK⟩ := word3 (r := r) (by omega) q
          rw [ew]
          walk_at "ex"
          obtain ⟨t1, m2, f1, ⟨g1, g2, g3⟩, g4⟩ := stat_ok d (L + 1) many m1 (by omega) hm (by omega) (by omega)
          obtain ⟨t2, m3, f2, ⟨x1, x2, x3⟩, x4⟩ := stat_ok d (L + 1) many m2 (by omega) hm (by omega) (by omega)
          rw [ed, f1]
          walk_at "ex"
          rw [ed, f2]
          walk_at "ex"
          obtain ⟨y1, y2, y3, y4⟩ := hK t1 t2
          exact ⟨K t1 t2, m3, by rw [y1], ⟨by rw [y2, g1, x1]; rfl, by rw [y3]; omega, by rw [y4]; omega⟩, by omega⟩
        · simp only [q]
          walk_at "ex"
          obtain ⟨t1, m2, f1, ⟨g1, g2, g3⟩, g4⟩ := stat_ok d (L + 1) (many + 1) m1 (by omega) (by omega) (by omega) (by omega)
          rw [ed, f1]
          walk_at "ex"
          obtain ⟨w, K, ew, hK⟩ := word6 (r := r) (by omega) r1
          rw [ew]
          walk_at "ex"
          obtain ⟨r5, m5, e5, p5, q5, a5⟩ := draw (L := L) 2 m2 (by omega) (by omega) (by omega)
          rw [e5]
          walk_at "ex"
          obtain ⟨s, es, ns⟩ := st p5 q5
          rw [es]
          walk_at "ex"
          obtain ⟨y1, y2, y3, y4⟩ := hK s t1
          exact ⟨K s t1, m5, by rw [y1], ⟨by rw [y2, ns, g1]; rfl, by rw [y3]; omega, by rw [y4]; omega⟩, by omega⟩
end L
set_option pp.maxSteps 400
set_option pp.deepTerms false
namespace L
open PySem L2 G
variable [TP]
local macro_rules | `(tactic| walk_at "ex") => `(tactic| try simp only [sSeq, sSet, sExpr, sRet, sIf, sAsg, una, escf, escS, opd, eVar, eC, eBin, eUn, eFn, eCall, eTup, eLst, aCons, aNil, fin, rd, rds, R.toS, dsOf, Rs.bind_ok, Rs.bind_bad, Rs.bind_ex, Rs.opt_some, Option.bind_some, Option.map_some, ownAt, eExt, eApp, ePop, List.getElem?_cons_zero, List.getElem?_cons_succ, List.set_cons_zero, List.set_cons_succ, okArg, List.all_cons, List.all_nil, Bool.and_self, if_true, kName, kTup, ksCons, ksNil, fMax, tOf, List.length_cons, List.length_nil, Bool.not_false, Bool.not_true, if_false, Bool.false_eq_true, lm0, lm1, lm2, lm3, lm4, lm5, lm6, lm7, lm8, lm9, lm10, lm11, lm12, fnM, List.map_cons, List.map_nil, List.replicate, List.cons_append, List.nil_append, Nat.reduceAdd, Nat.reduceSub, sNil, tAndM, tOrM, tNotM, tTru, dTru, eIf, dSub_i, dAdd_i, dLt_i, dLe_i, dGt_i, dGe_i, dEq_i, decide_true, decide_false, eChain, eAndM, eSl, oInt, dNeg, fInt, aDef, fTuple])
local macro_rules | `(tactic| walk_at "ey") => `(tactic| try simp only [sSeq, sSet, sExpr, sRet, sIf, sAsg, una, escf, escS, opd, eVar, eC, eBin, eUn, eFn, eCall, eTup, eLst, aCons, aNil, fin, rd, rds, R.toS, dsOf, Rs.bind_ok, Rs.bind_bad, Rs.bind_ex, Rs.opt_some, Option.bind_some, Option.map_some, ownAt, eExt, eApp, ePop, List.getElem?_cons_zero, List.getElem?_cons_succ, List.set_cons_zero, List.set_cons_succ, okArg, List.all_cons, List.all_nil, Bool.and_self, if_true, kName, kTup, ksCons, ksNil, fMax, tOf, List.length_cons, List.length_nil, Bool.not_false, Bool.not_true, if_false, Bool.false_eq_true, lm0, lm1, lm2, lm3, lm4, lm5, lm6, lm7, lm8, lm9, lm10, lm11, lm12, fnM, List.map_cons, List.map_nil, List.replicate, List.cons_append, List.nil_append, Nat.reduceAdd, Nat.reduceSub, sNil, tAndM, tOrM, tNotM, tTru, dTru, eIf, dSub_i, dAdd_i, dLt_i, dLe_i, dGt_i, dGe_i, dEq_i, decide_true, decide_false, eChain, eAndM, eSl, oInt, dNeg, fInt, aDef, fTuple])
def rg (k : Nat) : Nat → List D
  | 0 => []
  | n + 1 => .int (k : Int) :: rg (k + 1) n
theorem rg_get : ∀ (n k i : Nat), (rg k n)[i]? = if i < n then some (.int ((k + i : Nat) : Int)) else none
  | 0, k, i => by rw [rg]; simp
  | n + 1, k, 0 => by rw [rg]; simp
  | n + 1, k, i + 1 => by
    rw [rg, List.getElem?_cons_succ, rg_get n (k + 1) i, show k + 1 + i = k + (i + 1) from by omega]
    by_cases q : i < n
    · rw [if_pos q, if_pos (by omega)]
    · rw [if_neg q, if_neg (by omega)]
theorem range_rg (n : Nat) : rangeD 0 n = rg 0 n := by
  refine List.ext_getElem? fun i => ?_
  rw [rg_get]
  unfold rangeD
  rw [List.getElem?_map]
  by_cases q : i < n
  · rw [if_pos q, List.getElem?_range q, Option.map_some]; simp
  · rw [if_neg q, List.getElem?_eq_none (by rw [List.length_range]; omega)]; rfl
theorem for_inv {kk : D → Z Mach → Option (Z Mach)} {b : Sm Mx Out} {N : Nat} (Inv : Nat → Z Mach → Prop) (step : ∀ i z, i < N → Inv i z → ∃ z1 z2, kk (.int (i : Int)) z = some z1 ∧ b z1 = .ok .nx z2 ∧ Inv (i + 1) z2) : ∀ (n i : Nat) (z : Z Mach), i + n = N → Inv i z → ∃ z', forL (M := Mx) kk b (rg i n) z = .ok .nx z' ∧ Inv N z'
  | 0, i, z, h, hi => ⟨z, rfl, by rw [← h]; exact hi⟩
  | n + 1, i, z, h, hi => by
    obtain ⟨z1, z2, e1, e2, i2⟩ := step i z (by omega) hi
    obtain ⟨z', e, i3⟩ := for_inv Inv step n (i + 1) z2 (by omega) i2
    refine ⟨z', ?_, i3⟩
    rw [rg]
    conv => lhs; unfold forL
    simp only [e1]
    rw [e2]
    exact e
theorem for_list {kk : D → Z Mach → Option (Z Mach)} {b : Sm Mx Out} (Inv : Z Mach → Prop) : ∀ (ds : List D) (z : Z Mach), (∀ d ∈ ds, ∀ z, Inv z → ∃ z1 z2, kk d z = some z1 ∧ b z1 = .ok .nx z2 ∧ Inv z2) → Inv z → ∃ z', forL (M := Mx) kk b ds z = .ok .nx z' ∧ Inv z'
  | [], z, _, hi => ⟨z, rfl, hi⟩
  | d :: r, z, step, hi => by
    obtain ⟨z1, z2, e1, e2, i2⟩ := step d List.mem_cons_self z hi
    obtain ⟨z', e, i3⟩ := for_list Inv r z2 (fun x hx => step x (List.mem_cons_of_mem _ hx)) i2
    refine ⟨z', ?_, i3⟩
    conv => lhs; unfold forL
    simp only [e1]
    rw [e2]
    exact e
theorem rg1_it {g : Sm Mx (List S)} {z z1 : Z Mach} {j : Int} (h : g z = .ok [.d (.int j)] z1) (h0 : 0 ≤ j) (h1 : j ≤ 1000000) : (iRg1M g : Sm Mx (List D)) z = .ok (rg 0 j.toNat) z1 := by
  unfold iRg1M
  rw [h, Rs.bind_ok]
  show (if -(2 ^ 62) ≤ j ∧ j < 2 ^ 62 then Rs.ok (rangeD 0 j.toNat) z1 else .bad) = _
  rw [if_pos (by omega), range_rg]
theorem bst_le : ∀ d, d ≤ 5 → bst d ≤ 1024000 ∧ ssz d ≤ 1311
  | 0, _ => by decide
  | 1, _ => by decide
  | 2, _ => by decide
  | 3, _ => by decide
  | 4, _ => by decide
  | 5, _ => by decide
  | n + 6, h => by omega
theorem drw (x : Mach) (n : Nat) (h : x.at_ ≤ n) (hn : n < 1000000000000) : x.at_ < drawLim := by
  have : drawLim = 1152921504606846976 := by decide +kernel
  omega
theorem drw2 (x : Mach) (n k : Nat) (h : x.at_ ≤ n) (hn : n + k < 1000000000000) : x.at_ + k ≤ drawLim := by
  have : drawLim = 1152921504606846976 := by decide +kernel
  omega

def sv0 : Th := .same (.var 0) (.var 0)
def bsh : Nat → Nat → Th
  | 0, _ => sv0
  | f + 1, k => if k < 2 then sv0 else .and (bsh f (k / 2)) (bsh f (k - k / 2))
theorem sv0_ok : enc sv0 = .tup [.str "same", .tup [.str "var", .int 0], .tup [.str "var", .int 0]] := by unfold sv0; rw [enc, enc]
theorem sv0_facts : size sv0 = 3 ∧ depth sv0 = 2 ∧ fn1 1000 sv0 = true := by
  unfold sv0
  refine ⟨by simp [size], by simp [depth], ?_⟩
  rw [fn1, fn1]; rfl
theorem bsh_facts : ∀ (f k : Nat), 1 ≤ k → k ≤ 2 ^ f → size (bsh f k) + 1 = 4 * k ∧ depth (bsh f k) ≤ f + 2 ∧ fn1 1000 (bsh f k) = true
  | 0, k, h1, h2 => by
    have : k = 1 := by simp at h2; omega
    obtain ⟨a, b, c⟩ := sv0_facts
    rw [bsh]
    exact ⟨by omega, by omega, c⟩
  | f + 1, k, h1, h2 => by
    obtain ⟨a, b, c⟩ := sv0_facts
    rw [bsh]
    by_cases q : k < 2
    · rw [if_pos q]; exact ⟨by omega, by omega, c⟩
    · rw [if_neg q]
      have hp : 2 ^ (f + 1) = 2 * 2 ^ f := by rw [Nat.pow_succ]; omega
      obtain ⟨a1, b1, c1⟩ := bsh_facts f (k / 2) (by omega) (by omega)
      obtain ⟨a2, b2, c2⟩ := bsh_facts f (k - k / 2) (by omega) (by omega)
      refine ⟨by rw [size]; omega, by rw [depth]; omega, by rw [fn1, c1, c2]; rfl⟩
theorem fdiv2 (k : Nat) : dFdiv (.int (k : Int)) (.int 2) = some (.d (.int ((k / 2 : Nat) : Int))) := by
  have e : ((k / 2 : Nat) : Int) = (k : Int) / 2 := by omega
  rw [e]
  unfold dFdiv dI
  exact if_pos (decide_eq_true ⟨by omega, by omega⟩)
theorem bush_eq : ∀ (f n k : Nat) (m : Mach), 1 ≤ k → k ≤ 2 ^ f → f ≤ n → mir (n + 1) ._law_bush [.d (.int (k : Int))] m = .ok (.d (enc (bsh f k))) m
  | 0, n, k, m, h1, h2, h3 => by
    have e : k = 1 := by simp at h2; omega
    subst e
    show fnM 1 (m__law_bush (mir n)) [.d (.int ((1 : Nat) : Int))] m = _
    unfold m__law_bush
    rw [bsh, sv0_ok]
    walk_at "ex"
    rfl
  | f + 1, 0, k, m, h1, h2, h3 => by omega
  | f + 1, n + 1, k, m, h1, h2, h3 => by
    show fnM 1 (m__law_bush (mir (n + 1))) [.d (.int (k : Int))] m = _
    unfold m__law_bush
    rw [bsh]
    have hp : 2 ^ (f + 1) = 2 * 2 ^ f := by rw [Nat.pow_succ]; omega
    by_cases q : k < 2
    · rw [if_pos q, sv0_ok]
      have q' : (k : Int) < 2 := by omega
      walk_at "ex"
      simp only [q']
      walk_at "ex"
    · rw [if_neg q]
      have q' : ¬ (k : Int) < 2 := by omega
      walk_at "ex"
      simp only [q']
      walk_at "ex"
      rw [fdiv2]
      walk_at "ex"
      rw [bush_eq f n (k / 2) m (by omega) (by omega) (by omega)]
      walk_at "ex"
      rw [fdiv2]
      walk_at "ex"
      have e : (k : Int) - ((k / 2 : Nat) : Int) = ((k - k / 2 : Nat) : Int) := by omega
      rw [e, bush_eq f n (k - k / 2) m (by omega) (by omega) (by omega)]
      walk_at "ex"
      rw [enc]
def tw : Nat → Th
  | 0 => .var 0
  | i + 1 => .call "f" [tw i]
theorem tw_facts : ∀ i, size (tw i) = i + 1 ∧ depth (tw i) = i + 1 ∧ fn1 1000 (tw i) = true ∧ tmn (tw i) = true
  | 0 => by refine ⟨by simp [tw, size], by simp [tw, depth], by rw [tw, fn1]; rfl, by rw [tw, tmn]; rfl⟩
  | i + 1 => by
    obtain ⟨a, b, c, d⟩ := tw_facts i
    have o : okNm "f" = true := by decide +kernel
    refine ⟨by rw [tw, size, sizes, sizes]; omega, by rw [tw, depth, depths, depths]; omega, by rw [tw, fn1, fn1s, fn1s, c, o]; rfl, by rw [tw, tmn, tmns, tmns, d]; rfl⟩
def ch (v : Int) : Nat → Th
  | 0 => .rel "p" [.var v]
  | i + 1 => .all "s" (ch v i)
theorem ch_facts {v : Int} (hv : v.natAbs ≤ 1000) : ∀ i, size (ch v i) = i + 2 ∧ depth (ch v i) = i + 2 ∧ fn1 1000 (ch v i) = true
  | 0 => by
    have o : okNm "p" = true := by decide +kernel
    refine ⟨by simp [ch, size, sizes], by simp [ch, depth, depths], by rw [ch, fn1, fn1s, fn1s, fn1, o, decide_eq_true hv]; rfl⟩
  | i + 1 => by
    obtain ⟨a, b, c⟩ := ch_facts hv i
    have o : okNm "s" = true := by decide +kernel
    refine ⟨by rw [ch, size]; omega, by rw [ch, depth]; omega, by rw [ch, fn1, o, c]; rfl⟩
def TB : Sm Mx Out := (sSet 1 (eTup (aCons (escf (eC (.str "call"))) (aCons (escf (eC (.str "f"))) (aCons (escf (eTup (aCons (escf (eVar 1)) aNil))) aNil)))))
def CB : Sm Mx Out := (sSet 1 (eTup (aCons (escf (eC (.str "all"))) (aCons (escf (eC (.str "s"))) (aCons (escf (eVar 1)) aNil)))))
theorem tb_step (N : Int) (x : D) (s : Option S) (m : Mach) : TB ⟨[some (.d (.int N)), some (.d x), s], m⟩ = .ok .nx ⟨[some (.d (.int N)), some (.d (.tup [.str "call", .str "f", .tup [x]])), s], m⟩ := by
  unfold TB
  walk_at "ex"
theorem cb_step (N : Int) (x : D) (s : Option S) (m : Mach) : CB ⟨[some (.d (.int N)), some (.d x), s], m⟩ = .ok .nx ⟨[some (.d (.int N)), some (.d (.tup [.str "all", .str "s", x])), s], m⟩ := by
  unfold CB
  walk_at "ex"
theorem fn_loop {F : Sm Mx Out} {x0 y : D} {N : Int} {m : Mach} {s : Option S} {I0 : Sm Mx S} (h0 : I0 ⟨[some (.d (.int N)), none, none], m⟩ = .ok (.d x0) ⟨[some (.d (.int N)), none, none], m⟩) (hF : F ⟨[some (.d (.int N)), some (.d x0), none], m⟩ = .ok .nx ⟨[some (.d (.int N)), some (.d y), s], m⟩) :
    fnM (M := Mx) 3 (sSeq (sSet 1 I0) (sSeq F (sRet (eVar 1)))) [.d (.int N)] m = .ok (.d y) m := by
  walk_at "ex"
  rw [h0]
  walk_at "ex"
  rw [hF]
  walk_at "ex"
theorem for_tw (N : Nat) (m : Mach) (h : N ≤ 1000) : ∃ s, (sFor (iRg1M (aCons (opd (eVar 0)) aNil)) (kName 2) TB : Sm Mx Out) ⟨[some (.d (.int (N : Int))), some (.d (enc (.var 0))), none], m⟩ = .ok .nx ⟨[some (.d (.int (N : Int))), some (.d (enc (tw N))), s], m⟩ := by
  have it := rg1_it (g := aCons (opd (eVar 0)) aNil) (z := (⟨[some (.d (.int (N : Int))), some (.d (enc (.var 0))), none], m⟩ : Z Mach)) (z1 := ⟨[some (.d (.int (N : Int))), some (.d (enc (.var 0))), none], m⟩) (j := (N : Int)) (by walk_at "ex") (by omega) (by omega)
  obtain ⟨z', e, s, hz⟩ := for_inv (kk := kName (M := Mx) 2) (b := TB) (N := N) (fun i z => ∃ s, z = ⟨[some (.d (.int (N : Int))), some (.d (enc (tw i))), s], m⟩) (fun i z hi hz => by
    obtain ⟨s, rfl⟩ := hz
    refine ⟨⟨[some (.d (.int (N : Int))), some (.d (enc (tw i))), some (.d (.int (i : Int)))], m⟩, _, rfl, tb_step _ _ _ _, ⟨_, by rw [tw, enc, encs, encs]⟩⟩) N 0 ⟨[some (.d (.int (N : Int))), some (.d (enc (.var 0))), none], m⟩ (by omega) ⟨none, by rw [tw]⟩
  subst hz
  refine ⟨s, ?_⟩
  unfold sFor
  rw [it, Rs.bind_ok, show ((N : Int)).toNat = N by omega]
  exact e
theorem for_ch (N : Nat) (m : Mach) (h : N ≤ 1000) : ∃ s, (sFor (iRg1M (aCons (opd (eVar 0)) aNil)) (kName 2) CB : Sm Mx Out) ⟨[some (.d (.int (N : Int))), some (.d (enc (.rel "p" [.var (N : Int)]))), none], m⟩ = .ok .nx ⟨[some (.d (.int (N : Int))), some (.d (enc (ch (N : Int) N))), s], m⟩ := by
  have it := rg1_it (g := aCons (opd (eVar 0)) aNil) (z := (⟨[some (.d (.int (N : Int))), some (.d (enc (.rel "p" [.var (N : Int)]))), none], m⟩ : Z Mach)) (z1 := ⟨[some (.d (.int (N : Int))), some (.d (enc (.rel "p" [.var (N : Int)]))), none], m⟩) (j := (N : Int)) (by walk_at "ex") (by omega) (by omega)
  obtain ⟨z', e, s, hz⟩ := for_inv (kk := kName (M := Mx) 2) (b := CB) (N := N) (fun i z => ∃ s, z = ⟨[some (.d (.int (N : Int))), some (.d (enc (ch (N : Int) i))), s], m⟩) (fun i z hi hz => by
    obtain ⟨s, rfl⟩ := hz
    refine ⟨⟨[some (.d (.int (N : Int))), some (.d (enc (ch (N : Int) i))), some (.d (.int (i : Int)))], m⟩, _, rfl, cb_step _ _ _ _, ⟨_, by rw [ch, enc]⟩⟩) N 0 ⟨[some (.d (.int (N : Int))), some (.d (enc (.rel "p" [.var (N : Int)]))), none], m⟩ (by omega) ⟨none, by rw [ch]⟩
  subst hz
  refine ⟨s, ?_⟩
  unfold sFor
  rw [it, Rs.bind_ok, show ((N : Int)).toNat = N by omega]
  exact e
theorem tower_eq (n N : Nat) (m : Mach) (h : N ≤ 1000) : mir (n + 1) ._law_tower [.d (.int (N : Int))] m = .ok (.d (enc (tw N))) m := by
  obtain ⟨s, e⟩ := for_tw N m h
  refine fn_loop (x0 := enc (.var 0)) ?_ e
  rw [enc]
  walk_at "ex"
theorem chain_eq (n N : Nat) (m : Mach) (h : N ≤ 1000) : mir (n + 1) ._law_chain [.d (.int (N : Int))] m = .ok (.d (enc (ch (N : Int) N))) m := by
  obtain ⟨s, e⟩ := for_ch N m h
  refine fn_loop (x0 := enc (.rel "p" [.var (N : Int)])) ?_ e
  rw [enc, encs, encs, enc]
  walk_at "ex"
end L
set_option pp.maxSteps 400
set_option pp.deepTerms false
namespace L
open PySem L2 G
variable [TP]
local macro_rules | `(tactic| walk_at "ex") => `(tactic| try simp only [sSeq, sSet, sExpr, sRet, sIf, sAsg, una, escf, escS, opd, eVar, eC, eBin, eUn, eFn, eCall, eTup, eLst, aCons, aNil, fin, rd, rds, R.toS, dsOf, Rs.bind_ok, Rs.bind_bad, Rs.bind_ex, Rs.opt_some, Option.bind_some, Option.map_some, ownAt, eExt, eApp, ePop, List.getElem?_cons_zero, List.getElem?_cons_succ, List.set_cons_zero, List.set_cons_succ, okArg, List.all_cons, List.all_nil, Bool.and_self, if_true, kName, kTup, ksCons, ksNil, fMax, tOf, List.length_cons, List.length_nil, Bool.not_false, Bool.not_true, if_false, Bool.false_eq_true, lm0, lm1, lm2, lm3, lm4, lm5, lm6, lm7, lm8, lm9, lm10, lm11, lm12, fnM, List.map_cons, List.map_nil, List.replicate, List.cons_append, List.nil_append, Nat.reduceAdd, Nat.reduceSub, sNil, tAndM, tOrM, tNotM, tTru, dTru, eIf, dSub_i, dAdd_i, dLt_i, dLe_i, dGt_i, dGe_i, dEq_i, decide_true, decide_false, eChain, eAndM, eSl, oInt, dNeg, fInt, aDef, fTuple])
local macro_rules | `(tactic| walk_at "ey") => `(tactic| try simp only [sSeq, sSet, sExpr, sRet, sIf, sAsg, una, escf, escS, opd, eVar, eC, eBin, eUn, eFn, eCall, eTup, eLst, aCons, aNil, fin, rd, rds, R.toS, dsOf, Rs.bind_ok, Rs.bind_bad, Rs.bind_ex, Rs.opt_some, Option.bind_some, Option.map_some, ownAt, eExt, eApp, ePop, List.getElem?_cons_zero, List.getElem?_cons_succ, List.set_cons_zero, List.set_cons_succ, okArg, List.all_cons, List.all_nil, Bool.and_self, if_true, kName, kTup, ksCons, ksNil, fMax, tOf, List.length_cons, List.length_nil, Bool.not_false, Bool.not_true, if_false, Bool.false_eq_true, lm0, lm1, lm2, lm3, lm4, lm5, lm6, lm7, lm8, lm9, lm10, lm11, lm12, fnM, List.map_cons, List.map_nil, List.replicate, List.cons_append, List.nil_append, Nat.reduceAdd, Nat.reduceSub, sNil, tAndM, tOrM, tNotM, tTru, dTru, eIf, dSub_i, dAdd_i, dLt_i, dLe_i, dGt_i, dGe_i, dEq_i, decide_true, decide_false, eChain, eAndM, eSl, oInt, dNeg, fInt, aDef, fTuple])
def TQ (call : Fn → List S → Mach → Rs S Mach) : Sm Mx S := (eCall (call ._law_free_term) (aCons (escf (eVar 0)) (aCons (escf (eCall (call ._law_next) (aCons (escf (eVar 0)) (aCons (escf (eC (.int 4))) aNil)))) (aCons (escf (eC (.int 2))) aNil))))
theorem terms_ok (L : Nat) (r1 : Int) (m : Mach) (n : Nat) (hL : 20 ≤ L) (hm : m.at_ ≤ n) (hn : n < 500000000000) : ∃ (us : List Th) (m' : Mach), (eLc (iRg1M (aCons (opd (eCall (mir (L + 1) ._law_next) (aCons (escf (eVar 0)) (aCons (escf (eC (.int 4))) aNil)))) aNil)) (kName 3) (fun z => .ok true z) (TQ (mir (L + 1))) [3] : Sm Mx S) ⟨[some (.m 0), some (.d (.int r1)), none, none], m⟩ = .ok (.l (us.map enc)) ⟨[some (.m 0), some (.d (.int r1)), none, none], m'⟩ ∧
    us.length ≤ 3 ∧ (∀ u ∈ us, Gt 3 13 u) ∧ m'.at_ ≤ n + 400 := by
  obtain ⟨r2, m2, e2, p2, q2, a2⟩ := draw (L := L) 4 m (by omega) (by omega) (drw m n hm (by omega))
  have i1 : (iRg1M (aCons (opd (eCall (mir (L + 1) ._law_next) (aCons (escf (eVar 0)) (aCons (escf (eC (.int 4))) aNil)))) aNil) : Sm Mx (List D)) ⟨[some (.m 0), some (.d (.int r1)), none, none], m⟩ = .ok (rangeD 0 r2.toNat) ⟨[some (.m 0), some (.d (.int r1)), none, none], m2⟩ := by
    simp only [iRg1M]
    walk_at "ex"
    rw [e2]
    walk_at "ex"
    rw [if_pos (rg_lim (by omega) (by omega))]
  obtain ⟨us, m3, g1, g2, g3, g4⟩ := elc_run (M := Mx) (i := 3) (e := TQ (mir (L + 1))) (en := enc) (P := Gt 3 13) (Q := fun k m' => k * 100 + m'.at_ ≤ m2.at_ + r2.toNat * 100) i1 rfl (by rw [range_len]; show _ ≤ 1000000; omega) (by rw [range_len]; exact Nat.le_of_eq (Nat.add_comm _ _)) (fun k x m' hq => by
    have hr : r2.toNat * 100 ≤ 3 * 100 := Nat.mul_le_mul_right _ (by omega)
    rw [Nat.succ_mul] at hq
    obtain ⟨r5, m5, e5, p5, q5, a5⟩ := draw (L := L) 4 m' (by omega) (by omega) (drw m' (n + 400) (by omega) (by omega))
    have k2 : cst 2 = 64 := rfl
    have z2 : sz 2 = 13 := rfl
    obtain ⟨t, m6, f1, f2, f3⟩ := term_okT 2 (L + 1) r5 m5 (by omega) p5 (by omega) (drw2 m5 (n + 401) (cst 2) (by omega) (by omega))
    refine ⟨t, m6, ?_, f2, by omega⟩
    unfold TQ
    walk_at "ex"
    rw [e5]
    walk_at "ex"
    have ed : ((2 : Nat) : Int) = 2 := rfl
    rw [ed] at f1
    rw [f1]
    walk_at "ex")
  have hr : r2.toNat * 100 ≤ 3 * 100 := Nat.mul_le_mul_right _ (by omega)
  rw [Nat.zero_mul] at g4
  refine ⟨us, m3, g1, by rw [g2, range_len]; omega, g3, by omega⟩
/-- what the law asks of a drawn thing and its terms -/
structure Dn (t : Th) (us : List Th) : Prop where
  f : fn1 1000 t = true
  d : depth t ≤ 102
  s : size t ≤ 1700
  ul : us.length ≤ 3
  ut : ∀ u ∈ us, tmn u = true
  uf : ∀ u ∈ us, fn1 1000 u = true
  ud : ∀ u ∈ us, depth u ≤ 60
  us_ : ∀ u ∈ us, size u ≤ 60
theorem dn_one {t : Th} (f : fn1 1000 t = true) (d : depth t ≤ 102) (s : size t ≤ 1700) {i : Nat} (hi : i ≤ 59) : Dn t [tw i] := by
  obtain ⟨a, b, c, e⟩ := tw_facts i
  refine ⟨f, d, s, by simp, ?_, ?_, ?_, ?_⟩ <;> (intro u hu; rcases List.mem_singleton.mp hu with rfl)
  · exact e
  · exact c
  · omega
  · omega
theorem dn_more {t : Th} {us : List Th} (f : fn1 1000 t = true) (d : depth t ≤ 102) (s : size t ≤ 1700) (hl : us.length ≤ 3) (h : ∀ u ∈ us, Gt 3 13 u) : Dn t us :=
  ⟨f, d, s, hl, fun u hu => (h u hu).2, fun u hu => (h u hu).1.1, fun u hu => by have := (h u hu).1.2.1; omega, fun u hu => by have := (h u hu).1.2.2; omega⟩
theorem tup_lst (us : List Th) : fTuple [.lst (us.map enc)] = some (.t (us.map enc)) ∨ fTuple [.lst (us.map enc)] = some (.d (.tup (us.map enc))) := by
  first | exact .inl rfl | exact .inr rfl
def DR (E : Sm Mx S) (call : Fn → List S → Mach → Rs S Mach) : Sm Mx Out :=
    (sSeq (sSet 1 (eCall (call ._law_next) (aCons (escf (eVar 0)) (aCons (escf (eC (.int 12))) aNil))))
    (sSeq (sSet 2 E)
    (sSeq (sIf (tOf (eBin dEq (eVar 1) (eC (.int 1)))) (sRet (eTup (aCons (escf (eCall (call ._law_bush) (aCons (escf (eBin dAdd (eC (.int 1)) (eCall (call ._law_next) (aCons (escf (eVar 0)) (aCons (escf (eC (.int 400))) aNil))))) aNil))) (aCons (escf (eTup (aCons (escf (eCall (call ._law_tower) (aCons (escf (eCall (call ._law_next) (aCons (escf (eVar 0)) (aCons (escf (eC (.int 20))) aNil)))) aNil))) aNil))) aNil)))) sNil)
    (sSeq (sIf (tOf (eBin dEq (eVar 1) (eC (.int 2)))) (sRet (eTup (aCons (escf (eCall (call ._law_chain) (aCons (escf (eCall (call ._law_next) (aCons (escf (eVar 0)) (aCons (escf (eC (.int 100))) aNil)))) aNil))) (aCons (escf (eTup (aCons (escf (eCall (call ._law_tower) (aCons (escf (eCall (call ._law_next) (aCons (escf (eVar 0)) (aCons (escf (eC (.int 60))) aNil)))) aNil))) aNil))) aNil)))) sNil)
    (sSeq (sIf (tOf (eBin dEq (eVar 1) (eC (.int 3)))) (sRet (eTup (aCons (escf (eCall (call ._law_free_term) (aCons (escf (eVar 0)) (aCons (escf (eCall (call ._law_next) (aCons (escf (eVar 0)) (aCons (escf (eC (.int 5))) aNil)))) (aCons (escf (eC (.int 3))) aNil))))) (aCons (escf (eFn fTuple (aCons (opd (eVar 2)) aNil))) aNil)))) sNil)
    (sRet (eTup (aCons (escf (eCall (call ._law_free_statement) (aCons (escf (eVar 0)) (aCons (escf (eCall (call ._law_next) (aCons (escf (eVar 0)) (aCons (escf (eC (.int 5))) aNil)))) (aCons (escf (eCall (call ._law_next) (aCons (escf (eVar 0)) (aCons (escf (eC (.int 5))) aNil)))) aNil))))) (aCons (escf (eFn fTuple (aCons (opd (eVar 2)) aNil))) aNil)))))))))
theorem dr1 {c : Fn → List S → Mach → Rs S Mach} {E : Sm Mx S} {m m1 m2 m3 m4 : Mach} {xs : List D} {k j : Int} {x y : D} (h1 : c ._law_next [.m 0, .d (.int 12)] m = .ok (.d (.int 1)) m1) (h2 : E ⟨[some (.m 0), some (.d (.int 1)), none, none], m1⟩ = .ok (.l xs) ⟨[some (.m 0), some (.d (.int 1)), none, none], m2⟩)
    (h3 : c ._law_next [.m 0, .d (.int 400)] m2 = .ok (.d (.int k)) m3) (h4 : c ._law_bush [.d (.int (1 + k))] m3 = .ok (.d x) m3) (h5 : c ._law_next [.m 0, .d (.int 20)] m3 = .ok (.d (.int j)) m4) (h6 : c ._law_tower [.d (.int j)] m4 = .ok (.d y) m4) : fnM 4 (DR E c) [.m 0] m = .ok (.d (.tup [x, .tup [y]])) m4 := by
  unfold DR
  walk_at "ex"
  rw [h1]
  walk_at "ex"
  rw [h2]
  walk_at "ex"
  rw [h3]
  walk_at "ex"
  rw [h4]
  walk_at "ex"
  rw [h5]
  walk_at "ex"
  rw [h6]
  walk_at "ex"
theorem dr2 {c : Fn → List S → Mach → Rs S Mach} {E : Sm Mx S} {m m1 m2 m3 m4 : Mach} {xs : List D} {k j : Int} {r : Int} {x y : D} (n1 : ¬ r = 1) (nv : (r = 2) = True) (h1 : c ._law_next [.m 0, .d (.int 12)] m = .ok (.d (.int r)) m1) (h2 : E ⟨[some (.m 0), some (.d (.int r)), none, none], m1⟩ = .ok (.l xs) ⟨[some (.m 0), some (.d (.int r)), none, none], m2⟩)
    (h3 : c ._law_next [.m 0, .d (.int 100)] m2 = .ok (.d (.int k)) m3) (h4 : c ._law_chain [.d (.int k)] m3 = .ok (.d x) m3) (h5 : c ._law_next [.m 0, .d (.int 60)] m3 = .ok (.d (.int j)) m4) (h6 : c ._law_tower [.d (.int j)] m4 = .ok (.d y) m4) : fnM 4 (DR E c) [.m 0] m = .ok (.d (.tup [x, .tup [y]])) m4 := by
  unfold DR
  walk_at "ex"
  rw [h1]
  walk_at "ex"
  rw [h2]
  walk_at "ex"
  simp only [n1]
  walk_at "ex"
  simp only [nv]
  walk_at "ex"
  rw [h3]
  walk_at "ex"
  rw [h4]
  walk_at "ex"
  rw [h5]
  walk_at "ex"
  rw [h6]
  walk_at "ex"
theorem dr3 {c : Fn → List S → Mach → Rs S Mach} {E : Sm Mx S} {m m1 m2 m3 m4 : Mach} {us : List Th} {r k : Int} {x : D} (n1 : ¬ r = 1) (n2 : ¬ r = 2) (nv : (r = 3) = True) (h1 : c ._law_next [.m 0, .d (.int 12)] m = .ok (.d (.int r)) m1) (h2 : E ⟨[some (.m 0), some (.d (.int r)), none, none], m1⟩ = .ok (.l (us.map enc)) ⟨[some (.m 0), some (.d (.int r)), none, none], m2⟩)
    (h3 : c ._law_next [.m 0, .d (.int 5)] m2 = .ok (.d (.int k)) m3) (h4 : c ._law_free_term [.m 0, .d (.int k), .d (.int 3)] m3 = .ok (.d x) m4) : fnM 4 (DR E c) [.m 0] m = .ok (.d (.tup [x, .tup (us.map enc)])) m4 := by
  unfold DR
  walk_at "ex"
  rw [h1]
  walk_at "ex"
  rw [h2]
  walk_at "ex"
  simp only [n1]
  walk_at "ex"
  simp only [n2]
  walk_at "ex"
  simp only [nv]
  walk_at "ex"
  rw [h3]
  walk_at "ex"
  rw [h4]
  walk_at "ex"
theorem dr4 {c : Fn → List S → Mach → Rs S Mach} {E : Sm Mx S} {m m1 m2 m3 m4 m5 : Mach} {us : List Th} {r k d : Int} {x : D} (n1 : ¬ r = 1) (n2 : ¬ r = 2) (n3 : ¬ r = 3) (h1 : c ._law_next [.m 0, .d (.int 12)] m = .ok (.d (.int r)) m1) (h2 : E ⟨[some (.m 0), some (.d (.int r)), none, none], m1⟩ = .ok (.l (us.map enc)) ⟨[some (.m 0), some (.d (.int r)), none, none], m2⟩)
    (h3 : c ._law_next [.m 0, .d (.int 5)] m2 = .ok (.d (.int k)) m3) (h5 : c ._law_next [.m 0, .d (.int 5)] m3 = .ok (.d (.int d)) m4) (h4 : c ._law_free_statement [.m 0, .d (.int k), .d (.int d)] m4 = .ok (.d x) m5) : fnM 4 (DR E c) [.m 0] m = .ok (.d (.tup [x, .tup (us.map enc)])) m5 := by
  unfold DR
  walk_at "ex"
  rw [h1]
  walk_at "ex"
  rw [h2]
  walk_at "ex"
  simp only [n1]
  walk_at "ex"
  simp only [n2]
  walk_at "ex"
  simp only [n3]
  walk_at "ex"
  rw [h3]
  walk_at "ex"
  rw [h5]
  walk_at "ex"
  rw [h4]
  walk_at "ex"
theorem dr_is (L : Nat) : mir (L + 2) ._law_drawn = fnM 4 (DR (eLc (iRg1M (aCons (opd (eCall (mir (L + 1) ._law_next) (aCons (escf (eVar 0)) (aCons (escf (eC (.int 4))) aNil)))) aNil)) (kName 3) (fun z => .ok true z) (TQ (mir (L + 1))) [3]) (mir (L + 1))) := rfl
theorem drawn_ok (L : Nat) (m : Mach) (n : Nat) (hL : 150 ≤ L) (hm : m.at_ ≤ n) (hn : n < 400000000000) : ∃ t us m', mir (L + 2) ._law_drawn [.m 0] m = .ok (.d (.tup [enc t, .tup (encs us)])) m' ∧ Dn t us ∧ m'.at_ ≤ n + 2000000 := by
  obtain ⟨r1, m1, e1, p1, q1, a1⟩ := draw (L := L) 12 m (by omega) (by omega) (drw m n hm (by omega))
  obtain ⟨us, m2, e2, ul, ug, a2⟩ := terms_ok L r1 m1 (n + 1) (by omega) (by omega) (by omega)
  rw [dr_is]
  generalize (eLc (iRg1M (aCons (opd (eCall (mir (L + 1) ._law_next) (aCons (escf (eVar 0)) (aCons (escf (eC (.int 4))) aNil)))) aNil)) (kName 3) (fun z => .ok true z) (TQ (mir (L + 1))) [3] : Sm Mx S) = E at e2 ⊢
  by_cases c1 : r1 = 1
  · subst c1
    obtain ⟨r3, m3, e3, p3, q3, a3⟩ := draw (L := L) 400 m2 (by omega) (by omega) (drw m2 (n + 401) (by omega) (by omega))
    obtain ⟨r4, m4, e4, p4, q4, a4⟩ := draw (L := L) 20 m3 (by omega) (by omega) (drw m3 (n + 402) (by omega) (by omega))
    obtain ⟨k, rfl⟩ : ∃ k : Nat, r3 = (k : Int) := ⟨r3.toNat, by omega⟩
    obtain ⟨j, rfl⟩ : ∃ j : Nat, r4 = (j : Int) := ⟨r4.toNat, by omega⟩
    have hb := bush_eq 9 L (1 + k) m3 (by omega) (by omega) (by omega)
    have ec : ((1 + k : Nat) : Int) = 1 + (k : Int) := by omega
    rw [ec] at hb
    have ht := tower_eq L j m4 (by omega)
    obtain ⟨f1, f2, f3⟩ := bsh_facts 9 (1 + k) (by omega) (by omega)
    exact ⟨bsh 9 (1 + k), [tw j], m4, by rw [encs, encs]; exact dr1 e1 e2 e3 hb e4 ht, dn_one f3 (by omega) (by omega) (by omega), by omega⟩
  by_cases c2 : r1 = 2
  · subst c2
    obtain ⟨r3, m3, e3, p3, q3, a3⟩ := draw (L := L) 100 m2 (by omega) (by omega) (drw m2 (n + 401) (by omega) (by omega))
    obtain ⟨r4, m4, e4, p4, q4, a4⟩ := draw (L := L) 60 m3 (by omega) (by omega) (drw m3 (n + 402) (by omega) (by omega))
    obtain ⟨k, rfl⟩ : ∃ k : Nat, r3 = (k : Int) := ⟨r3.toNat, by omega⟩
    obtain ⟨j, rfl⟩ : ∃ j : Nat, r4 = (j : Int) := ⟨r4.toNat, by omega⟩
    have hb := chain_eq L k m3 (by omega)
    have ht := tower_eq L j m4 (by omega)
    obtain ⟨f1, f2, f3⟩ := ch_facts (v := (k : Int)) (by omega) k
    exact ⟨ch (k : Int) k, [tw j], m4, by rw [encs, encs]; exact dr2 c1 (eq_true rfl) e1 e2 e3 hb e4 ht, dn_one f3 (by omega) (by omega) (by omega), by omega⟩
  obtain ⟨r3, m3, e3, p3, q3, a3⟩ := draw (L := L) 5 m2 (by omega) (by omega) (drw m2 (n + 401) (by omega) (by omega))
  by_cases c3 : r1 = 3
  · subst c3
    have k3 : cst 3 = 256 := rfl
    have z3 : sz 3 = 40 := rfl
    obtain ⟨u, m4, e4, ⟨⟨h1, h2, h3⟩, h4⟩, a4⟩ := term_okT 3 (L + 1) r3 m3 (by omega) p3 (by omega) (drw2 m3 (n + 402) (cst 3) (by omega) (by omega))
    have w3 : ((3 : Nat) : Int) = 3 := rfl
    rw [w3] at e4
    exact ⟨u, us, m4, by rw [encs_map]; exact dr3 c1 c2 (eq_true rfl) e1 e2 e3 e4, dn_more h1 (by omega) (by omega) ul ug, by omega⟩
  · obtain ⟨r4, m4, e4, p4, q4, a4⟩ := draw (L := L) 5 m3 (by omega) (by omega) (drw m3 (n + 402) (by omega) (by omega))
    obtain ⟨d, rfl⟩ : ∃ d : Nat, r4 = (d : Int) := ⟨r4.toNat, by omega⟩
    obtain ⟨hb, hz⟩ := bst_le d (by omega)
    obtain ⟨t, m5, e5, ⟨g1, g2, g3⟩, a5⟩ := stat_ok d (L + 1) r3 m4 (by omega) p3 (by omega) (drw2 m4 (n + 403) (bst d) (by omega) (by omega))
    exact ⟨t, us, m5, by rw [encs_map]; exact dr4 c1 c2 c3 e1 e2 e3 e4 e5, dn_more g1 (by omega) (by omega) ul ug, by omega⟩
end L
set_option pp.maxSteps 400
set_option pp.deepTerms false
namespace L
open PySem L2 G
variable [TP]
local macro_rules | `(tactic| walk_at "ex") => `(tactic| try simp only [sSeq, sSet, sExpr, sRet, sIf, sAsg, una, escf, escS, opd, eVar, eC, eBin, eUn, eFn, eCall, eTup, eLst, aCons, aNil, fin, rd, rds, R.toS, dsOf, Rs.bind_ok, Rs.bind_bad, Rs.bind_ex, Rs.opt_some, Option.bind_some, Option.map_some, ownAt, eExt, eApp, ePop, List.getElem?_cons_zero, List.getElem?_cons_succ, List.set_cons_zero, List.set_cons_succ, okArg, List.all_cons, List.all_nil, Bool.and_self, if_true, kName, kTup, ksCons, ksNil, fMax, tOf, List.length_cons, List.length_nil, Bool.not_false, Bool.not_true, if_false, Bool.false_eq_true, lm0, lm1, lm2, lm3, lm4, lm5, lm6, lm7, lm8, lm9, lm10, lm11, lm12, fnM, List.map_cons, List.map_nil, List.replicate, List.cons_append, List.nil_append, Nat.reduceAdd, Nat.reduceSub, sNil, tAndM, tOrM, tNotM, tTru, dTru, eIf, dSub_i, dAdd_i, dLt_i, dLe_i, dGt_i, dGe_i, dEq_i, decide_true, decide_false, eChain, eAndM, eSl, oInt, dNeg, fInt, aDef, fTuple])
def RQ (call : Fn → List S → Mach → Rs S Mach) : Sm Mx S := (eLc (iAnyM (eVar 1)) (kName 9) (fun z => .ok true z) (eCall (call ._law_named) (aCons (escf (eVar 9)) (aCons (escf (eC (.int 0))) aNil))) [9])
theorem rq_call {c : List S → Mach → Rs S Mach} {x T l u y : D} (m : Mach) (h : c [.d u, .d (.int 0)] m = .ok (.d y) m) : escf (eCall c (aCons (escf (eVar 9)) (aCons (escf (eC (.int 0))) aNil)) : Sm Mx S) ⟨[some (.d x), some (.d T), some (.d l), none, none, none, none, none, none, some (.d u)], m⟩ = .ok (.d y) ⟨[some (.d x), some (.d T), some (.d l), none, none, none, none, none, none, some (.d u)], m⟩ := by
  walk_at "ex"
  rw [h]
  walk_at "ex"
theorem rq_ok {c : Fn → List S → Mach → Rs S Mach} {x l : D} {us : List Th} (m : Mach) (hl : us.length ≤ 1000) (h : ∀ u ∈ us, c ._law_named [.d (enc u), .d (.int 0)] m = .ok (.d (nmd u 0)) m) :
    RQ c ⟨[some (.d x), some (.d (.tup (encs us))), some (.d l), none, none, none, none, none, none, none], m⟩ = .ok (.l (us.map fun u => nmd u 0)) ⟨[some (.d x), some (.d (.tup (encs us))), some (.d l), none, none, none, none, none, none, none], m⟩ := by
  unfold RQ
  exact elc_map (M := Mx) enc (g := fun u => nmd u 0) (ts := us) (by rw [← encs_map]; rfl) rfl (by show _ ≤ 1000000; omega) (fun u hu => rq_call m (h u hu))
def LQ (c : Fn → List S → Mach → Rs S Mach) (cx : List S → List D → Rs S (List D)) : Sm Mx S := (eLamC [2, 3] cx id (eCall (c ._law_named) (aCons (escf (eVar 0)) (aCons (escf (eC (.int 0))) aNil))))
theorem lq_ok {c : Fn → List S → Mach → Rs S Mach} {cx : List S → List D → Rs S (List D)} {x T l nx dx : D} {rows xs' : List D} {m : Mach} (h1 : c ._law_named [.d x, .d (.int 0)] m = .ok (.d nx) m) (h2 : cx [.d nx, .m 0] [l, .lst rows] = .ok (.d dx) xs') :
    LQ c cx ⟨[some (.d x), some (.d T), some (.d l), some (.l rows), none, none, none, none, none, none], m⟩ = .ok (.d dx) ⟨[some (.d x), some (.d T), some (.d l), some (.d (.lst rows)), none, none, none, none, none, none], m⟩ := by
  have e0 : frzs (T := Mach) [2, 3] ⟨[some (.d x), some (.d T), some (.d l), some (.l rows), none, none, none, none, none, none], m⟩ = ⟨[some (.d x), some (.d T), some (.d l), some (.d (.lst rows)), none, none, none, none, none, none], m⟩ := rfl
  have e1 : caps (T := Mach) ⟨[some (.d x), some (.d T), some (.d l), some (.d (.lst rows)), none, none, none, none, none, none], m⟩ [2, 3] = some [l, .lst rows] := rfl
  unfold LQ eLamC
  walk_at "ex"
  rw [h1]
  walk_at "ex"
  simp only [e0, e1, id, h2]
def RR (A B : Sm Mx S) (call : Fn → List S → Mach → Rs S Mach) : Sm Mx Out :=
    (sSeq (sSet 2 (eFn fLen (aCons (opd (eVar 1)) aNil)))
    (sSeq (sSet 3 A)
    (sSeq (sSet 4 B)
    (sSeq (sSet 5 (eFn fRepr (aCons (opd (eTup (aCons (escf (eVar 0)) (aCons (escf (eVar 1)) aNil)))) aNil)))
    (sSeq (sSet 6 (eCall (call ._law_told) (aCons (escf (eVar 0)) (aCons (escf (eVar 1)) aNil))))
    (sSeq (sAsg (eCall (call ._law_counted) (aCons (escf (eVar 4)) aNil)) (kTup 2 (ksCons (kName 7) (ksCons (kName 8) ksNil))))
    (sSeq (sIf (tOrM (tOf (eBin dGt (eVar 7) (eC (.int 4000)))) (tOf (eBin dGt (eVar 8) (eC (.int 120))))) (sRet (eBin dEq (eVar 6) (eC (.str "many")))) sNil)
    (sRet (eAndM (eUn (dIsiN "tuple") (eVar 6)) (eAndM (eBin dEq (eFn fRepr (aCons (opd (eCall (call ._law_named) (aCons (escf (eVar 6)) (aCons (escf (eC (.int 0))) aNil)))) aNil)) (eFn fRepr (aCons (opd (eVar 4)) aNil))) (eBin dEq (eFn fRepr (aCons (opd (eTup (aCons (escf (eVar 0)) (aCons (escf (eVar 1)) aNil)))) aNil)) (eVar 5))))))))))))
theorem is_rr (c : Fn → List S → Mach → Rs S Mach) (cx : List S → List D → Rs S (List D)) : m__law_right c cx = RR (RQ c) (LQ c cx) c := rfl
theorem eq_many : dEq (.str "many") (.str "many") = some (.d (.bl true)) := by kernel_rfl
theorem right_big {c : Fn → List S → Mach → Rs S Mach} {A B : Sm Mx S} {x dx : D} {ts rows : List D} {P Dd : Int} {s1 : Str} {m : Mach} (h0 : A ⟨[some (.d x), some (.d (.tup ts)), some (.d (.int ((ts.length : Nat) : Int))), none, none, none, none, none, none, none], m⟩ = .ok (.l rows) ⟨[some (.d x), some (.d (.tup ts)), some (.d (.int ((ts.length : Nat) : Int))), none, none, none, none, none, none, none], m⟩)
    (h1 : B ⟨[some (.d x), some (.d (.tup ts)), some (.d (.int ((ts.length : Nat) : Int))), some (.l rows), none, none, none, none, none, none], m⟩ = .ok (.d dx) ⟨[some (.d x), some (.d (.tup ts)), some (.d (.int ((ts.length : Nat) : Int))), some (.d (.lst rows)), none, none, none, none, none, none], m⟩) (r1 : fRepr [.tup [x, .tup ts]] = some (.d (.str s1)))
    (h3 : c ._law_told [.d x, .d (.tup ts)] m = .ok (.d (.str "many")) m) (h4 : c ._law_counted [.d dx] m = .ok (.d (.tup [.int P, .int Dd])) m) (big : 4000 < P ∨ 120 < Dd) : fnM 10 (RR A B c) [.d x, .d (.tup ts)] m = .ok (.d (.bl true)) m := by
  have fl : fLen [.tup ts] = some (.d (.int ((ts.length : Nat) : Int))) := rfl
  unfold RR
  walk_at "ex"
  rw [fl]
  walk_at "ex"
  rw [h0]
  walk_at "ex"
  rw [h1]
  walk_at "ex"
  rw [r1]
  walk_at "ex"
  rw [h3]
  walk_at "ex"
  rw [h4]
  walk_at "ex"
  try simp only [itemsD]
  walk_at "ex"
  by_cases g : 4000 < P
  · simp only [g]
    walk_at "ex"
    rw [eq_many]
    walk_at "ex"
  · have g2 : 120 < Dd := big.resolve_left g
    simp only [g]
    walk_at "ex"
    simp only [g2]
    walk_at "ex"
    rw [eq_many]
    walk_at "ex"
theorem right_small {c : Fn → List S → Mach → Rs S Mach} {A B : Sm Mx S} {x dx f : D} {ts rows : List D} {P Dd : Int} {s1 s2 : Str} {m : Mach} (h0 : A ⟨[some (.d x), some (.d (.tup ts)), some (.d (.int ((ts.length : Nat) : Int))), none, none, none, none, none, none, none], m⟩ = .ok (.l rows) ⟨[some (.d x), some (.d (.tup ts)), some (.d (.int ((ts.length : Nat) : Int))), none, none, none, none, none, none, none], m⟩)
    (h1 : B ⟨[some (.d x), some (.d (.tup ts)), some (.d (.int ((ts.length : Nat) : Int))), some (.l rows), none, none, none, none, none, none], m⟩ = .ok (.d dx) ⟨[some (.d x), some (.d (.tup ts)), some (.d (.int ((ts.length : Nat) : Int))), some (.d (.lst rows)), none, none, none, none, none, none], m⟩) (r1 : fRepr [.tup [x, .tup ts]] = some (.d (.str s1)))
    (h3 : c ._law_told [.d x, .d (.tup ts)] m = .ok (.d f) m) (h4 : c ._law_counted [.d dx] m = .ok (.d (.tup [.int P, .int Dd])) m) (g1 : ¬ 4000 < P) (g2 : ¬ 120 < Dd) (i1 : dIsiN "tuple" f = some (.d (.bl true))) (h5 : c ._law_named [.d f, .d (.int 0)] m = .ok (.d dx) m) (r2 : fRepr [dx] = some (.d (.str s2))) (q1 : dEq (.str s1) (.str s1) = some (.d (.bl true))) (q2 : dEq (.str s2) (.str s2) = some (.d (.bl true))) :
    fnM 10 (RR A B c) [.d x, .d (.tup ts)] m = .ok (.d (.bl true)) m := by
  have fl : fLen [.tup ts] = some (.d (.int ((ts.length : Nat) : Int))) := rfl
  unfold RR
  walk_at "ex"
  rw [fl]
  walk_at "ex"
  rw [h0]
  walk_at "ex"
  rw [h1]
  walk_at "ex"
  rw [r1]
  walk_at "ex"
  rw [h3]
  walk_at "ex"
  rw [h4]
  walk_at "ex"
  try simp only [itemsD]
  walk_at "ex"
  simp only [g1]
  walk_at "ex"
  simp only [g2]
  walk_at "ex"
  rw [i1]
  walk_at "ex"
  rw [h5]
  walk_at "ex"
  rw [r2]
  walk_at "ex"
  try rw [r2]
  walk_at "ex"
  rw [q2]
  walk_at "ex"
  rw [r1]
  walk_at "ex"
  rw [q1]
  walk_at "ex"
theorem isi_tup (t : Th) : dIsiN "tuple" (enc t) = some (.d (.bl true)) := by
  obtain ⟨xs, e⟩ := enc_tup t
  rw [e]
  kernel_rfl
theorem pk_pair {a : D} {ds : List D} {k1 s1 k2 s2 : Nat} (h : Pk a k1 s1) (g : Pks ds k2 s2) : Pk (.tup [a, .tup ds]) (1 + max k1 k2) (1 + (s1 + s2)) := by
  obtain ⟨h1, h2, h3, h4⟩ := h
  obtain ⟨g1, g2, g3, g4⟩ := g
  refine ⟨?_, ?_, ?_, ?_⟩
  · simp [lay, lays, h1, g1]
  · simp [ib, ibs, h2, g2]
  · simp only [dep, deps]; omega
  · rw [wtN_tup, wtsN_cons, wtsN_cons, wtsN_nil, wtN_tup]; omega
theorem sizes_le {B D : Nat} : ∀ {us : List Th}, (∀ u ∈ us, size u ≤ B ∧ depth u ≤ D) → sizes us ≤ us.length * B ∧ depths us ≤ D
  | [], _ => by simp [sizes, depths]
  | u :: r, h => by
    obtain ⟨a, b⟩ := h u List.mem_cons_self
    obtain ⟨c, d⟩ := sizes_le fun x hx => h x (List.mem_cons_of_mem _ hx)
    rw [sizes, depths, List.length_cons, Nat.succ_mul]
    exact ⟨by omega, by omega⟩
theorem fn1s_all {B : Nat} : ∀ {us : List Th}, (∀ u ∈ us, fn1 B u = true) → fn1s B us = true
  | [], _ => by rw [fn1s]
  | u :: r, h => by rw [fn1s, h u List.mem_cons_self, fn1s_all fun x hx => h x (List.mem_cons_of_mem _ hx)]; rfl
mutual
theorem sub_size {us : List Th} (hu : ∀ u ∈ us, size u ≤ 60 ∧ depth u ≤ 60) : ∀ (t : Th) (b : Int), size (sub us t b) ≤ 60 * size t ∧ depth (sub us t b) ≤ depth t + 60
  | .var v, b => by
    rw [sub, size, depth]
    unfold subV
    split
    · rename_i u e
      have hm : u ∈ us := List.mem_reverse.mp (List.mem_of_getElem? e)
      have := hu u hm
      obtain ⟨y1, y2, _⟩ := lift_size b u 0
      split
      · omega
      · rw [size, depth]; omega
    · split <;> (rw [size, depth]; omega)
  | .call f as, b => by obtain ⟨x1, x2⟩ := subs_size hu as b; rw [sub, size, size, depth, depth]; omega
  | .rel f as, b => by obtain ⟨x1, x2⟩ := subs_size hu as b; rw [sub, size, size, depth, depth]; omega
  | .same x y, b => by obtain ⟨x1, x2⟩ := sub_size hu x b; obtain ⟨y1, y2⟩ := sub_size hu y b; rw [sub, size, size, depth, depth]; omega
  | .no, b => by rw [sub, size, depth]; omega
  | .and x y, b => by obtain ⟨x1, x2⟩ := sub_size hu x b; obtain ⟨y1, y2⟩ := sub_size hu y b; rw [sub, size, size, depth, depth]; omega
  | .or x y, b => by obtain ⟨x1, x2⟩ := sub_size hu x b; obtain ⟨y1, y2⟩ := sub_size hu y b; rw [sub, size, size, depth, depth]; omega
  | .imp x y, b => by obtain ⟨x1, x2⟩ := sub_size hu x b; obtain ⟨y1, y2⟩ := sub_size hu y b; rw [sub, size, size, depth, depth]; omega
  | .all s x, b => by obtain ⟨x1, x2⟩ := sub_size hu x (b + 1); rw [sub, size, size, depth, depth]; omega
  | .some s x, b => by obtain ⟨x1, x2⟩ := sub_size hu x (b + 1); rw [sub, size, size, depth, depth]; omega
theorem subs_size {us : List Th} (hu : ∀ u ∈ us, size u ≤ 60 ∧ depth u ≤ 60) : ∀ (ts : List Th) (b : Int), sizes (subs us ts b) ≤ 60 * sizes ts ∧ depths (subs us ts b) ≤ depths ts + 60
  | [], b => by rw [subs, sizes, depths]; omega
  | t :: r, b => by obtain ⟨x1, x2⟩ := sub_size hu t b; obtain ⟨y1, y2⟩ := subs_size hu r b; rw [subs, sizes, sizes, depths, depths]; omega
end
theorem right_eq (n : Nat) (t : Th) (us : List Th) (m : Mach) (D : Dn t us) (hn : 170 ≤ n) : mir (n + 1) ._law_right [.d (enc t), .d (.tup (encs us))] m = .ok (.d (.bl true)) m := by
  obtain ⟨Df, Dd, Ds, Dl, Dt, Duf, Dud, Dus⟩ := D
  have hsd : ∀ u ∈ us, size u ≤ 60 ∧ depth u ≤ 60 := fun u hu => ⟨Dus u hu, Dud u hu⟩
  obtain ⟨z1, z2⟩ := sub_size hsd t 0
  obtain ⟨w1, w2⟩ := sizes_le hsd
  have w3 : us.length * 60 ≤ 3 * 60 := Nat.mul_le_mul_right _ Dl
  have nm := fn1_nms t Df
  have nu : ∀ u ∈ us, nms u = true := fun u hu => fn1_nms u (Duf u hu)
  obtain ⟨k, rfl⟩ : ∃ k, n = k + 1 := ⟨n - 1, by omega⟩
  have h0 := rq_ok (c := mir (k + 1)) (x := enc t) (l := .int ((us.length : Nat) : Int)) (us := us) m (by omega) (fun u hu => named_eq k u 0 m (by have := Dud u hu; omega) (by have := Dus u hu; omega))
  have e := exchanged_eq (lamAt us) k t 0 (by omega) (by omega) (by omega)
  rw [xnm_sub Dt t 0 (by omega)] at e
  have h1 := lq_ok (c := mir (k + 1)) (cx := mirX (k + 1)) (T := .tup (encs us)) (named_eq k t 0 m (by omega) (by omega)) e
  have fs := fn1_sub Duf (by omega) t 0 (by omega) (by omega) Df
  have h4 := counted_eq k (sub us t 0) 0 m (by omega) (by omega)
  obtain ⟨s1, r1, _, q1⟩ := pk_repr (d := .tup [enc t, .tup (encs us)]) ⟨_, rfl⟩ (pk_pair (pk_enc (B := 1000) (by omega) t Df) (pks_encs (B := 1000) (by omega) us (fn1s_all Duf))) (by omega) (by omega)
  have el : (encs us).length = us.length := by rw [encs_map, List.length_map]
  rw [← el] at h0 h1
  show fnM 10 (m__law_right (mir (k + 1)) (mirX (k + 1))) _ m = _
  rw [is_rr]
  obtain ⟨j, hj⟩ : ∃ j, k + 1 = j + 66 := ⟨k - 65, by omega⟩
  by_cases g : size (sub us t 0) ≤ 4000 ∧ depth (sub us t 0) ≤ 120
  · obtain ⟨s2, r2, _, q2⟩ := pk_repr (nmd_tup _ _) (pk_nmd (B := 2000) (sub us t 0) 0 (by omega) (by omega) fs) (by omega) (by omega)
    have h3 : mir (k + 1) ._law_told [.d (enc t), .d (.tup (encs us))] m = .ok (.d (enc (sub us t 0))) m := by
      rw [hj]
      exact told_ok (c := mir (j + 65)) (put_in_yes j t us m (fun u hu => ⟨by have := Dud u hu; omega, by have := Dus u hu; omega, nu u hu⟩) (by omega) (by omega) nm (by omega) g)
    exact right_small h0 h1 r1 h3 h4 (by have := g.1; omega) (by have := g.2; omega) (isi_tup _) (named_eq k (sub us t 0) 0 m (by omega) (by omega)) r2 q1 q2
  · have h3 : mir (k + 1) ._law_told [.d (enc t), .d (.tup (encs us))] m = .ok (.d (.str "many")) m := by
      rw [hj]
      exact told_ex (c := mir (j + 65)) (put_in_no j t us m (fun u hu => ⟨by have := Dus u hu; omega, nu u hu⟩) (by omega) (by omega) nm g)
    exact right_big h0 h1 r1 h3 h4 (by omega)
end L
set_option pp.maxSteps 400
set_option pp.deepTerms false
namespace L
open PySem L2 G
variable [TP]
local macro_rules | `(tactic| walk_at "ey") => `(tactic| try simp only [sSeq, sSet, sExpr, sRet, sIf, sAsg, una, escf, escS, opd, eVar, eC, eBin, eUn, eFn, eCall, eTup, eLst, aCons, aNil, fin, rd, rds, R.toS, dsOf, Rs.bind_ok, Rs.bind_bad, Rs.bind_ex, Rs.opt_some, Option.bind_some, Option.map_some, ownAt, eExt, eApp, ePop, List.getElem?_cons_zero, List.getElem?_cons_succ, List.set_cons_zero, List.set_cons_succ, okArg, List.all_cons, List.all_nil, Bool.and_self, if_true, kName, kTup, ksCons, ksNil, fMax, tOf, List.length_cons, List.length_nil, Bool.not_false, Bool.not_true, if_false, Bool.false_eq_true, lm0, lm1, lm2, lm3, lm4, lm5, lm6, lm7, lm8, lm9, lm10, lm11, lm12, fnM, List.map_cons, List.map_nil, List.replicate, List.cons_append, List.nil_append, Nat.reduceAdd, Nat.reduceSub, sNil, tAndM, tOrM, tNotM, tTru, dTru, eIf, dSub_i, dAdd_i, dLt_i, dLe_i, dGt_i, dGe_i, dEq_i, decide_true, decide_false, eChain, eAndM, eSl, oInt, dNeg, fInt, aDef, fTuple])
def LB (call : Fn → List S → Mach → Rs S Mach) : Sm Mx Out := (sSeq (sAsg (eCall (call ._law_drawn) (aCons (escf (eVar 1)) aNil)) (kTup 2 (ksCons (kName 3) (ksCons (kName 4) ksNil))))
    (sIf (tNotM (tTru dTru (eCall (call ._law_right) (aCons (escf (eVar 3)) (aCons (escf (eVar 4)) aNil))))) (sRet (eC (.bl false))) sNil))
theorem body_gen {c : Fn → List S → Mach → Rs S Mach} {s0 s2 s3 s4 : Option S} {m m1 : Mach} {x T : D} (h1 : c ._law_drawn [.m 0] m = .ok (.d (.tup [x, T])) m1) (h2 : c ._law_right [.d x, .d T] m1 = .ok (.d (.bl true)) m1) :
    LB c ⟨[s0, some (.m 0), s2, s3, s4], m⟩ = .ok .nx ⟨[s0, some (.m 0), s2, some (.d x), some (.d T)], m1⟩ := by
  unfold LB
  walk_at "ey"
  rw [h1]
  walk_at "ey"
  try simp only [itemsD]
  walk_at "ey"
  rw [h2]
  walk_at "ey"
theorem body_ok (s0 s2 s3 s4 : Option S) (m : Mach) (n : Nat) (hm : m.at_ ≤ n) (hn : n < 400000000000) : ∃ t3 t4 m', LB (mir lawLevel) ⟨[s0, some (.m 0), s2, s3, s4], m⟩ = .ok .nx ⟨[s0, some (.m 0), s2, t3, t4], m'⟩ ∧ m'.at_ ≤ n + 2000000 := by
  obtain ⟨t, us, m1, e1, D, a1⟩ := drawn_ok 198 m n (by omega) hm (by omega)
  exact ⟨_, _, m1, body_gen (c := mir lawLevel) e1 (right_eq 199 t us m1 D (by omega)), a1⟩
theorem loop_ok (s0 : Option S) : ∀ (ds : List D) (s2 s3 s4 : Option S) (m : Mach) (n : Nat), m.at_ ≤ n → n + ds.length * 2000000 < 400000000000 → ∃ s2' s3' s4' m', forL (M := Mx) (kName 2) (LB (mir lawLevel)) ds ⟨[s0, some (.m 0), s2, s3, s4], m⟩ = .ok .nx ⟨[s0, some (.m 0), s2', s3', s4'], m'⟩ ∧ m'.at_ ≤ n + ds.length * 2000000
  | [], s2, s3, s4, m, n, h, h2 => ⟨s2, s3, s4, m, rfl, by simpa using h⟩
  | d :: ds, s2, s3, s4, m, n, h, h2 => by
    rw [List.length_cons, Nat.succ_mul] at h2 ⊢
    obtain ⟨t3, t4, m', e, a⟩ := body_ok s0 (some (.d d)) s3 s4 m n h (by omega)
    obtain ⟨s2', s3', s4', m2, e2, a2⟩ := loop_ok s0 ds (some (.d d)) t3 t4 m' (n + 2000000) a (by omega)
    refine ⟨s2', s3', s4', m2, ?_, by omega⟩
    rw [← e2]
    conv => lhs; unfold forL
    simp only [kName, List.set_cons_succ, List.set_cons_zero, e, Rs.bind_ok]
theorem its_ok (ns : List Int) (r : List (Option S)) (m : Mach) (hl : ns.length ≤ 63) (h : m.at_ ≤ 10) : ∃ ds m', (iRg1M (aCons (opd (eFn fMax (aCons (opd (eBin dAdd (eC (.int 1)) (eCall (mir lawLevel ._law_next) (aCons (escf (eVar 1)) (aCons (escf (eC (.int 8))) aNil))))) (aCons (opd (eFn fMin (aCons (opd (eC (.int 63))) (aCons (opd (eFn fLen (aCons (opd (eVar 0)) aNil))) aNil)))) aNil)))) aNil) : Sm Mx (List D)) ⟨some (.d (.scr ns)) :: some (.m 0) :: r, m⟩ = .ok ds ⟨some (.d (.scr ns)) :: some (.m 0) :: r, m'⟩ ∧ ds.length ≤ 100 ∧ m'.at_ ≤ 11 := by
  obtain ⟨r1, m1, e1', p1, q1, a1⟩ := draw (L := 199) 8 m (by omega) (by omega) (drw m 10 h (by omega))
  have e1 : mir lawLevel ._law_next [.m 0, .d (.int 8)] m = .ok (.d (.int r1)) m1 := e1'
  simp only [iRg1M]
  walk_at "ey"
  rw [e1]
  walk_at "ey"
  simp only [fLen, fMin]
  walk_at "ey"
  simp only [fLen, fMin]
  walk_at "ey"
  have b : ∀ x y : Int, 0 ≤ (if x > y then x else y) ∧ (if x > y then x else y) ≤ 100 ∨ ¬ (0 ≤ y ∧ y ≤ 100 ∧ x ≤ 100) := fun x y => by split <;> omega
  have b1 : ((if ((ns.length : Nat) : Int) < 63 then ((ns.length : Nat) : Int) else 63) : Int) ≤ 100 := by split <;> omega
  have b2 := (b (if ((ns.length : Nat) : Int) < 63 then ((ns.length : Nat) : Int) else 63) (1 + r1)).resolve_right (fun q => q ⟨by omega, by omega, b1⟩)
  rw [if_pos (rg_lim b2.1 (by omega))]
  exact ⟨_, _, rfl, by rw [range_len]; omega, by omega⟩
theorem law_true : ∀ ns : List Int, ns.length ≤ 63 → (∀ z ∈ ns, Builtin.Int.intBits z ≤ 1048576) → ∃ z', m_law (mir lawLevel) (z0 3 ns) = .ok (.rt (.d (.bl true))) z' := by
  intro ns hl _
  have ez : z0 3 ns = ⟨[some (.d (.scr ns)), some (.m 0), none, none, none], ⟨ns, 0, leftOf ns⟩⟩ := rfl
  rw [ez]
  obtain ⟨ds, m1, i1, l1, a1⟩ := its_ok ns [none, none, none] ⟨ns, 0, leftOf ns⟩ hl (by show 0 ≤ 10; omega)
  obtain ⟨s2, s3, s4, m2, f2, a2⟩ := loop_ok (some (.d (.scr ns))) ds none none none m1 11 a1 (by omega)
  have F1 : (sFor (iRg1M (aCons (opd (eFn fMax (aCons (opd (eBin dAdd (eC (.int 1)) (eCall (mir lawLevel ._law_next) (aCons (escf (eVar 1)) (aCons (escf (eC (.int 8))) aNil))))) (aCons (opd (eFn fMin (aCons (opd (eC (.int 63))) (aCons (opd (eFn fLen (aCons (opd (eVar 0)) aNil))) aNil)))) aNil)))) aNil)) (kName 2) (LB (mir lawLevel)) : Sm Mx Out) ⟨[some (.d (.scr ns)), some (.m 0), none, none, none], ⟨ns, 0, leftOf ns⟩⟩ = .ok .nx ⟨[some (.d (.scr ns)), some (.m 0), s2, s3, s4], m2⟩ := by
    unfold sFor
    rw [i1, Rs.bind_ok]
    exact f2
  exact ⟨⟨[some (.d (.scr ns)), some (.m 0), s2, s3, s4], m2⟩, (seq_nx F1).trans rfl⟩
end L
open PySem PySem.W PyProof.Rows
set_option maxRecDepth 100000 in
set_option maxHeartbeats 0 in
theorem PySem.Challenge.cw_groundroom_k04_whole_putting_in_holds : PySem.Challenge.rw_groundroom_k04_whole_putting_in.Holds := by
  w_on; o_law; k_head; (case hw => w_witness2)
  k_fill
  refine G.walkGT (l := PySem.Challenge.rw_groundroom_k04_whole_putting_in) (m := 63) (n := L.lawLevel + 9) (x := "_law_script") (CX := fun w => L2.CX PySem.Challenge.rw_groundroom_k04_whole_putting_in.prog w) rfl (by decide) rfl ⟨rfl, by decide, by decide⟩ (fun w h Y => PySem.W.km_in_of Y) ?F (fun w H s e s' h => by
    obtain ⟨_, _, _, _, _, _, _, _, _, _, _, _, z⟩ := h
    exact z)
  case F =>
    intro w mg fa h Y KX G hmg
    refine' L.all_mk KX G hmg ?a0 ?l0 ?c0 ?k0 ?a1 ?l1 ?c1 ?k1 ?a2 ?l2 ?c2 ?k2 ?a3 ?l3 ?c3 ?k3 ?lT3 ?a4 ?l4 ?c4 ?k4 ?a5 ?l5 ?c5 ?k5 ?a6 ?l6 ?c6 ?k6 ?a7 ?l7 ?c7 ?k7 ?a8 ?l8 ?c8 ?k8 ?a9 ?l9 ?c9 ?k9 ?a10 ?l10 ?c10 ?k10 ?a11 ?l11 ?c11 ?k11 ?a12 ?l12 ?c12 ?k12 ?a13 ?l13 ?c13 ?k13 ?a14 ?l14 ?c14 ?k14 ?a15 ?l15 ?c15 ?k15 ?a16 ?l16 ?c16 ?k16 ?a17 ?l17 ?c17 ?k17 ?a18 ?l18 ?c18 ?k18 ?a19 ?l19 ?c19 ?k19 ?a20 ?l20 ?c20 ?k20 ?a21 ?l21 ?c21 ?k21 ?a22 ?l22 ?c22 ?k22 ?z_ValueError ?z_int ?z_isinstance ?z_len ?z_list ?z_max ?z_min ?z_range ?z_repr ?z_sum ?z_tuple ?xa_BadGround ?xa_BadRoom ?xa_BadText ?xa_GroundError ?xa_NoStep ?xa_NoText ?xa_NotDone ?xa_TooMany ?x1_TooMany ?x2_TooMany ?x3_TooMany ?x4_TooMany ?y1_TooMany ?y2_TooMany ?y3_TooMany ?y4_TooMany ?y5_TooMany ?y6_TooMany ?y7_TooMany ?hT1 ?hT2 ?hT3 ?hT4 ?hT5 ?h1_BadGround ?h2_BadGround ?h3_BadGround ?h1_BadRoom ?h2_BadRoom ?h3_BadRoom ?h1_BadText ?h2_BadText ?h3_BadText ?h1_GroundError ?h2_GroundError ?h3_GroundError ?h1_NoStep ?h2_NoStep ?h3_NoStep ?h1_NoText ?h2_NoText ?h3_NoText ?h1_NotDone ?h2_NotDone ?h3_NotDone ?h1_TooMany ?h2_TooMany ?h3_TooMany ?s_TooMany_BadGround ?ne_TooMany_BadGround ?s_TooMany_BadRoom ?ne_TooMany_BadRoom ?s_TooMany_BadText ?ne_TooMany_BadText ?s_TooMany_GroundError ?ne_TooMany_GroundError ?s_TooMany_NoStep ?ne_TooMany_NoStep ?s_TooMany_NoText ?ne_TooMany_NoText ?s_TooMany_NotDone ?ne_TooMany_NotDone ?s_TooMany_ValueError ?g_BOUND ?gl_BOUND ?g_CALLED ?gl_CALLED ?g_JOINED ?gl_JOINED ?g_MOST_FOUND ?g_MOST_FOUND_DEEP L.law_true
    (case a0 => k_is)
    (case l0 => k_is)
    (case c0 => k_is)
    (case k0 => k_is)
    (case a1 => k_is)
    (case l1 => k_is)
    (case c1 => k_is)
    (case k1 => k_is)
    (case a2 => k_is)
    (case l2 => k_is)
    (case c2 => k_is)
    (case k2 => k_is)
    (case a3 => k_is)
    (case l3 => k_is)
    (case c3 => k_is)
    (case k3 => k_is)
    (case lT3 => k_is)
    (case a4 => k_is)
    (case l4 => k_is)
    (case c4 => k_is)
    (case k4 => k_is)
    (case a5 => k_is)
    (case l5 => k_is)
    (case c5 => k_is)
    (case k5 => k_is)
    (case a6 => k_is)
    (case l6 => k_is)
    (case c6 => k_is)
    (case k6 => k_is)
    (case a7 => k_is)
    (case l7 => k_is)
    (case c7 => k_is)
    (case k7 => k_is)
    (case a8 => k_is)
    (case l8 => k_is)
    (case c8 => k_is)
    (case k8 => k_is)
    (case a9 => k_is)
    (case l9 => k_is)
    (case c9 => k_is)
    (case k9 => k_is)
    (case a10 => k_is)
    (case l10 => k_is)
    (case c10 => k_is)
    (case k10 => k_is)
    (case a11 => k_is)
    (case l11 => k_is)
    (case c11 => k_is)
    (case k11 => k_is)
    (case a12 => k_is)
    (case l12 => k_is)
    (case c12 => k_is)
    (case k12 => k_is)
    (case a13 => k_is)
    (case l13 => k_is)
    (case c13 => k_is)
    (case k13 => k_is)
    (case a14 => k_is)
    (case l14 => k_is)
    (case c14 => k_is)
    (case k14 => k_is)
    (case a15 => k_is)
    (case l15 => k_is)
    (case c15 => k_is)
    (case k15 => k_is)
    (case a16 => k_is)
    (case l16 => k_is)
    (case c16 => k_is)
    (case k16 => k_is)
    (case a17 => k_is)
    (case l17 => k_is)
    (case c17 => k_is)
    (case k17 => k_is)
    (case a18 => k_is)
    (case l18 => k_is)
    (case c18 => k_is)
    (case k18 => k_is)
    (case a19 => k_is)
    (case l19 => k_is)
    (case c19 => k_is)
    (case k19 => k_is)
    (case a20 => k_is)
    (case l20 => k_is)
    (case c20 => k_is)
    (case k20 => k_is)
    (case a21 => k_is)
    (case l21 => k_is)
    (case c21 => k_is)
    (case k21 => k_is)
    (case a22 => k_is)
    (case l22 => k_is)
    (case c22 => k_is)
    (case k22 => k_is)
    (case z_ValueError => k_is)
    (case z_int => k_is)
    (case z_isinstance => k_is)
    (case z_len => k_is)
    (case z_list => k_is)
    (case z_max => k_is)
    (case z_min => k_is)
    (case z_range => k_is)
    (case z_repr => k_is)
    (case z_sum => k_is)
    (case z_tuple => k_is)
    (case xa_BadGround => k_is)
    (case xa_BadRoom => k_is)
    (case xa_BadText => k_is)
    (case xa_GroundError => k_is)
    (case xa_NoStep => k_is)
    (case xa_NoText => k_is)
    (case xa_NotDone => k_is)
    (case xa_TooMany => k_is)
    (case x1_TooMany => k_exc)
    (case x2_TooMany => k_is)
    (case x3_TooMany => k_is)
    (case x4_TooMany => k_is)
    (case y1_TooMany => k_is)
    (case y2_TooMany => k_is)
    (case y3_TooMany => k_is)
    (case y4_TooMany => k_is)
    (case y5_TooMany => k_is)
    (case y6_TooMany => k_is)
    (case y7_TooMany => k_is)
    (case hT1 => k_is)
    (case hT2 => rfl)
    (case hT3 => kernel_rfl)
    (case hT4 => kernel_rfl)
    (case hT5 => exact PySem.W.km_tabs_of Y _ (by k_mem))
    (case h1_BadGround => k_is)
    (case h2_BadGround => k_is)
    (case h3_BadGround => k_is)
    (case h1_BadRoom => k_is)
    (case h2_BadRoom => k_is)
    (case h3_BadRoom => k_is)
    (case h1_BadText => k_is)
    (case h2_BadText => k_is)
    (case h3_BadText => k_is)
    (case h1_GroundError => k_is)
    (case h2_GroundError => k_is)
    (case h3_GroundError => k_is)
    (case h1_NoStep => k_is)
    (case h2_NoStep => k_is)
    (case h3_NoStep => k_is)
    (case h1_NoText => k_is)
    (case h2_NoText => k_is)
    (case h3_NoText => k_is)
    (case h1_NotDone => k_is)
    (case h2_NotDone => k_is)
    (case h3_NotDone => k_is)
    (case h1_TooMany => k_is)
    (case h2_TooMany => k_is)
    (case h3_TooMany => k_is)
    (case s_TooMany_BadGround => k_is)
    (case ne_TooMany_BadGround => decide +kernel)
    (case s_TooMany_BadRoom => k_is)
    (case ne_TooMany_BadRoom => decide +kernel)
    (case s_TooMany_BadText => k_is)
    (case ne_TooMany_BadText => decide +kernel)
    (case s_TooMany_GroundError => k_is)
    (case ne_TooMany_GroundError => decide +kernel)
    (case s_TooMany_NoStep => k_is)
    (case ne_TooMany_NoStep => decide +kernel)
    (case s_TooMany_NoText => k_is)
    (case ne_TooMany_NoText => decide +kernel)
    (case s_TooMany_NotDone => k_is)
    (case ne_TooMany_NotDone => decide +kernel)
    (case s_TooMany_ValueError => k_is)
    (case g_BOUND => k_is)
    (case gl_BOUND => k_is)
    (case g_CALLED => k_is)
    (case gl_CALLED => k_is)
    (case g_JOINED => k_is)
    (case gl_JOINED => k_is)
    (case g_MOST_FOUND => k_is)
    (case g_MOST_FOUND_DEEP => k_is)
