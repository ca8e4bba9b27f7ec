import PyProof.Rows.All
import Wide.All
import OpenK.AllK
import Wide.FinOn
import HandS.ForMost
import HandS.ForExc
import HandS.Walk
import HandS.IsInst
import HandS.EndBits
import HandS.TupAny
import HandS.TupLe
import HandS.CallSlots
import HandS.Defaults
import HandS.Iter
import PyProof.ReprRoads
import PyProof.ReprLen
import HandS.ExcIs
import KE.GoesEnum
import KE.GoesMore
import HandS.Style
import HandS.Flow
import HandS.Zip
import HandS.More
import HandS.TupMul
import PyProof.Rows.TmSorted
import PySem.Challenge.RW_groundroom_k64_rules_known
set_option Elab.async false
set_option linter.all false
set_option maxRecDepth 100000
set_option maxHeartbeats 4000000
/-! The mirror calculus: data, states, results, readings that compute a mirror. -/
namespace G
open PySem L2

inductive D where
  | non
  | bl (b : Bool)
  | int (i : Int)
  | str (x : Str)
  | tup (xs : List D)
  | lst (xs : List D)
  | scr (ns : List Int)
  | emp
  | exc (c : Str) (xs : List D)
  /-- a mutable object of the store, by its number -/
  | o (n : Nat)
/-- the exception's object, known behind its suite -/
def XO (cls : Value) (d : Option Addr) (a : Addr) : HO := .ext fun h => ∃ (ox : Obj) (fs : Array Value), h.get? a = some ox ∧ Zc cls d ox ∧ ox.data = .fields fs
/-- the text's own name c, as the written part has it -/
def xrK (K : PySem.W.Frag) (c : Str) : Option Value := match PySem.W.nsIn K mainGlobals c with
  | some o => o
  | none => none

/-- the mark of a mutable object's number, held in the frozen part -/
def tag (n : Nat) : HO := .tbl #[rawInt n]
/-- all but the marks stay -/
def SameX (F H : Hp) : Prop := ∀ b o, F b = some o → (∀ ps, o ≠ .tbl ps) → H b = some o
def noT (F : Hp) : Hp := fun a => match F a with
  | some (.tbl _) => none
  | o => o
theorem noT_at {F : Hp} {a : Addr} {o : HO} (h : F a = some o) (n : ∀ ps, o ≠ .tbl ps) : noT F a = some o := by
  unfold noT
  rw [h]
  cases o with
  | tbl ps => exact (n ps rfl).elim
  | _ => rfl
theorem noT_of {F : Hp} {a : Addr} {o : HO} (h : noT F a = some o) : F a = some o ∧ ∀ ps, o ≠ .tbl ps := by
  unfold noT at h
  cases q : F a with
  | none => rw [q] at h; cases h
  | some u =>
    rw [q] at h
    cases u with
    | tbl ps => cases h
    | _ => cases h; exact ⟨rfl, fun ps e => by cases e⟩
theorem SameX.same {F H : Hp} (s : SameX F H) : Same (noT F) H := fun b o q => s b o (noT_of q).1 (noT_of q).2
/-- no new marks, and what is marked stays -/
def TgK (F F' H H' : Hp) : Prop := ∀ a ps, F' a = some (.tbl ps) → F a = some (.tbl ps) ∧ H' a = H a
theorem TgK.refl (F H : Hp) : TgK F F H H := fun _ _ h => ⟨h, rfl⟩
theorem sqT_mono {K : PySem.W.Frag} {H H' : Hp} {a : Addr} {xs : List V} (e : Same H H') (h : SqT K H a xs) : SqT K H' a xs := by
  rcases h with (h | ⟨o, h⟩) | h
  · exact .inl (.inl (e _ _ h))
  · exact .inl (.inr ⟨o, e _ _ h⟩)
  · exact .inr h

theorem tupNT {vs : List V} : ∀ ps, HO.tup vs ≠ .tbl ps := fun _ e => by cases e
theorem lstNT {vs : List V} : ∀ ps, HO.lst vs ≠ .tbl ps := fun _ e => by cases e
theorem SameX.tup {K : PySem.W.Frag} {F H : Hp} {a : Addr} {xs : List V} (e : SameX F H) (h : SqT K F a xs) : SqT K H a xs := by
  rcases h with (h | ⟨o, h⟩) | h
  · exact .inl (.inl (e _ _ h tupNT))
  · exact .inl (.inr ⟨o, e _ _ h (fun _ q => by cases q)⟩)
  · exact .inr h
theorem SameX.seq {K : PySem.W.Frag} {F H : Hp} {a : Addr} {xs : List V} (e : SameX F H) (h : SqL K F a xs) : SqL K H a xs := by
  rcases h with (h | ⟨o, h⟩) | h
  · exact .inl (.inl (e _ _ h lstNT))
  · exact .inl (.inr ⟨o, e _ _ h (fun _ q => by cases q)⟩)
  · exact .inr h
theorem SameX.lst {F H : Hp} {a : Addr} {xs : List V} (e : SameX F H) (h : F a = some (.lst xs)) : H a = some (.lst xs) := e _ _ h lstNT
theorem SameX.emp {F H : Hp} {a : Addr} (e : SameX F H) (h : F a = some (.dK [])) : H a = some (.dK []) := e _ _ h (fun _ q => by cases q)
theorem SameX.ext {F H : Hp} {a : Addr} {φ : Heap → Prop} (e : SameX F H) (h : F a = some (.ext φ)) : H a = some (.ext φ) := e _ _ h (fun _ q => by cases q)
theorem thenX {F F1 H : Hp} (a : Same F F1) (b : SameX F1 H) : SameX F H := fun c o h n => b c o (a c o h) n
theorem SameX.thenS {F H H1 : Hp} (a : SameX F H) (b : Same H H1) : SameX F H1 := fun c o h n => b c o (a c o h n)
theorem samX {F H : Hp} (a : Same F H) : SameX F H := fun c o h _ => a c o h
mutual
inductive Da (K : PySem.W.Frag) (F : Hp) : V → D → Prop
  | non : Da K F .non .non
  | bl (b : Bool) : Da K F (.bl b) (.bl b)
  | int (i : Int) : Da K F (.int i) (.int i)
  | str (x : Str) : Da K F (.str x) (.str x)
  | tup {a : Addr} {vs : List V} {ds : List D} : SqT K F a vs → DaAll K F vs ds → Da K F (.ref a) (.tup ds)
  | lst {a : Addr} {vs : List V} {ds : List D} : F a = some (.lst vs) → DaAll K F vs ds → Da K F (.ref a) (.lst ds)
  | scr {a : Addr} {ns : List Int} : SqL K F a (ns.map V.int) → Da K F (.ref a) (.scr ns)
  | emp {a : Addr} : F a = some (.dK []) → Da K F (.ref a) .emp
  | exc {a C : Addr} {c : Str} : F a = some (XO (.ref C) none a) → xrK K c = some (.ref C) → Da K F (.ref a) (.exc c [])
  | o {a : Addr} {n : Nat} : F a = some (tag n) → Da K F (.ref a) (.o n)
inductive DaAll (K : PySem.W.Frag) (F : Hp) : List V → List D → Prop
  | nil : DaAll K F [] []
  | cons {v : V} {vs : List V} {d : D} {ds : List D} : Da K F v d → DaAll K F vs ds → DaAll K F (v :: vs) (d :: ds)
end
mutual
theorem Da.mono {K : PySem.W.Frag} {F F' : Hp} (h : Same F F') : ∀ {v : V} {d : D}, Da K F v d → Da K F' v d
  | _, _, .non => .non
  | _, _, .bl b => .bl b
  | _, _, .int i => .int i
  | _, _, .str x => .str x
  | _, _, .tup q r => .tup (sqT_mono h q) (DaAll.mono h r)
  | _, _, .lst q r => .lst (h _ _ q) (DaAll.mono h r)
  | _, _, .scr q => .scr (h.seq q)
  | _, _, .emp q => .emp (h _ _ q)
  | _, _, .exc q r => .exc (h _ _ q) r
  | _, _, .o q => .o (h _ _ q)
theorem DaAll.mono {K : PySem.W.Frag} {F F' : Hp} (h : Same F F') : ∀ {vs : List V} {ds : List D}, DaAll K F vs ds → DaAll K F' vs ds
  | _, _, .nil => .nil
  | _, _, .cons a b => .cons (Da.mono h a) (DaAll.mono h b)
end
theorem DaAll.length {K : PySem.W.Frag} {F : Hp} : ∀ {vs : List V} {ds : List D}, DaAll K F vs ds → vs.length = ds.length
  | _, _, .nil => rfl
  | _, _, .cons _ b => congrArg (· + 1) (DaAll.length b)
theorem DaAll.get {K : PySem.W.Frag} {F : Hp} : ∀ {vs : List V} {ds : List D} {i : Nat} {d : D}, DaAll K F vs ds → ds[i]? = some d → ∃ v, vs[i]? = some v ∧ Da K F v d
  | _, _, _, _, .nil, e => by simp at e
  | _, _, 0, _, .cons a _, e => by simp at e; subst e; exact ⟨_, rfl, a⟩
  | _, _, i + 1, _, .cons _ b, e => by
    obtain ⟨v, h1, h2⟩ := DaAll.get (i := i) b (by simpa using e)
    exact ⟨v, by simpa using h1, h2⟩
theorem DaAll.getV {K : PySem.W.Frag} {F : Hp} : ∀ {vs : List V} {ds : List D} {i : Nat} {v : V}, DaAll K F vs ds → vs[i]? = some v → ∃ d, ds[i]? = some d ∧ Da K F v d
  | _, _, _, _, .nil, e => by simp at e
  | _, _, 0, _, .cons a _, e => by simp at e; subst e; exact ⟨_, rfl, a⟩
  | _, _, i + 1, _, .cons _ b, e => by
    obtain ⟨v, h1, h2⟩ := DaAll.getV (i := i) b (by simpa using e)
    exact ⟨v, by simpa using h1, h2⟩
theorem DaAll.append {K : PySem.W.Frag} {F : Hp} : ∀ {vs ws : List V} {ds es : List D}, DaAll K F vs ds → DaAll K F ws es → DaAll K F (vs ++ ws) (ds ++ es)
  | _, _, _, _, .nil, h => h
  | _, _, _, _, .cons a b, h => .cons a (DaAll.append b h)
theorem DaAll.take {K : PySem.W.Frag} {F : Hp} : ∀ {vs : List V} {ds : List D} (n : Nat), DaAll K F vs ds → DaAll K F (vs.take n) (ds.take n)
  | _, _, 0, _ => .nil
  | _, _, _ + 1, .nil => .nil
  | _, _, n + 1, .cons a b => .cons a (DaAll.take n b)
theorem DaAll.drop {K : PySem.W.Frag} {F : Hp} : ∀ {vs : List V} {ds : List D} (n : Nat), DaAll K F vs ds → DaAll K F (vs.drop n) (ds.drop n)
  | _, _, 0, h => h
  | _, _, _ + 1, .nil => .nil
  | _, _, n + 1, .cons _ b => DaAll.drop n b
theorem DaAll.dropLast {K : PySem.W.Frag} {F : Hp} {vs : List V} {ds : List D} (h : DaAll K F vs ds) : DaAll K F vs.dropLast ds.dropLast := by
  rw [List.dropLast_eq_take, List.dropLast_eq_take, h.length]
  exact h.take _
theorem DaAll.reverse {K : PySem.W.Frag} {F : Hp} : ∀ {vs : List V} {ds : List D}, DaAll K F vs ds → DaAll K F vs.reverse ds.reverse
  | _, _, .nil => .nil
  | _, _, .cons a b => by
    rw [List.reverse_cons, List.reverse_cons]
    exact (DaAll.reverse b).append (.cons a .nil)
theorem DaAll.set {K : PySem.W.Frag} {F : Hp} {v : V} {d : D} (hv : Da K F v d) : ∀ {vs : List V} {ds : List D} (n : Nat), DaAll K F vs ds → DaAll K F (vs.set n v) (ds.set n d)
  | _, _, _, .nil => .nil
  | _, _, 0, .cons _ b => .cons hv b
  | _, _, n + 1, .cons a b => .cons a (DaAll.set hv n b)
theorem DaAll.ints {K : PySem.W.Frag} {F : Hp} : ∀ (ns : List Int), DaAll K F (ns.map V.int) (ns.map D.int)
  | [] => .nil
  | n :: r => .cons (.int n) (DaAll.ints r)

/-! ### states, results -/
inductive S where
  | d (x : D)
  | l (xs : List D)
  | v (i : Nat)
  | m (j : Nat)
structure Z (T : Type) where
  rho : List (Option S)
  m : T
structure Xc where
  c : Str
  arg : Option D
inductive Rs (α ζ : Type) where
  | ok (a : α) (z : ζ)
  | ex (x : Xc) (z : ζ)
  | bad
def Rs.bind {α β ζ : Type} (r : Rs α ζ) (k : α → ζ → Rs β ζ) : Rs β ζ := match r with
  | .ok a z => k a z
  | .ex x z => .ex x z
  | .bad => .bad
@[simp] theorem Rs.bind_ok {α β ζ : Type} (a : α) (z : ζ) (k : α → ζ → Rs β ζ) : (Rs.ok a z).bind k = k a z := rfl
@[simp] theorem Rs.bind_ex {α β ζ : Type} (x : Xc) (z : ζ) (k : α → ζ → Rs β ζ) : (Rs.ex x z).bind k = .ex x z := rfl
@[simp] theorem Rs.bind_bad {α β ζ : Type} (k : α → ζ → Rs β ζ) : (Rs.bad : Rs α ζ).bind k = .bad := rfl
def Rs.opt {α ζ : Type} (o : Option α) (z : ζ) : Rs α ζ := match o with
  | some a => .ok a z
  | none => .bad
@[simp] theorem Rs.opt_some {α ζ : Type} (a : α) (z : ζ) : Rs.opt (some a) z = .ok a z := rfl
@[simp] theorem Rs.opt_none {α ζ : Type} (z : ζ) : Rs.opt (none : Option α) z = .bad := rfl

/-- a machine: mutable objects at the addresses ms that the law threads through its calls -/
structure MI where
  T : Type
  ok : PySem.W.Frag → Hp → Hp → List Addr → T → Prop
  mono : ∀ {K : PySem.W.Frag} {F F' H H' : Hp} {ms : List Addr} {t : T}, Same F F' → TgK F F' H H' → (∀ a ∈ ms, H' a = H a) → ok K F H ms t → ok K F' H' ms t
structure Gx where
  K : PySem.W.Frag
  xr : Str → Option Value
  ms : List Addr
  P : Hp
  Fp : Hp

def SV (G : Gx) (F H : Hp) (v : V) : S → Prop
  | .d x => Da G.K F v x
  | .l xs => ∃ a vs, v = .ref a ∧ H a = some (.lst vs) ∧ DaAll G.K F vs xs ∧ F a = none ∧ G.P a = none ∧ a ∉ G.ms
  | .v _ => False
  | .m j => ∃ a, G.ms[j]? = some a ∧ v = .ref a

structure Ok (M : MI) (G : Gx) (σ : St) (H F : Hp) (z : Z M.T) : Prop where
  sub : SameX F H
  len : z.rho.length = σ.length
  slot : ∀ (i : Nat) (s : S), z.rho[i]? = some (some s) → ∃ v, σ[i]? = some (some v) ∧ SV G F H v s
  dist : ∀ (i j : Nat) (xs ys : List D) (v : V), z.rho[i]? = some (some (.l xs)) → z.rho[j]? = some (some (.l ys)) → σ[i]? = some (some v) → σ[j]? = some (some v) → i = j
  mach : M.ok G.K F H G.ms z.m
  msF : ∀ a ∈ G.ms, F a = none
  msP : ∀ a ∈ G.ms, G.P a = none
  msH : ∀ a ∈ G.ms, H a ≠ none
  fr : ∀ b o, G.P b = some o → H b = some o ∧ F b = G.Fp b
  tg : ∀ a ps, F a = some (.tbl ps) → H a ≠ none ∧ G.P a = none

/-- a slot owns the list at a -/
def Owned {T : Type} (σ : St) (z : Z T) (a : Addr) : Prop := ∃ (i : Nat) (xs : List D), z.rho[i]? = some (some (.l xs)) ∧ σ[i]? = some (some (.ref a))

def EV {T : Type} (G : Gx) (σ : St) (F H : Hp) (z : Z T) (v : V) : S → Prop
  | .d x => Da G.K F v x
  | .l xs => ∃ a vs, v = .ref a ∧ H a = some (.lst vs) ∧ DaAll G.K F vs xs ∧ F a = none ∧ G.P a = none ∧ a ∉ G.ms ∧ ¬ Owned σ z a
  | .v i => σ[i]? = some (some v)
  | .m j => ∃ a, G.ms[j]? = some a ∧ v = .ref a
/-- .. of an operand: nothing new that is not frozen -/
def EO (G : Gx) (σ : St) (F : Hp) (v : V) : S → Prop
  | .d x => Da G.K F v x
  | .l _ => False
  | .v i => σ[i]? = some (some v)
  | .m j => ∃ a, G.ms[j]? = some a ∧ v = .ref a
theorem EO.mono {G : Gx} {σ : St} {F F' : Hp} {v : V} {s : S} (h : Same F F') (e : EO G σ F v s) : EO G σ F' v s := by
  cases s with
  | d x => exact Da.mono h e
  | l _ => exact e
  | v i => exact e
  | m j => exact e

section
variable {M : MI} {G : Gx} {σ : St} {H H' F F' : Hp} {z : Z M.T}
theorem Ok.ownH (ok : Ok M G σ H F z) {a : Addr} (o : Owned σ z a) : ∃ vs, H a = some (.lst vs) ∧ F a = none ∧ G.P a = none ∧ a ∉ G.ms := by
  obtain ⟨i, xs, h1, h2⟩ := o
  obtain ⟨v, e, b, vs, rfl, h3, _, h4, h5, h6⟩ := ok.slot i _ h1
  rw [h2] at e
  cases e
  exact ⟨vs, h3, h4, h5, h6⟩
/-- the heaps change, no slot does -/
theorem Ok.step (ok : Ok M G σ H F z) (hF : Same F F') (ht : TgK F F' H H') (hs : SameX F' H') (ho : ∀ a, Owned σ z a → H' a = H a ∧ F' a = none) (hm : ∀ a ∈ G.ms, H' a = H a ∧ F' a = none) (hf : ∀ b o, G.P b = some o → H' b = some o ∧ F' b = G.Fp b) : Ok M G σ H' F' z where
  sub := hs
  len := ok.len
  slot := fun i s e => by
    obtain ⟨v, h1, h2⟩ := ok.slot i s e
    refine ⟨v, h1, ?_⟩
    cases s with
    | d x => exact Da.mono hF h2
    | l xs =>
      obtain ⟨a, vs, rfl, h3, h4, h5, h6, h7⟩ := h2
      obtain ⟨q1, q2⟩ := ho a ⟨i, xs, e, h1⟩
      exact ⟨a, vs, rfl, q1.trans h3, h4.mono hF, q2, h6, h7⟩
    | v _ => exact h2
    | m j => exact h2
  dist := ok.dist
  mach := M.mono hF ht (fun a ha => (hm a ha).1) ok.mach
  tg := fun a ps e => by
    obtain ⟨h1, h2⟩ := ht a ps e
    rw [h2]
    exact ok.tg a ps h1
  msF := fun a ha => (hm a ha).2
  msP := ok.msP
  msH := fun a ha => by rw [(hm a ha).1]; exact ok.msH a ha
  fr := hf
theorem Ok.freshF (ok : Ok M G σ H F z) {p : Addr} (h : H p = none) : F p = none := by
  cases q : F p with
  | none => rfl
  | some o =>
    by_cases n : ∃ ps, o = .tbl ps
    · obtain ⟨ps, rfl⟩ := n
      exact ((ok.tg p ps q).1 h).elim
    · have := ok.sub p o q (fun ps e => n ⟨ps, e⟩)
      rw [h] at this
      cases this
theorem Ok.freshP (ok : Ok M G σ H F z) {p : Addr} (h : H p = none) : G.P p = none := by
  cases q : G.P p with
  | none => rfl
  | some o =>
    rw [(ok.fr p o q).1] at h
    cases h
theorem Ok.freshM (ok : Ok M G σ H F z) {p : Addr} (h : H p = none) : p ∉ G.ms := fun q => ok.msH p q h
theorem Ok.freshO (ok : Ok M G σ H F z) {p : Addr} (h : H p = none) : ¬ Owned σ z p := fun q => by
  obtain ⟨vs, e, _⟩ := ok.ownH q
  rw [h] at e
  cases e
theorem same_upd {H : Hp} {p : Addr} {o : HO} (h : H p = none) : Same H (upd H p o) := fun b u q => by
  rw [upd_ne (ne_of_none q h)]
  exact q
theorem same_upd2 {F H : Hp} {p : Addr} {o : HO} (h : SameX F H) : SameX (upd F p o) (upd H p o) := fun b u q n => by
  by_cases e : b = p
  · subst e
    rw [upd_same] at q ⊢
    exact q
  · rw [upd_ne e] at q ⊢
    exact h b u q n
theorem same_updR {F H : Hp} {p : Addr} {o : HO} (h : SameX F H) (hp : F p = none) : SameX F (upd H p o) := fun b u q n => by
  rw [upd_ne (ne_of_none q hp)]
  exact h b u q n
theorem tgk_new {F H : Hp} {p : Addr} {o : HO} (hp : F p = none) : TgK F F H (upd H p o) := fun a ps e => ⟨e, upd_ne (ne_of_none e hp)⟩
theorem tgk_newF {F H : Hp} {p : Addr} {o u : HO} (hp : F p = none) (n : ∀ ps, o ≠ .tbl ps) : TgK F (upd F p o) H (upd H p u) := fun a ps e => by
  by_cases h : a = p
  · subst h
    rw [upd_same] at e
    exact (n ps (Option.some.inj e)).elim
  · rw [upd_ne h] at e
    exact ⟨e, upd_ne h⟩
theorem tgk_frz {F H : Hp} {p : Addr} {o : HO} (hp : F p = none) (n : ∀ ps, o ≠ .tbl ps) : TgK F (upd F p o) H H := fun a ps e => by
  by_cases h : a = p
  · subst h
    rw [upd_same] at e
    exact (n ps (Option.some.inj e)).elim
  · rw [upd_ne h] at e
    exact ⟨e, rfl⟩
/-- a new object, not frozen -/
theorem Ok.new (ok : Ok M G σ H F z) {p : Addr} (hp : H p = none) (o : HO) : Ok M G σ (upd H p o) F z :=
  ok.step (Same.refl F) (tgk_new (ok.freshF hp)) (same_updR ok.sub (ok.freshF hp)) (fun a q => by
    obtain ⟨vs, e, e2, _⟩ := ok.ownH q
    exact ⟨upd_ne (ne_of_none e hp), e2⟩) (fun a q => by
    have n : a ≠ p := fun e => ok.freshM hp (e ▸ q)
    exact ⟨upd_ne n, ok.msF a q⟩) (fun b u q => by
    obtain ⟨h1, h2⟩ := ok.fr b u q
    exact ⟨by rw [upd_ne (ne_of_none h1 hp)]; exact h1, h2⟩)
/-- a new object, frozen -/
theorem Ok.newF (ok : Ok M G σ H F z) {p : Addr} (hp : H p = none) (o : HO) (nt : ∀ ps, o ≠ .tbl ps) : Ok M G σ (upd H p o) (upd F p o) z :=
  ok.step (same_upd (ok.freshF hp)) (tgk_newF (ok.freshF hp) nt) (same_upd2 ok.sub) (fun a q => by
    obtain ⟨vs, e, e2, _⟩ := ok.ownH q
    exact ⟨upd_ne (ne_of_none e hp), by rw [upd_ne (ne_of_none e hp)]; exact e2⟩) (fun a q => by
    have n : a ≠ p := fun e => ok.freshM hp (e ▸ q)
    exact ⟨upd_ne n, by rw [upd_ne n]; exact ok.msF a q⟩) (fun b u q => by
    obtain ⟨h1, h2⟩ := ok.fr b u q
    have n := ne_of_none h1 hp
    exact ⟨by rw [upd_ne n]; exact h1, by rw [upd_ne n]; exact h2⟩)
/-- a list that no slot owns is frozen -/
theorem Ok.frz (ok : Ok M G σ H F z) {a : Addr} {vs : List V} (ha : H a = some (.lst vs)) (hF : F a = none) (hP : G.P a = none) (hm : a ∉ G.ms) (ho : ¬ Owned σ z a) : Ok M G σ H (upd F a (.lst vs)) z :=
  ok.step (same_upd hF) (tgk_frz hF lstNT) (fun b u q n => by
    by_cases e : b = a
    · subst e
      rw [upd_same] at q
      rw [ha]
      exact q
    · rw [upd_ne e] at q
      exact ok.sub b u q n) (fun b q => by
    obtain ⟨_, _, e2, _⟩ := ok.ownH q
    have n : b ≠ a := fun e => ho (e ▸ q)
    exact ⟨rfl, by rw [upd_ne n]; exact e2⟩) (fun b q => by
    have n : b ≠ a := fun e => hm (e ▸ q)
    exact ⟨rfl, by rw [upd_ne n]; exact ok.msF b q⟩) (fun b u q => by
    obtain ⟨h1, h2⟩ := ok.fr b u q
    have n : b ≠ a := fun e => by rw [e, hP] at q; cases q
    exact ⟨h1, by rw [upd_ne n]; exact h2⟩)
/-- a slot is stored -/
theorem Ok.set (ok : Ok M G σ H F z) {i : Nat} {v : V} {s : S} (hv : SV G F H v s) (hs : ∀ xs, s = .l xs → ∀ a, v = .ref a → ¬ Owned σ z a) : Ok M G (σ.set i (some v)) H F { z with rho := z.rho.set i (some s) } where
  sub := ok.sub
  len := by simp [ok.len]
  slot := fun j t e => by
    by_cases hj : j = i
    · subst hj
      by_cases hl : j < z.rho.length
      · have e2 : (z.rho.set j (some s))[j]? = some (some s) := List.getElem?_set_self hl
        have e' : (z.rho.set j (some s))[j]? = some (some t) := e
        rw [e2] at e'
        cases e'
        exact ⟨v, List.getElem?_set_self (by rw [← ok.len]; exact hl), hv⟩
      · have e' : (z.rho.set j (some s))[j]? = some (some t) := e
        rw [List.getElem?_eq_none (by simp; omega)] at e'
        cases e'
    · have e' : (z.rho.set i (some s))[j]? = some (some t) := e
      rw [List.getElem?_set_ne (Ne.symm hj)] at e'
      obtain ⟨w, h1, h2⟩ := ok.slot j t e'
      exact ⟨w, by rw [List.getElem?_set_ne (Ne.symm hj)]; exact h1, h2⟩
  dist := fun j k xs ys w e1 e2 e3 e4 => by
    have e1' : (z.rho.set i (some s))[j]? = some (some (.l xs)) := e1
    have e2' : (z.rho.set i (some s))[k]? = some (some (.l ys)) := e2
    have lt : ∀ {n : Nat} {t : Option S}, (z.rho.set i (some s))[n]? = some t → n < z.rho.length := fun {n t} q => by
      have := (List.getElem?_eq_some_iff.mp q).1
      simpa using this
    have hit : ∀ {n m : Nat} {xs ys : List D}, n = i → m ≠ i → (z.rho.set i (some s))[n]? = some (some (.l xs)) → (z.rho.set i (some s))[m]? = some (some (.l ys)) → (σ.set i (some v))[n]? = some (some w) → (σ.set i (some v))[m]? = some (some w) → False := fun {n m xs ys} hn hm q1 q2 q3 q4 => by
      subst hn
      have hl := lt q1
      rw [List.getElem?_set_self hl] at q1
      rw [List.getElem?_set_self (by rw [← ok.len]; exact hl)] at q3
      rw [List.getElem?_set_ne (Ne.symm hm)] at q2 q4
      cases q1
      cases q3
      obtain ⟨u, h1, a, vs, rfl, h2⟩ := ok.slot m _ q2
      rw [q4] at h1
      cases h1
      exact hs _ rfl a rfl ⟨m, ys, q2, q4⟩
    by_cases hj : j = i
    · by_cases hk : k = i
      · rw [hj, hk]
      · exact (hit hj hk e1' e2' e3 e4).elim
    · by_cases hk : k = i
      · exact (hit hk hj e2' e1' e4 e3).elim
      · rw [List.getElem?_set_ne (Ne.symm hj)] at e1' e3
        rw [List.getElem?_set_ne (Ne.symm hk)] at e2' e4
        exact ok.dist j k xs ys w e1' e2' e3 e4
  mach := ok.mach
  msF := ok.msF
  msP := ok.msP
  msH := ok.msH
  fr := ok.fr
  tg := ok.tg
end
end G
namespace G
open PySem L2

abbrev Sm (M : MI) (α : Type) := Z M.T → Rs α (Z M.T)
def XOk (G : Gx) (F H : Hp) (x : Xc) (cls : Value) (d : Option Addr) : Prop := G.xr x.c = some cls ∧ match x.arg with
  | none => d = none
  | some a => ∃ dd v, d = some dd ∧ H dd = some (.xd [(("at" : Str), v)]) ∧ Da G.K F v a
def HitG {α β : Type} (M : MI) (G : Gx) (W : WX) (σ : St) (F : Hp) (R : α → β → Hp → Hp → Z M.T → Prop) (r : Rs α (Z M.T)) (Q : β → Hp → Prop) : Prop := match r with
  | .ok a z => ∀ b H' F', Same F F' → Ok M G σ H' F' z → R a b F' H' z → Q b H'
  | .ex x z => ∀ cls d H' F', Same F F' → Ok M G σ H' F' z → XOk G F' H' x cls d → W cls d σ H'
  | .bad => False
def RelE {M : MI} (G : Gx) (σ : St) : S → V → Hp → Hp → Z M.T → Prop := fun s v F H z => EV G σ F H z v s
def RelO {M : MI} (G : Gx) (σ : St) : S → V → Hp → Hp → Z M.T → Prop := fun s v F _ _ => EO G σ F v s
def RelB {M : MI} (_ : Gx) (_ : St) : Bool → Bool → Hp → Hp → Z M.T → Prop := fun b c _ _ _ => c = b
def RelA {M : MI} (G : Gx) (σ : St) : List S → List V → Hp → Hp → Z M.T → Prop := fun ss vs F _ _ => Paired (fun v s => EO G σ F v s) vs ss
def RelI {M : MI} (_ : Gx) (_ : St) : Option Int → Option Int → Hp → Hp → Z M.T → Prop := fun b c _ _ _ => c = b
def Cmp {α β : Type} (M : MI) (K : PySem.W.Frag) (xr : Str → Option Value) (W : WX) (t : St → Hp → (β → Hp → Prop) → Prop) (Rel : Gx → St → α → β → Hp → Hp → Z M.T → Prop) (f : Sm M α) : Prop :=
  ∀ (G : Gx) (σ : St) (H F : Hp) (z : Z M.T) (Q : β → Hp → Prop), G.K = K → G.xr = xr → Ok M G σ H F z → HitG M G W σ F (Rel G σ) (f z) Q → t σ H Q

section
variable {M : MI} {G : Gx} {W : WX} {σ : St} {H H' F F' : Hp} {z : Z M.T}
theorem HitG.mono {α β : Type} {R : α → β → Hp → Hp → Z M.T → Prop} {r : Rs α (Z M.T)} {Q : β → Hp → Prop} (h : HitG M G W σ F R r Q) (s : Same F F') : HitG M G W σ F' R r Q := by
  cases r with
  | ok a z => exact fun b H' F1 s1 ok rr => h b H' F1 (s.trans s1) ok rr
  | ex x z => exact fun cls d H' F1 s1 ok xo => h cls d H' F1 (s.trans s1) ok xo
  | bad => exact h
theorem hit_bind {α β α' β' : Type} {R1 : α → β → Hp → Hp → Z M.T → Prop} {R2 : α' → β' → Hp → Hp → Z M.T → Prop} {r : Rs α (Z M.T)} {k : α → Z M.T → Rs α' (Z M.T)} {Q : β' → Hp → Prop} {Q1 : β → Hp → Prop}
    (h : HitG M G W σ F R2 (r.bind k) Q) (hk : ∀ a z1 b H1 F1, r = .ok a z1 → Same F F1 → Ok M G σ H1 F1 z1 → R1 a b F1 H1 z1 → HitG M G W σ F1 R2 (k a z1) Q → Q1 b H1) : HitG M G W σ F R1 r Q1 := by
  cases r with
  | ok a z => exact fun b H' F1 s1 ok rr => hk a z b H' F1 rfl s1 ok rr (HitG.mono h s1)
  | ex x z => exact h
  | bad => exact h

/-! ### operands -/
def opd (f : Sm M S) : Sm M S := fun z => (f z).bind fun s z1 => .ok (match s with | .l xs => .d (.lst xs) | s => s) z1
def escS (s : S) (z : Z M.T) : Rs S (Z M.T) := match s with
  | .d x => .ok (.d x) z
  | .l xs => .ok (.d (.lst xs)) z
  | .m j => .ok (.m j) z
  | .v i => match z.rho[i]? with
    | some (some (.l xs)) => .ok (.d (.lst xs)) { z with rho := z.rho.set i (some (.d (.lst xs))) }
    | some (some (.d x)) => .ok (.d x) z
    | _ => .bad
def escf (f : Sm M S) : Sm M S := fun z => (f z).bind escS
theorem EV.frz (ok : Ok M G σ H F z) {v : V} {xs : List D} (e : EV G σ F H z v (.l xs)) : ∃ F', Same F F' ∧ Ok M G σ H F' z ∧ Da G.K F' v (.lst xs) := by
  obtain ⟨a, vs, rfl, h1, h2, h3, h4, h5, h6⟩ := e
  exact ⟨upd F a (.lst vs), same_upd h3, ok.frz h1 h3 h4 h5 h6, .lst upd_same (h2.mono (same_upd h3))⟩
theorem cmp_opd {K : PySem.W.Frag} {xr : Str → Option Value} {t : TE} {f : Sm M S} (hf : Cmp M K xr W t RelE f) : Cmp M K xr W t RelO (opd f) := by
  intro G σ H F z Q hK hx ok h
  refine hf G σ H F z Q hK hx ok (hit_bind h fun s z1 v H1 F1 _ sm ok1 ev h1 => ?_)
  cases s with
  | d x => exact h1 v H1 F1 (Same.refl _) ok1 ev
  | l xs =>
    obtain ⟨F2, s2, ok2, da⟩ := EV.frz ok1 ev
    exact h1 v H1 F2 s2 ok2 da
  | v i => exact h1 v H1 F1 (Same.refl _) ok1 ev
  | m j => exact h1 v H1 F1 (Same.refl _) ok1 ev
/-- a slot's list is frozen for good -/
theorem Ok.frzSlot (ok : Ok M G σ H F z) {i : Nat} {xs : List D} {v : V} (h : z.rho[i]? = some (some (.l xs))) (hv : σ[i]? = some (some v)) :
    ∃ F', Same F F' ∧ Ok M G σ H F' { z with rho := z.rho.set i (some (.d (.lst xs))) } ∧ Da G.K F' v (.lst xs) := by
  obtain ⟨w, e, a, vs, rfl, h1, h2, h3, h4, h5⟩ := ok.slot i _ h
  rw [hv] at e
  cases e
  have hl : i < z.rho.length := (List.getElem?_eq_some_iff.mp h).1
  have ok1 : Ok M G (σ.set i (some .non)) H F { z with rho := z.rho.set i (some (.d .non)) } := ok.set (v := .non) (s := .d .non) Da.non (fun _ e => by cases e)
  have no : ¬ Owned (σ.set i (some .non)) { z with rho := z.rho.set i (some (.d .non)) } a := fun ⟨j, ys, e1, e2⟩ => by
    by_cases hj : j = i
    · subst hj
      have e1' : (z.rho.set j (some (.d .non)))[j]? = some (some (.l ys)) := e1
      rw [List.getElem?_set_self hl] at e1'
      cases e1'
    · have e1' : (z.rho.set i (some (.d .non)))[j]? = some (some (.l ys)) := e1
      rw [List.getElem?_set_ne (Ne.symm hj)] at e1' e2
      exact hj (ok.dist j i ys xs _ e1' h e2 hv)
  have ok2 := ok1.frz h1 h3 h4 h5 no
  have da : Da G.K (upd F a (.lst vs)) (.ref a) (.lst xs) := .lst upd_same (h2.mono (same_upd h3))
  have ok3 := ok2.set (i := i) (v := .ref a) (s := .d (.lst xs)) da (fun _ e => by cases e)
  have e1 : (σ.set i (some V.non)).set i (some (.ref a)) = σ := by
    rw [List.set_set]
    exact List.ext_getElem? fun n => by
      by_cases hn : n = i
      · subst hn
        rw [List.getElem?_set_self (by rw [← ok.len]; exact hl), hv]
      · rw [List.getElem?_set_ne (Ne.symm hn)]
  rw [e1] at ok3
  have e2 : ({ rho := (z.rho.set i (some (.d .non))).set i (some (.d (.lst xs))), m := z.m } : Z M.T) = { z with rho := z.rho.set i (some (.d (.lst xs))) } := by rw [List.set_set]
  exact ⟨_, same_upd h3, by rw [← e2]; exact ok3, da⟩
theorem cmp_esc {K : PySem.W.Frag} {xr : Str → Option Value} {t : TE} {f : Sm M S} (hf : Cmp M K xr W t RelE f) : Cmp M K xr W t RelO (escf f) := by
  intro G σ H F z Q hK hx ok h
  refine hf G σ H F z Q hK hx ok (hit_bind h fun s z1 v H1 F1 _ sm ok1 ev h1 => ?_)
  cases s with
  | d x => exact h1 v H1 F1 (Same.refl _) ok1 ev
  | l xs =>
    obtain ⟨F2, s2, ok2, da⟩ := EV.frz ok1 ev
    exact h1 v H1 F2 s2 ok2 da
  | m j => exact h1 v H1 F1 (Same.refl _) ok1 ev
  | v i =>
    have ev' : σ[i]? = some (some v) := ev
    simp only [escS] at h1
    split at h1
    · rename_i xs hs
      obtain ⟨F2, s2, ok2, da⟩ := ok1.frzSlot hs ev'
      exact h1 v H1 F2 s2 ok2 da
    · rename_i x hs
      obtain ⟨w, e, q⟩ := ok1.slot i _ hs
      rw [ev'] at e
      cases e
      exact h1 v H1 F1 (Same.refl _) ok1 q
    · exact h1.elim
/-- what an operand reads as -/
def rd {T : Type} (z : Z T) : S → Option D
  | .d x => some x
  | .l xs => some (.lst xs)
  | .v i => match z.rho[i]? with
    | some (some (.d x)) => some x
    | some (some (.l xs)) => some (.lst xs)
    | _ => none
  | .m _ => none
def Rv (K : PySem.W.Frag) (F H : Hp) (v : V) (x : D) : Prop := Da K F v x ∨ ∃ a vs xs, v = .ref a ∧ x = .lst xs ∧ H a = some (.lst vs) ∧ DaAll K F vs xs
theorem EO.rv (ok : Ok M G σ H F z) {v : V} {s : S} {x : D} (e : EO G σ F v s) (h : rd z s = some x) : Rv G.K F H v x := by
  cases s with
  | d y => cases h; exact .inl e
  | l _ => exact e.elim
  | m _ => cases h
  | v i =>
    have e' : σ[i]? = some (some v) := e
    simp only [rd] at h
    split at h
    · rename_i y hs
      cases h
      obtain ⟨w, e1, q⟩ := ok.slot i _ hs
      rw [e'] at e1
      cases e1
      exact .inl q
    · rename_i xs hs
      cases h
      obtain ⟨w, e1, a, vs, rfl, h1, h2, _⟩ := ok.slot i _ hs
      rw [e'] at e1
      cases e1
      exact .inr ⟨a, vs, xs, rfl, rfl, h1, h2⟩
    · cases h

/-! ### results of operations -/
inductive R where
  | d (x : D)
  /-- a tuple, an old one or a new one -/
  | t (xs : List D)
  | l (xs : List D)
def R.toS : R → S
  | .d x => .d x
  | .t xs => .d (.tup xs)
  | .l xs => .l xs
def Hit0 (K : PySem.W.Frag) (F H : Hp) (r : Option R) (Q : VK) : Prop := match r with
  | some (.d y) => ∀ v, Da K F v y → Q v H
  | some (.t ys) => (∀ v, Da K F v (.tup ys) → Q v H) ∧ ∀ p vs, H p = none → DaAll K F vs ys → Q (.ref p) (upd H p (.tup vs))
  | some (.l ys) => ∀ p vs, H p = none → DaAll K F vs ys → Q (.ref p) (upd H p (.lst vs))
  | none => False
def fin (o : Option R) : Sm M S := fun z => match o with
  | some r => .ok r.toS z
  | none => .bad
theorem fin_hit (ok : Ok M G σ H F z) {o : Option R} {Q : VK} (h : HitG M G W σ F (RelE G σ) (fin o z) Q) : Hit0 G.K F H o Q := by
  cases o with
  | none => exact h
  | some r =>
    cases r with
    | d y => exact fun v hv => h v H F (Same.refl _) ok hv
    | t ys => exact ⟨fun v hv => h v H F (Same.refl _) ok hv, fun p vs hp hv => h (.ref p) (upd H p (.tup vs)) (upd F p (.tup vs)) (same_upd (ok.freshF hp)) (ok.newF hp _ tupNT) (.tup (SqT.of upd_same) (hv.mono (same_upd (ok.freshF hp))))⟩
    | l ys => exact fun p vs hp hv => h (.ref p) (upd H p (.lst vs)) F (Same.refl _) (ok.new hp _) ⟨p, vs, rfl, upd_same, hv, ok.freshF hp, ok.freshP hp, ok.freshM hp, ok.freshO hp⟩
def Op2 (K : PySem.W.Frag) (r : R2) (g : D → D → Option R) : Prop := ∀ (F H : Hp) (x y : V) (a b : D) (Q : VK), SameX F H → Rv K F H x a → Rv K F H y b → Hit0 K F H (g a b) Q → r x y H Q
def Op1 (K : PySem.W.Frag) (r : V → Hp → VK → Prop) (g : D → Option R) : Prop := ∀ (F H : Hp) (x : V) (a : D) (Q : VK), SameX F H → Rv K F H x a → Hit0 K F H (g a) Q → r x H Q
def OpN (K : PySem.W.Frag) (r : List V → Hp → VK → Prop) (g : List D → Option R) : Prop := ∀ (F H : Hp) (xs : List V) (as : List D) (Q : VK), SameX F H → Paired (Rv K F H) xs as → Hit0 K F H (g as) Q → r xs H Q
def Op1N (K : PySem.W.Frag) (r : V → List V → Hp → VK → Prop) (g : D → List D → Option R) : Prop := ∀ (F H : Hp) (x : V) (xs : List V) (a : D) (as : List D) (Q : VK), SameX F H → Rv K F H x a → Paired (Rv K F H) xs as → Hit0 K F H (g a as) Q → r x xs H Q

/-! ### the judgements -/
def DE {ι : Type} (M : MI) (xr : Str → Option Value) (K : PySem.W.Frag) (X : ι → Cx) (W : WX) (e : Expr) (f : Sm M S) : Prop := ∃ t, (∀ i, PE (X i) e t) ∧ Cmp M K xr W t RelE f
def DT {ι : Type} (M : MI) (xr : Str → Option Value) (K : PySem.W.Frag) (X : ι → Cx) (W : WX) (e : Expr) (f : Sm M Bool) : Prop := ∃ t, (∀ i, PT (X i) e t) ∧ Cmp M K xr W t RelB f
def DA {ι : Type} (M : MI) (xr : Str → Option Value) (K : PySem.W.Frag) (X : ι → Cx) (W : WX) (es : List Expr) (f : Sm M (List S)) : Prop := ∃ t, (∀ i, PA (X i) es t) ∧ Cmp M K xr W t RelA f
def DO {ι : Type} (M : MI) (xr : Str → Option Value) (K : PySem.W.Frag) (X : ι → Cx) (W : WX) (e : Option Expr) (f : Sm M (Option Int)) : Prop := ∃ t, (∀ i, PO (X i) e t) ∧ Cmp M K xr W t RelI f

/-! ### mirrors -/
def eVar (i : Nat) : Sm M S := fun z => match z.rho[i]? with
  | some (some (.l _)) => .ok (.v i) z
  | some (some s) => .ok s z
  | _ => .bad
def eC (x : D) : Sm M S := fun z => .ok (.d x) z
def rdf {α : Type} (g : D → Option α) (s : S) (z : Z M.T) : Option α := (rd z s).bind g
def eBin (g : D → D → Option R) (f f' : Sm M S) : Sm M S := fun z => (opd f z).bind fun s z1 => (opd f' z1).bind fun s' z2 => fin ((rd z2 s).bind fun x => (rd z2 s').bind fun y => g x y) z2
def eUn (g : D → Option R) (f : Sm M S) : Sm M S := fun z => (opd f z).bind fun s z1 => fin ((rd z1 s).bind g) z1
def tOf (f : Sm M S) : Sm M Bool := fun z => (f z).bind fun s z1 => match s with
  | .d (.bl b) => .ok b z1
  | _ => .bad
def tTru (g : D → Option Bool) (f : Sm M S) : Sm M Bool := fun z => (opd f z).bind fun s z1 => Rs.opt ((rd z1 s).bind g) z1
def tAndM (f g : Sm M Bool) : Sm M Bool := fun z => (f z).bind fun b z1 => if b = true then g z1 else .ok false z1
def tOrM (f g : Sm M Bool) : Sm M Bool := fun z => (f z).bind fun b z1 => if b = true then .ok true z1 else g z1
def tNotM (f : Sm M Bool) : Sm M Bool := fun z => (f z).bind fun b z1 => .ok (!b) z1
def eAndM (f g : Sm M S) : Sm M S := fun z => (tOf f z).bind fun b z1 => if b = true then g z1 else .ok (.d (.bl false)) z1
def eOrM (f g : Sm M S) : Sm M S := fun z => (tOf f z).bind fun b z1 => if b = true then .ok (.d (.bl true)) z1 else g z1
def eNotM (f : Sm M S) : Sm M S := fun z => (tOf f z).bind fun b z1 => .ok (.d (.bl (!b))) z1
def eIf (c : Sm M Bool) (f g : Sm M S) : Sm M S := fun z => (c z).bind fun b z1 => if b = true then f z1 else g z1
def aNil : Sm M (List S) := fun z => .ok [] z
def aCons (f : Sm M S) (g : Sm M (List S)) : Sm M (List S) := fun z => (f z).bind fun s z1 => (g z1).bind fun ss z2 => .ok (s :: ss) z2
def dsOf : List S → Option (List D)
  | [] => some []
  | .d x :: r => (dsOf r).bind fun xs => some (x :: xs)
  | _ :: _ => none
def lim : Nat := 1000000
theorem lim_line : lim < sizeLine := by rw [sizeLine_eq]; decide
def eTup (g : Sm M (List S)) : Sm M S := fun z => (g z).bind fun ss z1 => match dsOf ss with
  | some ds => if ds.length ≤ lim then .ok (.d (.tup ds)) z1 else .bad
  | none => .bad
def eLst (g : Sm M (List S)) : Sm M S := fun z => (g z).bind fun ss z1 => match dsOf ss with
  | some ds => if ds.length ≤ lim then .ok (.l ds) z1 else .bad
  | none => .bad
def rds {T : Type} (z : Z T) : List S → Option (List D)
  | [] => some []
  | s :: r => (rd z s).bind fun x => (rds z r).bind fun xs => some (x :: xs)
def eFn (g : List D → Option R) (f : Sm M (List S)) : Sm M S := fun z => (f z).bind fun ss z1 => fin ((rds z1 ss).bind g) z1
end
end G
namespace G
open PySem L2
section
variable {ι : Type} {M : MI} {xr : Str → Option Value} {X : ι → Cx} {W : WX} {K : PySem.W.Frag}

theorem cmp_var {i : Nat} : Cmp M K xr W (tVar i) RelE (eVar i) := by
  intro G σ H F z Q _ _ ok h
  unfold eVar at h
  split at h
  · rename_i xs hs
    obtain ⟨v, e, _⟩ := ok.slot i _ hs
    exact ⟨v, e, h v H F (Same.refl _) ok e⟩
  · rename_i s hn hs
    obtain ⟨v, e, q⟩ := ok.slot i _ hs
    refine ⟨v, e, h v H F (Same.refl _) ok ?_⟩
    cases s with
    | d x => exact q
    | l xs => exact (hn xs rfl).elim
    | v j => exact q.elim
    | m j => exact q
  · exact h.elim
theorem de_var (i : Nat) {x : Str} {pos : Pos} (hN : ∀ j, (X j).N[i]? = some x := by intro _; rfl) (hv : ∀ j, Vis (X j).env.scope x := by first | exact fun _ => Or.inl rfl | exact fun _ => Or.inr (Or.inl rfl) | exact fun _ => Or.inr (Or.inr rfl)) (hd : (x == ("__debug__" : Str)) = false := by decide)
    (hcd : (x == ("__classdict__" : Str)) = false := by decide) : DE M xr K X W (.Name x pos) (eVar i) := ⟨_, fun j => pe_var (hN j) (hv j) hd hcd, cmp_var⟩
theorem cmp_c {v : V} {d : D} (hd : ∀ F, Da K F v d) : Cmp M K xr W (tC v) RelE (eC d) := fun G σ H F z Q hK _ ok h => h v H F (Same.refl _) ok (by subst hK; exact hd F)
theorem de_int {i j pos} : DE M xr K X W (.Constant (.int i) j pos) (eC (.int i)) := ⟨_, fun _ => pe_int, cmp_c fun _ => .int i⟩
theorem de_str {i j pos} : DE M xr K X W (.Constant (.str i) j pos) (eC (.str i)) := ⟨_, fun _ => pe_str, cmp_c fun _ => .str _⟩
theorem de_bl {i j pos} : DE M xr K X W (.Constant (.bool i) j pos) (eC (.bl i)) := ⟨_, fun _ => pe_bl, cmp_c fun _ => .bl i⟩
theorem de_non {j pos} : DE M xr K X W (.Constant .none j pos) (eC .non) := ⟨_, fun _ => pe_non, cmp_c fun _ => .non⟩
theorem de_glob {x : Str} {v : V} {u : Value} {d : D} {pos : Pos} (hg : ∀ j, Gl (X j) x) (hm : ∀ j, (X j).mg x = some u) (r : RelV v u) (hd : ∀ F, Da K F v d) (hb : (x == ("__debug__" : Str)) = false := by decide) : DE M xr K X W (.Name x pos) (eC d) := ⟨_, fun j => pe_glob (hg j) (hm j) r hb, cmp_c hd⟩

/-! ### operators -/
theorem cmp_bin {r : R2} {g : D → D → Option R} {ta tb : TE} {f f' : Sm M S} (hd : Op2 K r g) (ha : Cmp M K xr W ta RelE f) (hb : Cmp M K xr W tb RelE f') : Cmp M K xr W (tOp r ta tb) RelE (eBin g f f') := by
  intro G σ H F z Q hK hx ok h
  refine cmp_opd ha G σ H F z _ hK hx ok (hit_bind h fun s z1 v H1 F1 _ sm1 ok1 e1 h1 => ?_)
  refine cmp_opd hb G σ H1 F1 z1 _ hK hx ok1 (hit_bind h1 fun s' z2 v' H2 F2 _ sm2 ok2 e2 h2 => ?_)
  have q := fin_hit ok2 h2
  subst hK
  cases ea : rd z2 s with
  | none => rw [ea] at q; exact q.elim
  | some x =>
    cases eb : rd z2 s' with
    | none => rw [ea, eb] at q; exact q.elim
    | some y =>
      rw [ea, eb] at q
      exact hd F2 H2 v v' x y Q ok2.sub (EO.rv ok2 (EO.mono sm2 e1) ea) (EO.rv ok2 e2 eb) q
theorem de_bin {op : Operator} {r : R2} {g : D → D → Option R} {a b : Expr} {f f' : Sm M S} {pos : Pos} (ho : ∀ j, OpR (X j) (binaryOp op) r) (hd : Op2 K r g) (ha : DE M xr K X W a f) (hb : DE M xr K X W b f') : DE M xr K X W (.BinOp a op b pos) (eBin g f f') := by
  obtain ⟨ta, pa, ca⟩ := ha
  obtain ⟨tb, pb, cb⟩ := hb
  exact ⟨_, fun j => pe_op (ho j) (pa j) (pb j), cmp_bin hd ca cb⟩
theorem de_cmp {op : CmpOp} {r : R2} {g : D → D → Option R} {a b : Expr} {f f' : Sm M S} {pos : Pos} (ho : ∀ j, OpR (X j) (compareOp op) r) (hd : Op2 K r g) (ha : DE M xr K X W a f) (hb : DE M xr K X W b f') (hm : behindInMarks op b = false) : DE M xr K X W (.Compare a [op] [b] pos) (eBin g f f') := by
  obtain ⟨ta, pa, ca⟩ := ha
  obtain ⟨tb, pb, cb⟩ := hb
  exact ⟨_, fun j => pe_cmpR (ho j) (pa j) (pb j) hm, cmp_bin hd ca cb⟩
theorem cmp_tOf {t : TE} {f : Sm M S} (h : Cmp M K xr W t RelE f) : Cmp M K xr W (tTest t) RelB (tOf f) := by
  intro G σ H F z Q hK hx ok hh
  refine h G σ H F z _ hK hx ok (hit_bind hh fun s z1 v H1 F1 _ sm1 ok1 e1 h1 => ?_)
  cases s with
  | d x =>
    cases x with
    | bl b =>
      cases (show Da G.K F1 v (.bl b) from e1)
      exact ⟨b, rfl, h1 b H1 F1 (Same.refl _) ok1 rfl⟩
    | _ => exact h1.elim
  | _ => exact h1.elim
theorem dt_cmp {op : CmpOp} {r : R2} {g : D → D → Option R} {a b : Expr} {f f' : Sm M S} {pos : Pos} (ho : ∀ j, OpR (X j) (compareOp op) r) (hd : Op2 K r g) (ha : DE M xr K X W a f) (hb : DE M xr K X W b f') (hm : behindInMarks op b = false) : DT M xr K X W (.Compare a [op] [b] pos) (tOf (eBin g f f')) := by
  obtain ⟨ta, pa, ca⟩ := ha
  obtain ⟨tb, pb, cb⟩ := hb
  exact ⟨_, fun j => pt_cmpR (ho j) (pa j) (pb j) hm, cmp_tOf (cmp_bin hd ca cb)⟩
/-- an expression that gives a bool, as a test -/
theorem dt_val {e : Expr} {f : Sm M S} (h : DE M xr K X W e f) (he : ∀ j whole, isTrue e (X j).env whole = (do let v ← whole; standAt e.pos; holding [v] (truthy v)) := by intro _ _; rfl) : DT M xr K X W e (tOf f) := by
  obtain ⟨t, p, c⟩ := h
  exact ⟨_, fun j => pt_val (p j) (he j), cmp_tOf c⟩
theorem cmp_and {t u : TT} {f g : Sm M Bool} (h : Cmp M K xr W t RelB f) (h' : Cmp M K xr W u RelB g) : Cmp M K xr W (tAnd t u) RelB (tAndM f g) := by
  intro G σ H F z Q hK hx ok hh
  refine h G σ H F z _ hK hx ok (hit_bind hh fun b z1 c H1 F1 _ sm1 ok1 e1 h1 => ?_)
  cases (show c = b from e1)
  cases b with
  | true => exact h' G σ H1 F1 z1 Q hK hx ok1 h1
  | false => exact h1 false H1 F1 (Same.refl _) ok1 rfl
theorem cmp_or {t u : TT} {f g : Sm M Bool} (h : Cmp M K xr W t RelB f) (h' : Cmp M K xr W u RelB g) : Cmp M K xr W (tOr t u) RelB (tOrM f g) := by
  intro G σ H F z Q hK hx ok hh
  refine h G σ H F z _ hK hx ok (hit_bind hh fun b z1 c H1 F1 _ sm1 ok1 e1 h1 => ?_)
  cases (show c = b from e1)
  cases b with
  | false => exact h' G σ H1 F1 z1 Q hK hx ok1 h1
  | true => exact h1 true H1 F1 (Same.refl _) ok1 rfl
def DW {ι : Type} (M : MI) (xr : Str → Option Value) (K : PySem.W.Frag) (X : ι → Cx) (W : WX) (e : Expr) (f : Sm M Bool) : Prop := ∃ t, (∀ j, PW (X j) e t) ∧ Cmp M K xr W t RelB f
theorem dw_and1 {a : Expr} {f : Sm M Bool} {pos : Pos} (h : DT M xr K X W a f) : DW M xr K X W (.BoolOp .And [a] pos) f := by
  obtain ⟨t, p, c⟩ := h
  exact ⟨_, fun j => pw_and1 (p j), c⟩
theorem dw_or1 {a : Expr} {f : Sm M Bool} {pos : Pos} (h : DT M xr K X W a f) : DW M xr K X W (.BoolOp .Or [a] pos) f := by
  obtain ⟨t, p, c⟩ := h
  exact ⟨_, fun j => pw_or1 (p j), c⟩
theorem dw_and {a b : Expr} {r : List Expr} {f g : Sm M Bool} {pos : Pos} (h : DT M xr K X W a f) (h' : DW M xr K X W (.BoolOp .And (b :: r) pos) g) : DW M xr K X W (.BoolOp .And (a :: b :: r) pos) (tAndM f g) := by
  obtain ⟨t, p, c⟩ := h
  obtain ⟨t', p', c'⟩ := h'
  exact ⟨_, fun j => pw_and (p j) (p' j), cmp_and c c'⟩
theorem dw_or {a b : Expr} {r : List Expr} {f g : Sm M Bool} {pos : Pos} (h : DT M xr K X W a f) (h' : DW M xr K X W (.BoolOp .Or (b :: r) pos) g) : DW M xr K X W (.BoolOp .Or (a :: b :: r) pos) (tOrM f g) := by
  obtain ⟨t, p, c⟩ := h
  obtain ⟨t', p', c'⟩ := h'
  exact ⟨_, fun j => pw_or (p j) (p' j), cmp_or c c'⟩
theorem dt_w {e : Expr} {f : Sm M Bool} (h : DW M xr K X W e f) : DT M xr K X W e f := by
  obtain ⟨t, p, c⟩ := h
  exact ⟨_, fun j => (p j).pt, c⟩
theorem dt_not {a : Expr} {f : Sm M Bool} {pos : Pos} (h : DT M xr K X W a f) : DT M xr K X W (.UnaryOp .Not a pos) (tNotM f) := by
  obtain ⟨t, p, c⟩ := h
  refine ⟨_, fun j => pt_not (p j), fun G σ H F z Q hK hx ok hh => ?_⟩
  refine c G σ H F z _ hK hx ok (hit_bind hh fun b z1 c H1 F1 _ sm1 ok1 e1 h1 => ?_)
  cases (show c = b from e1)
  exact h1 _ H1 F1 (Same.refl _) ok1 rfl
/-! ### and, or, not as values (all but the last are bools) -/
theorem de_one {op} {a : Expr} {f : Sm M S} {pos : Pos} (h : DE M xr K X W a f) : DE M xr K X W (.BoolOp op [a] pos) f := by
  obtain ⟨t, p, c⟩ := h
  exact ⟨_, fun j => pe_one (p j), c⟩
theorem de_and {a b : Expr} {r : List Expr} {f g : Sm M S} {pos : Pos} (h : DE M xr K X W a f) (h' : DE M xr K X W (.BoolOp .And (b :: r) pos) g) : DE M xr K X W (.BoolOp .And (a :: b :: r) pos) (eAndM f g) := by
  obtain ⟨t, p, c⟩ := h
  obtain ⟨t', p', c'⟩ := h'
  refine ⟨_, fun j => pe_and (p j) (p' j), fun G σ H F z Q hK hx ok hh => ?_⟩
  refine cmp_tOf c G σ H F z (fun b H1 => if b = true then t' σ H1 Q else Q (.bl false) H1) hK hx ok (hit_bind hh fun b z1 c H1 F1 _ sm1 ok1 e1 h1 => ?_)
  cases (show c = b from e1)
  cases b with
  | true => exact c' G σ H1 F1 z1 Q hK hx ok1 h1
  | false => exact h1 (.bl false) H1 F1 (Same.refl _) ok1 (Da.bl false)
theorem de_or {a b : Expr} {r : List Expr} {f g : Sm M S} {pos : Pos} (h : DE M xr K X W a f) (h' : DE M xr K X W (.BoolOp .Or (b :: r) pos) g) : DE M xr K X W (.BoolOp .Or (a :: b :: r) pos) (eOrM f g) := by
  obtain ⟨t, p, c⟩ := h
  obtain ⟨t', p', c'⟩ := h'
  refine ⟨_, fun j => pe_or (p j) (p' j), fun G σ H F z Q hK hx ok hh => ?_⟩
  refine cmp_tOf c G σ H F z (fun b H1 => if b = true then Q (.bl true) H1 else t' σ H1 Q) hK hx ok (hit_bind hh fun b z1 c H1 F1 _ sm1 ok1 e1 h1 => ?_)
  cases (show c = b from e1)
  cases b with
  | false => exact c' G σ H1 F1 z1 Q hK hx ok1 h1
  | true => exact h1 (.bl true) H1 F1 (Same.refl _) ok1 (Da.bl true)
theorem de_not {a : Expr} {f : Sm M S} {pos : Pos} (h : DE M xr K X W a f) : DE M xr K X W (.UnaryOp .Not a pos) (eNotM f) := by
  obtain ⟨t, p, c⟩ := h
  refine ⟨_, fun j => pe_not (p j), fun G σ H F z Q hK hx ok hh => ?_⟩
  refine cmp_tOf c G σ H F z (fun b H1 => Q (.bl (!b)) H1) hK hx ok (hit_bind hh fun b z1 c H1 F1 _ sm1 ok1 e1 h1 => ?_)
  cases (show c = b from e1)
  exact h1 (.bl (!b)) H1 F1 (Same.refl _) ok1 (Da.bl _)
theorem de_if {c a b : Expr} {fc : Sm M Bool} {f g : Sm M S} {pos : Pos} (hc : DT M xr K X W c fc) (h : DE M xr K X W a f) (h' : DE M xr K X W b g) : DE M xr K X W (.IfExp c a b pos) (eIf fc f g) := by
  obtain ⟨t, p, c0⟩ := hc
  obtain ⟨t1, p1, c1⟩ := h
  obtain ⟨t2, p2, c2⟩ := h'
  refine ⟨_, fun j => pe_ifExp (p j) (p1 j) (p2 j), fun G σ H F z Q hK hx ok hh => ?_⟩
  refine c0 G σ H F z _ hK hx ok (hit_bind hh fun b z1 c H1 F1 _ sm1 ok1 e1 h1 => ?_)
  cases (show c = b from e1)
  cases b with
  | true => exact c1 G σ H1 F1 z1 Q hK hx ok1 h1
  | false => exact c2 G σ H1 F1 z1 Q hK hx ok1 h1

/-! ### argument lists, displays -/
theorem da_nil : DA M xr K X W [] aNil := ⟨_, fun _ => pa_nil, fun G σ H F z Q _ _ ok h => h [] H F (Same.refl _) ok .nil⟩
theorem paired_mono {G : Gx} {σ : St} {F F' : Hp} (h : Same F F') : ∀ {vs : List V} {ss : List S}, Paired (fun v s => EO G σ F v s) vs ss → Paired (fun v s => EO G σ F' v s) vs ss
  | _, _, .nil => .nil
  | _, _, .cons a b => .cons (EO.mono h a) (paired_mono h b)
theorem cmp_cons {te : TE} {t : TA} {f : Sm M S} {g : Sm M (List S)} (c : Cmp M K xr W te RelO f) (c' : Cmp M K xr W t RelA g) : Cmp M K xr W (tCons te t) RelA (aCons f g) := by
  intro G σ H F z Q hK hx ok hh
  refine c G σ H F z _ hK hx ok (hit_bind hh fun s z1 v H1 F1 _ sm1 ok1 e1 h1 => ?_)
  refine c' G σ H1 F1 z1 _ hK hx ok1 (hit_bind h1 fun ss z2 vs H2 F2 _ sm2 ok2 e2 h2 => ?_)
  exact h2 (v :: vs) H2 F2 (Same.refl _) ok2 (.cons (EO.mono sm2 e1) e2)
/-- an argument that is only read -/
theorem da_rd {e : Expr} {es : List Expr} {f : Sm M S} {g : Sm M (List S)} (h : DE M xr K X W e f) (h' : DA M xr K X W es g) (hs : ∀ j, starEach (e :: es) (X j).env = (false, eval e (X j).env) :: starEach es (X j).env := by intro _; rfl) : DA M xr K X W (e :: es) (aCons (opd f) g) := by
  obtain ⟨t, p, c⟩ := h
  obtain ⟨t', p', c'⟩ := h'
  exact ⟨_, fun j => pa_cons (p j) (p' j) (hs j), cmp_cons (cmp_opd c) c'⟩
/-- an argument that is kept -/
theorem da_es {e : Expr} {es : List Expr} {f : Sm M S} {g : Sm M (List S)} (h : DE M xr K X W e f) (h' : DA M xr K X W es g) (hs : ∀ j, starEach (e :: es) (X j).env = (false, eval e (X j).env) :: starEach es (X j).env := by intro _; rfl) : DA M xr K X W (e :: es) (aCons (escf f) g) := by
  obtain ⟨t, p, c⟩ := h
  obtain ⟨t', p', c'⟩ := h'
  exact ⟨_, fun j => pa_cons (p j) (p' j) (hs j), cmp_cons (cmp_esc c) c'⟩
theorem paired_ds {G : Gx} {σ : St} {F : Hp} : ∀ {vs : List V} {ss : List S} {ds : List D}, Paired (fun v s => EO G σ F v s) vs ss → dsOf ss = some ds → DaAll G.K F vs ds
  | _, _, _, .nil, h => by cases h; exact .nil
  | _, s :: ss, ds, .cons a b, h => by
    cases s with
    | d x =>
      unfold dsOf at h
      cases e : dsOf ss with
      | none => rw [e] at h; cases h
      | some xs =>
        rw [e] at h
        cases h
        exact .cons a (paired_ds b e)
    | _ => cases h
theorem de_tup {es : List Expr} {g : Sm M (List S)} {x1 pos} (h : DA M xr K X W es g) : DE M xr K X W (.Tuple es x1 pos) (eTup g) := by
  obtain ⟨t, p, c⟩ := h
  refine ⟨_, fun j => pe_tup (p j), fun G σ H F z Q hK hx ok hh => ?_⟩
  refine c G σ H F z _ hK hx ok (hit_bind hh fun ss z1 vs H1 F1 _ sm1 ok1 e1 h1 => ?_)
  cases e : dsOf ss with
  | none => rw [e] at h1; exact h1.elim
  | some ds =>
    rw [e] at h1
    have da := paired_ds e1 e
    by_cases hl : ds.length ≤ lim
    · simp only [if_pos hl] at h1
      refine ⟨by rw [da.length]; exact Nat.le_trans hl (Nat.le_of_lt lim_line), fun p hp => ?_⟩
      exact h1 (.ref p) (upd H1 p (.tup vs)) (upd F1 p (.tup vs)) (same_upd (ok1.freshF hp)) (ok1.newF hp _ tupNT) (.tup (SqT.of upd_same) (da.mono (same_upd (ok1.freshF hp))))
    · simp only [if_neg hl] at h1
      exact h1.elim
theorem de_lst {es : List Expr} {g : Sm M (List S)} {pos} (h : DA M xr K X W es g) : DE M xr K X W (.List es pos) (eLst g) := by
  obtain ⟨t, p, c⟩ := h
  refine ⟨_, fun j => pe_lst (p j), fun G σ H F z Q hK hx ok hh => ?_⟩
  refine c G σ H F z _ hK hx ok (hit_bind hh fun ss z1 vs H1 F1 _ sm1 ok1 e1 h1 => ?_)
  cases e : dsOf ss with
  | none => rw [e] at h1; exact h1.elim
  | some ds =>
    rw [e] at h1
    have da := paired_ds e1 e
    by_cases hl : ds.length ≤ lim
    · simp only [if_pos hl] at h1
      refine ⟨by rw [da.length]; exact Nat.le_trans hl (Nat.le_of_lt lim_line), fun p hp => ?_⟩
      exact h1 (.ref p) (upd H1 p (.lst vs)) F1 (Same.refl _) (ok1.new hp _) ⟨p, vs, rfl, upd_same, da, ok1.freshF hp, ok1.freshP hp, ok1.freshM hp, ok1.freshO hp⟩
    · simp only [if_neg hl] at h1
      exact h1.elim

/-! ### built-in functions and classes by name -/
theorem paired_rv {G : Gx} {σ : St} {H F : Hp} {z : Z M.T} (ok : Ok M G σ H F z) : ∀ {vs : List V} {ss : List S} {ds : List D}, Paired (fun v s => EO G σ F v s) vs ss → rds z ss = some ds → Paired (Rv G.K F H) vs ds
  | _, _, _, .nil, h => by cases h; exact .nil
  | _, s :: ss, ds, .cons a b, h => by
    unfold rds at h
    cases e : rd z s with
    | none => rw [e] at h; cases h
    | some x =>
      cases e2 : rds z ss with
      | none => rw [e, e2] at h; cases h
      | some xs =>
        rw [e, e2] at h
        cases h
        exact .cons (EO.rv ok a e) (paired_rv ok b e2)
theorem cmp_fn {r : List V → Hp → VK → Prop} {g : List D → Option R} {t : TA} {f : Sm M (List S)} (hd : OpN K r g) (c : Cmp M K xr W t RelA f) : Cmp M K xr W (tCB r t) RelE (eFn g f) := by
  intro G σ H F z Q hK hx ok hh
  refine c G σ H F z _ hK hx ok (hit_bind hh fun ss z1 vs H1 F1 _ sm1 ok1 e1 h1 => ?_)
  have q := fin_hit ok1 h1
  subst hK
  cases e : rds z1 ss with
  | none => rw [e] at q; exact q.elim
  | some ds =>
    rw [e] at q
    exact hd F1 H1 vs ds Q ok1.sub (paired_rv ok1 e1 e) q
theorem de_callB {x : Str} {id : String} {r : List V → Hp → VK → Prop} {g : List D → Option R} {e : Expr} {es : List Expr} {f : Sm M (List S)} {p pos : Pos} (hc : ∀ j, CallR (X j) (.builtin id) r) (hd : OpN K r g) (hg : ∀ j, Gl (X j) x) (hm : ∀ j, (X j).mg x = none) (hv : bootBuiltins x = some (.builtin id))
    (h : DA M xr K X W (e :: es) f) (hn : x ≠ "__name__" := by decide) (hdb : (x == ("__debug__" : Str)) = false := by decide)
    (he : ∀ j, starEach (e :: es) (X j).env = (false, eval e (X j).env) :: starEach es (X j).env := by intro _; rfl) (hpl : ∀ j, (backTo pos (starEach es (X j).env)).any (·.1) = false := by intro _; rfl) : DE M xr K X W (.Call (.Name x p) (e :: es) [] pos) (eFn g f) := by
  obtain ⟨t, pa, c⟩ := h
  exact ⟨_, fun j => pe_callB (hc j) (hg j) (hm j) hv (pa j) hn hdb (he j) (hpl j), cmp_fn hd c⟩
theorem de_callTy {x : Str} {T : String} {r : List V → Hp → VK → Prop} {g : List D → Option R} {e : Expr} {es : List Expr} {f : Sm M (List S)} {p pos : Pos} (hc : ∀ j, CallR (X j) (.type T) r) (hd : OpN K r g) (hg : ∀ j, Gl (X j) x) (hm : ∀ j, (X j).mg x = none) (hv : bootBuiltins x = some (.type T))
    (h : DA M xr K X W (e :: es) f) (hn : x ≠ "__name__" := by decide) (hdb : (x == ("__debug__" : Str)) = false := by decide)
    (he : ∀ j, starEach (e :: es) (X j).env = (false, eval e (X j).env) :: starEach es (X j).env := by intro _; rfl) (hpl : ∀ j, (backTo pos (starEach es (X j).env)).any (·.1) = false := by intro _; rfl) : DE M xr K X W (.Call (.Name x p) (e :: es) [] pos) (eFn g f) := by
  obtain ⟨t, pa, c⟩ := h
  exact ⟨_, fun j => pe_callTy (hc j) (hg j) (hm j) hv (pa j) hn hdb (he j) (hpl j), cmp_fn hd c⟩

/-! ### subscripts -/
theorem de_ix {r : R2} {g : D → D → Option R} {a b : Expr} {f f' : Sm M S} {pos : Pos} (ho : ∀ j, IxR (X j) r) (hd : Op2 K r g) (ha : DE M xr K X W a f) (hb : DE M xr K X W b f') (hs : PlainIx b := by exact fun _ _ => rfl) : DE M xr K X W (.Subscript a b pos) (eBin g f f') := by
  obtain ⟨ta, pa, ca⟩ := ha
  obtain ⟨tb, pb, cb⟩ := hb
  exact ⟨_, fun j => pe_ix (ho j) (pa j) (pb j) hs, cmp_bin hd ca cb⟩
theorem do_none : DO M xr K X W none (fun z => .ok none z) := ⟨_, fun _ => po_none, fun G σ H F z Q _ _ ok h => h none H F (Same.refl _) ok rfl⟩
def oInt (f : Sm M S) : Sm M (Option Int) := fun z => (opd f z).bind fun s z1 => match s with
  | .d (.int i) => .ok (some i) z1
  | _ => .bad
theorem do_some {e : Expr} {f : Sm M S} (h : DE M xr K X W e f) : DO M xr K X W (some e) (oInt f) := by
  obtain ⟨t, p, c⟩ := h
  refine ⟨_, fun j => po_some (p j), fun G σ H F z Q hK hx ok hh => ?_⟩
  refine cmp_opd c G σ H F z _ hK hx ok (hit_bind hh fun s z1 v H1 F1 _ sm1 ok1 e1 h1 => ?_)
  cases s with
  | d x =>
    cases x with
    | int i =>
      cases (show Da G.K F1 v (.int i) from e1)
      exact ⟨i, rfl, h1 (some i) H1 F1 (Same.refl _) ok1 rfl⟩
    | _ => exact h1.elim
  | _ => exact h1.elim
def eSl (g : D → Option Int → Option Int → Option R) (f : Sm M S) (lo hi : Sm M (Option Int)) : Sm M S := fun z => (opd f z).bind fun s z1 => (lo z1).bind fun a z2 => (hi z2).bind fun b z3 => fin ((rd z3 s).bind fun x => g x a b) z3
def OpS (K : PySem.W.Frag) (r : V → Option Int → Option Int → Hp → VK → Prop) (g : D → Option Int → Option Int → Option R) : Prop := ∀ (F H : Hp) (x : V) (a : D) (lo hi : Option Int) (Q : VK), SameX F H → Rv K F H x a → Hit0 K F H (g a lo hi) Q → r x lo hi H Q
theorem de_slice {r : V → Option Int → Option Int → Hp → VK → Prop} {g : D → Option Int → Option Int → Option R} {e : Expr} {lo hi : Option Expr} {f : Sm M S} {fl fh : Sm M (Option Int)} {p2 pos : Pos} (hr : ∀ j, SlR (X j) r) (hd : OpS K r g) (h : DE M xr K X W e f) (hl : DO M xr K X W lo fl) (hh : DO M xr K X W hi fh) :
    DE M xr K X W (.Subscript e (.Slice lo hi none p2) pos) (eSl g f fl fh) := by
  obtain ⟨t, p, c⟩ := h
  obtain ⟨tl, pl, cl⟩ := hl
  obtain ⟨th, ph, ch⟩ := hh
  refine ⟨_, fun j => pe_slice (hr j) (p j) (pl j) (ph j), fun G σ H F z Q hK hx ok hh => ?_⟩
  refine cmp_opd c G σ H F z _ hK hx ok (hit_bind hh fun s z1 v H1 F1 _ sm1 ok1 e1 h1 => ?_)
  refine cl G σ H1 F1 z1 _ hK hx ok1 (hit_bind h1 fun a z2 a' H2 F2 _ sm2 ok2 e2 h2 => ?_)
  refine ch G σ H2 F2 z2 _ hK hx ok2 (hit_bind h2 fun b z3 b' H3 F3 _ sm3 ok3 e3 h3 => ?_)
  cases (show a' = a from e2)
  cases (show b' = b from e3)
  have q := fin_hit ok3 h3
  cases e : rd z3 s with
  | none => rw [e] at q; exact q.elim
  | some x =>
    rw [e] at q
    have hd' := hd F3 H3 v x a b Q
    rw [← hK] at hd'
    exact hd' ok3.sub (EO.rv ok3 (EO.mono (sm2.trans sm3) e1) e) q
/-! ### one operand: unary minus, isinstance .. -/
theorem cmp_un {r : V → Hp → VK → Prop} {g : D → Option R} {t : TE} {f : Sm M S} (hd : Op1 K r g) (c : Cmp M K xr W t RelE f) : Cmp M K xr W (tUn r t) RelE (eUn g f) := by
  intro G σ H F z Q hK hx ok hh
  refine cmp_opd c G σ H F z _ hK hx ok (hit_bind hh fun s z1 v H1 F1 _ sm1 ok1 e1 h1 => ?_)
  have q := fin_hit ok1 h1
  cases e : rd z1 s with
  | none => rw [e] at q; exact q.elim
  | some x =>
    rw [e] at q
    have hd' := hd F1 H1 v x Q
    rw [← hK] at hd'
    exact hd' ok1.sub (EO.rv ok1 e1 e) q
theorem de_un {op : UnaryOp} {r : V → Hp → VK → Prop} {g : D → Option R} {a : Expr} {f : Sm M S} {pos : Pos} (ho : ∀ j, UnR (X j) (unaryOp op) r) (hd : Op1 K r g) (h : DE M xr K X W a f) : DE M xr K X W (.UnaryOp op a pos) (eUn g f) := by
  obtain ⟨t, p, c⟩ := h
  exact ⟨_, fun j => pe_un (ho j) (p j), cmp_un hd c⟩
end
end G
namespace G
open PySem L2
theorem de_emp {ι : Type} {M : MI} {xr : Str → Option Value} {K : PySem.W.Frag} {X : ι → Cx} {W : WX} {pos : Pos} : DE M xr K X W (.Dict [] [] pos) (eC .emp) := by
  refine ⟨_, fun j => pe_dnewK, fun G σ H F z Q hK hx ok hh => fun p hp => ?_⟩
  exact hh (.ref p) (upd H p (.dK [])) (upd F p (.dK [])) (same_upd (ok.freshF hp)) (ok.newF hp _ (fun _ e => by cases e)) (.emp upd_same)
end G
namespace G
open PySem L2

inductive Out where
  | nx
  | rt (s : S)
  | bk
  | ct
structure RetOk (M : MI) (G : Gx) (F H : Hp) (t : M.T) (v : V) (s : S) : Prop where
  sub : SameX F H
  mach : M.ok G.K F H G.ms t
  msF : ∀ a ∈ G.ms, F a = none
  msH : ∀ a ∈ G.ms, H a ≠ none
  fr : ∀ b o, G.P b = some o → H b = some o ∧ F b = G.Fp b
  tg : ∀ a ps, F a = some (.tbl ps) → H a ≠ none ∧ G.P a = none
  val : SV G F H v s
def HitS (M : MI) (G : Gx) (W : WX) (F : Hp) (r : Rs Out (Z M.T)) (D : Ends) : Prop := match r with
  | .ok .nx z => ∀ σ H F', Same F F' → Ok M G σ H F' z → D.nx σ H
  | .ok .bk z => ∀ σ H F', Same F F' → Ok M G σ H F' z → D.bk σ H
  | .ok .ct z => ∀ σ H F', Same F F' → Ok M G σ H F' z → D.ct σ H
  | .ok (.rt s) z => ∀ v H F', Same F F' → RetOk M G F' H z.m v s → D.rt v H
  | .ex x z => ∀ cls d σ H F', Same F F' → Ok M G σ H F' z → XOk G F' H x cls d → W cls d σ H
  | .bad => False
def SR (M : MI) (K : PySem.W.Frag) (xr : Str → Option Value) (W : WX) (t : TS) (f : Sm M Out) : Prop :=
  ∀ (G : Gx) (σ : St) (H F : Hp) (z : Z M.T) (D : Ends), G.K = K → G.xr = xr → Ok M G σ H F z → HitS M G W F (f z) D → t D σ H
def DS {ι : Type} (M : MI) (xr : Str → Option Value) (K : PySem.W.Frag) (X : ι → Cx) (W : WX) (st : Stmt) (f : Sm M Out) : Prop := ∃ t, (∀ j, PS (X j) st t) ∧ SR M K xr W t f
def DSs {ι : Type} (M : MI) (xr : Str → Option Value) (K : PySem.W.Frag) (X : ι → Cx) (W : WX) (st : List Stmt) (f : Sm M Out) : Prop := ∃ t, (∀ j, PSs (X j) st t) ∧ SR M K xr W t f

section
variable {M : MI} {G : Gx} {W : WX} {σ : St} {H H' F F' : Hp} {z : Z M.T} {D : Ends}
theorem HitS.mono {r : Rs Out (Z M.T)} (h : HitS M G W F r D) (s : Same F F') : HitS M G W F' r D := by
  cases r with
  | ok o z =>
    cases o with
    | nx => exact fun σ H F1 s1 ok => h σ H F1 (s.trans s1) ok
    | bk => exact fun σ H F1 s1 ok => h σ H F1 (s.trans s1) ok
    | ct => exact fun σ H F1 s1 ok => h σ H F1 (s.trans s1) ok
    | rt q => exact fun v H F1 s1 ok => h v H F1 (s.trans s1) ok
  | ex x z => exact fun cls d σ H F1 s1 ok xo => h cls d σ H F1 (s.trans s1) ok xo
  | bad => exact h
/-- an expression ahead of a statement's end -/
theorem hits_bind {α β : Type} {R1 : α → β → Hp → Hp → Z M.T → Prop} {r : Rs α (Z M.T)} {k : α → Z M.T → Rs Out (Z M.T)} {Q1 : β → Hp → Prop}
    (h : HitS M G W F (r.bind k) D) (hk : ∀ a z1 b H1 F1, r = .ok a z1 → Same F F1 → Ok M G σ H1 F1 z1 → R1 a b F1 H1 z1 → HitS M G W F1 (k a z1) D → Q1 b H1) : HitG M G W σ F R1 r Q1 := by
  cases r with
  | ok a z => exact fun b H' F1 s1 ok rr => hk a z b H' F1 rfl s1 ok rr (HitS.mono h s1)
  | ex x z => exact fun cls d H' F1 s1 ok xo => h cls d σ H' F1 s1 ok xo
  | bad => exact h
end

section
variable {ι : Type} {M : MI} {xr : Str → Option Value} {X : ι → Cx} {W : WX} {K : PySem.W.Frag}
/-! ### blocks -/
def sNil : Sm M Out := fun z => .ok .nx z
def sSeq (f g : Sm M Out) : Sm M Out := fun z => (f z).bind fun o z1 => match o with
  | .nx => g z1
  | o => .ok o z1
theorem dss_nil : DSs M xr K X W [] sNil := ⟨_, fun _ => pss_nil, fun G σ H F z D _ _ ok h => h σ H F (Same.refl _) ok⟩
theorem dss_one {st : Stmt} {f : Sm M Out} (h : DS M xr K X W st f) : DSs M xr K X W [st] f := by
  obtain ⟨t, p, c⟩ := h
  exact ⟨_, fun j => pss_one (p j), c⟩
theorem dss_cons {st : Stmt} {r : List Stmt} {f g : Sm M Out} (h : DS M xr K X W st f) (h' : DSs M xr K X W r g) : DSs M xr K X W (st :: r) (sSeq f g) := by
  obtain ⟨t, p, c⟩ := h
  obtain ⟨t', p', c'⟩ := h'
  refine ⟨_, fun j => pss_cons (p j) (p' j), fun G σ H F z D hK hx ok hh => ?_⟩
  refine c G σ H F z { D with nx := t' D } hK hx ok ?_
  unfold sSeq at hh
  cases e : f z with
  | ok o z1 =>
    rw [e] at hh
    cases o with
    | nx => exact fun σ1 H1 F1 s1 ok1 => c' G σ1 H1 F1 z1 D hK hx ok1 (HitS.mono hh s1)
    | bk => exact hh
    | ct => exact hh
    | rt q => exact hh
  | ex x z1 => rw [e] at hh; exact hh
  | bad => rw [e] at hh; exact hh
theorem ds_pass {pos : Pos} : DS M xr K X W (.Pass pos) sNil := ⟨_, fun _ => ps_pass, fun G σ H F z D _ _ ok h => h σ H F (Same.refl _) ok⟩
theorem ds_doc {x j pos pos'} : DS M xr K X W (.Expr (.Constant (.str x) j pos) pos') sNil := ⟨_, fun _ => ps_doc, fun G σ H F z D _ _ ok h => h σ H F (Same.refl _) ok⟩
theorem ds_break {pos : Pos} : DS M xr K X W (.Break pos) (fun z => .ok .bk z) := ⟨_, fun _ => ps_break, fun G σ H F z D _ _ ok h => h σ H F (Same.refl _) ok⟩
theorem ds_continue {pos : Pos} : DS M xr K X W (.Continue pos) (fun z => .ok .ct z) := ⟨_, fun _ => ps_continue, fun G σ H F z D _ _ ok h => h σ H F (Same.refl _) ok⟩
/-! ### stores -/
/-- a value that is stored: a second name of a slot's list freezes it -/
def una (f : Sm M S) : Sm M S := fun z => (f z).bind fun s z1 => match s with
  | .v i => escS (.v i) z1
  | s => .ok s z1
def RelU {M : MI} (G : Gx) (σ : St) : S → V → Hp → Hp → Z M.T → Prop := fun s v F H z => SV G F H v s ∧ ∀ xs, s = .l xs → ∀ a, v = .ref a → ¬ Owned σ z a
theorem cmp_una {t : TE} {f : Sm M S} (hf : Cmp M K xr W t RelE f) : Cmp M K xr W t RelU (una f) := by
  intro G σ H F z Q hK hx ok h
  refine hf G σ H F z Q hK hx ok (hit_bind h fun s z1 v H1 F1 _ sm ok1 ev h1 => ?_)
  cases s with
  | d x => exact h1 v H1 F1 (Same.refl _) ok1 ⟨ev, fun _ e => by cases e⟩
  | l xs =>
    obtain ⟨a, vs, rfl, q1, q2, q3, q4, q5, q6⟩ := ev
    exact h1 _ H1 F1 (Same.refl _) ok1 ⟨⟨a, vs, rfl, q1, q2, q3, q4, q5⟩, fun _ _ b e => by cases e; exact q6⟩
  | m j => exact h1 v H1 F1 (Same.refl _) ok1 ⟨ev, fun _ e => by cases e⟩
  | v i =>
    have ev' : σ[i]? = some (some v) := ev
    simp only [escS] at h1
    split at h1
    · rename_i xs hs
      obtain ⟨F2, s2, ok2, da⟩ := ok1.frzSlot hs ev'
      exact h1 v H1 F2 s2 ok2 ⟨da, fun _ e => by cases e⟩
    · rename_i x hs
      obtain ⟨w, e, q⟩ := ok1.slot i _ hs
      rw [ev'] at e
      cases e
      exact h1 v H1 F1 (Same.refl _) ok1 ⟨q, fun _ e => by cases e⟩
    · exact h1.elim
def sSet (i : Nat) (f : Sm M S) : Sm M Out := fun z => (una f z).bind fun s z1 => .ok .nx { z1 with rho := z1.rho.set i (some s) }
theorem sr_set {i : Nat} {te : TE} {f : Sm M S} (c : Cmp M K xr W te RelE f) : SR M K xr W (tAsg te (gName i)) (sSet i f) := by
  intro G σ H F z D hK hx ok hh
  refine cmp_una c G σ H F z _ hK hx ok (hits_bind hh fun s z1 v H1 F1 _ sm ok1 ev h1 => ?_)
  exact h1 _ H1 F1 (Same.refl _) (ok1.set ev.1 ev.2)
theorem ds_set {i : Nat} {x : Str} {e : Expr} {f : Sm M S} {pos pos' : Pos} (hN : ∀ j, (X j).N.Nodup) (hi : ∀ j, (X j).N[i]? = some x) (hx : ∀ j, Loc (X j).env.scope x) (h : DE M xr K X W e f) (hs : ∀ j, swapsWith e (some (.Name x pos')) pos.line (X j).env = pure false := by intro _; rfl) (hf : ∀ j, (X j).fn x = true ∨ (X j).env.scope.names.lookup x = some .local := by first | exact fun _ => .inl rfl | exact fun _ => .inr rfl) :
    DS M xr K X W (.Assign [.Name x pos'] e pos) (sSet i f) := by
  obtain ⟨t, p, c⟩ := h
  exact ⟨_, fun j => ps_set (hN j) (hi j) (hx j) (p j) (hs j) (hf j), sr_set c⟩
/-! ### targets -/
/-- the slots but ts are as they were -/
def But (ts : List Nat) (σ σ' : St) : Prop := σ'.length = σ.length ∧ ∀ n, n ∉ ts → σ'[n]? = σ[n]?
theorem But.refl {ts : List Nat} {σ : St} : But ts σ σ := ⟨rfl, fun _ _ => rfl⟩
theorem But.trans {ts us : List Nat} {σ σ' σ'' : St} (a : But ts σ σ') (b : But us σ' σ'') : But (ts ++ us) σ σ'' := ⟨b.1.trans a.1, fun n hn => (b.2 n (fun h => hn (List.mem_append_right _ h))).trans (a.2 n (fun h => hn (List.mem_append_left _ h)))⟩
def GR (M : MI) (K : PySem.W.Frag) (ts : List Nat) (g : TG) (k : D → Z M.T → Option (Z M.T)) : Prop := ∀ (G : Gx) (σ : St) (H F : Hp) (z : Z M.T) (v : V) (x : D) (Q : St → Hp → Prop), G.K = K → Ok M G σ H F z → Da K F v x →
  (match k x z with | some z' => ∀ σ', But ts σ σ' → Ok M G σ' H F z' → Q σ' H | none => False) → g v σ H Q
def GRs (M : MI) (K : PySem.W.Frag) (ts : List Nat) (g : TGs) (k : List D → Z M.T → Option (Z M.T)) : Prop := ∀ (G : Gx) (σ : St) (H F : Hp) (z : Z M.T) (vs : List V) (xs : List D) (Q : St → Hp → Prop), G.K = K → Ok M G σ H F z → DaAll K F vs xs →
  (match k xs z with | some z' => ∀ σ', But ts σ σ' → Ok M G σ' H F z' → Q σ' H | none => False) → g vs σ H Q
def DG {ι : Type} (M : MI) (K : PySem.W.Frag) (X : ι → Cx) (ts : List Nat) (tg : Expr) (k : D → Z M.T → Option (Z M.T)) : Prop := ∃ g, (∀ j, PG (X j) tg g) ∧ GR M K ts g k
def DGs {ι : Type} (M : MI) (K : PySem.W.Frag) (X : ι → Cx) (ts : List Nat) (tg : List Expr) (k : List D → Z M.T → Option (Z M.T)) : Prop := ∃ g, (∀ j, PGs (X j) tg g) ∧ GRs M K ts g k
def kName (i : Nat) : D → Z M.T → Option (Z M.T) := fun x z => some { z with rho := z.rho.set i (some (.d x)) }
def ksNil : List D → Z M.T → Option (Z M.T) := fun xs z => match xs with
  | [] => some z
  | _ => none
def ksCons (k : D → Z M.T → Option (Z M.T)) (ks : List D → Z M.T → Option (Z M.T)) : List D → Z M.T → Option (Z M.T) := fun xs z => match xs with
  | x :: r => (k x z).bind fun z1 => ks r z1
  | [] => none
def kTup (n : Nat) (ks : List D → Z M.T → Option (Z M.T)) : D → Z M.T → Option (Z M.T) := fun x z => match x with
  | .tup xs => if xs.length = n then ks xs z else none
  | _ => none
theorem gr_name {i : Nat} : GR M K [i] (gName i) (kName i) := fun G σ H F z v x Q hK ok da h => h _ ⟨List.length_set, fun n hn => List.getElem?_set_ne (fun e => hn (by rw [← e]; exact List.mem_cons_self))⟩ (ok.set (s := .d x) (by subst hK; exact da) (fun _ e => by cases e))
theorem dg_name {i : Nat} {x : Str} {pos : Pos} (hN : ∀ j, (X j).N.Nodup) (hi : ∀ j, (X j).N[i]? = some x) (hx : ∀ j, Loc (X j).env.scope x) (hf : ∀ j, (X j).fn x = true ∨ (X j).env.scope.names.lookup x = some .local := by first | exact fun _ => .inl rfl | exact fun _ => .inr rfl) : DG M K X [i] (.Name x pos) (kName i) := ⟨_, fun j => pg_name (hN j) (hi j) (hx j) (hf j), gr_name⟩
theorem dgs_nil : DGs M K X [] [] ksNil := ⟨_, fun _ => pgs_nil, fun G σ H F z vs xs Q _ ok da h => by
  cases da with
  | nil => exact ⟨rfl, h σ But.refl ok⟩
  | cons _ _ => exact h.elim⟩
theorem dgs_cons {e : Expr} {es : List Expr} {k : D → Z M.T → Option (Z M.T)} {ks : List D → Z M.T → Option (Z M.T)} {ts us : List Nat} (h1 : DG M K X ts e k) (h2 : DGs M K X us es ks) (hs : ∀ j, (assignEach (e :: es) (X j).env).map (·.2) = assign e (X j).env :: (assignEach es (X j).env).map (·.2) := by intro _; rfl) : DGs M K X (ts ++ us) (e :: es) (ksCons k ks) := by
  obtain ⟨g, p, c⟩ := h1
  obtain ⟨g', p', c'⟩ := h2
  refine ⟨_, fun j => pgs_cons (p j) (p' j) (hs j), fun G σ H F z vs xs Q hK ok da h => ?_⟩
  cases da with
  | nil => exact h.elim
  | cons a b =>
    rename_i v vs d ds
    refine ⟨v, vs, rfl, c G σ H F z v d _ hK ok a ?_⟩
    unfold ksCons at h
    cases e : k d z with
    | none => simp only [e, Option.bind_none] at h
    | some z1 =>
      simp only [e, Option.bind_some] at h
      intro σ' b1 ok'
      refine c' G σ' H F z1 vs ds Q hK ok' b ?_
      cases e2 : ks ds z1 with
      | none => rw [e2] at h; exact h
      | some z2 => rw [e2] at h; exact fun σ2 b2 ok2 => h σ2 (b1.trans b2) ok2
theorem dg_tup {ts : List Nat} {es : List Expr} {k n : Nat} {ks : List D → Z M.T → Option (Z M.T)} {pos : Pos} (hK0 : ∀ j, (X j).K = K) (hc : ∀ j, (X j).calm = true) (h : DGs M K X ts es ks) (hn : ∀ j, (assignEach es (X j).env).length = n := by intro _; rfl) (hst : ∀ j, (assignEach es (X j).env).findIdx? (·.1) = none := by intro _; rfl) : DG M K X ts (.Tuple es k pos) (kTup n ks) := by
  obtain ⟨g, p, c⟩ := h
  refine ⟨gTup K n g, fun j => by rw [← hK0 j]; exact pg_tup (hc j) (p j) (hn j) (hst j), fun G σ H F z v x Q hK ok da h => ?_⟩
  cases x with
  | tup xs =>
    unfold kTup at h
    by_cases hl : xs.length = n
    · simp only [if_pos hl] at h
      cases da with
      | tup q r =>
        rename_i a vs
        exact ⟨a, vs, rfl, ok.sub.tup q, by rw [r.length]; exact hl, c G σ H F z vs xs Q hK ok r h⟩
    · simp only [if_neg hl] at h
  | _ => exact h.elim
def sAsg (f : Sm M S) (k : D → Z M.T → Option (Z M.T)) : Sm M Out := fun z => (escf f z).bind fun s z1 => match s with
  | .d x => Rs.opt ((k x z1).map fun z2 => (Out.nx, z2)) z1 |>.bind fun p _ => .ok p.1 p.2
  | _ => .bad
theorem ds_asg {ts : List Nat} {tg e : Expr} {f : Sm M S} {k : D → Z M.T → Option (Z M.T)} {pos : Pos} (h : DE M xr K X W e f) (hg : DG M K X ts tg k) (hs : ∀ j, swapsWithSole [tg] e pos.line (X j).env = pure false := by intro _; rfl) (hw : ∀ j, swappedStores [tg] e (X j).env = pure none := by intro _; rfl)
    (h1 : ∀ j, (assignEach [tg] (X j).env).map (·.2) = [assign tg (X j).env] := by intro _; rfl) : DS M xr K X W (.Assign [tg] e pos) (sAsg f k) := by
  obtain ⟨t, p, c⟩ := h
  obtain ⟨g, pg, cg⟩ := hg
  refine ⟨_, fun j => ps_asg (p j) (pg j) (hs j) (hw j) (h1 j), fun G σ H F z D hK hx ok hh => ?_⟩
  refine cmp_esc c G σ H F z _ hK hx ok (hits_bind hh fun s z1 v H1 F1 _ sm ok1 ev h2 => ?_)
  cases s with
  | d x =>
    refine cg G σ H1 F1 z1 v x D.nx hK ok1 (by rw [← hK]; exact ev) ?_
    cases e : k x z1 with
    | none => simp only [e] at h2; exact h2
    | some z2 =>
      simp only [e] at h2
      exact fun σ' _ ok' => h2 σ' H1 F1 (Same.refl _) ok'
  | _ => exact h2.elim
/-! ### the rest -/
def sRet (f : Sm M S) : Sm M Out := fun z => (f z).bind fun s z1 => match s with
  | .v i => (match z1.rho[i]? with
    | some (some (.l xs)) => .ok (.rt (.l xs)) z1
    | some (some (.d x)) => .ok (.rt (.d x)) z1
    | _ => .bad)
  | s => .ok (.rt s) z1
theorem Ok.ret {G : Gx} {σ : St} {H F : Hp} {z : Z M.T} (ok : Ok M G σ H F z) {v : V} {s : S} (h : SV G F H v s) : RetOk M G F H z.m v s := ⟨ok.sub, ok.mach, ok.msF, ok.msH, ok.fr, ok.tg, h⟩
theorem ds_ret {e : Expr} {f : Sm M S} {pos : Pos} (h : DE M xr K X W e f) : DS M xr K X W (.Return (some e) pos) (sRet f) := by
  obtain ⟨t, p, c⟩ := h
  refine ⟨_, fun j => ps_ret (p j), fun G σ H F z D hK hx ok hh => ?_⟩
  refine c G σ H F z _ hK hx ok (hits_bind hh fun s z1 v H1 F1 _ sm ok1 ev h2 => ?_)
  cases s with
  | d x => exact h2 v H1 F1 (Same.refl _) (ok1.ret (s := .d x) ev)
  | l xs =>
    obtain ⟨a, vs, rfl, q1, q2, q3, q4, q5, q6⟩ := ev
    exact h2 _ H1 F1 (Same.refl _) (ok1.ret (s := .l xs) ⟨a, vs, rfl, q1, q2, q3, q4, q5⟩)
  | m j => exact h2 v H1 F1 (Same.refl _) (ok1.ret (s := .m j) ev)
  | v i =>
    have ev' : σ[i]? = some (some v) := ev
    simp only at h2
    split at h2
    · rename_i xs hs
      obtain ⟨w, e, q⟩ := ok1.slot i _ hs
      rw [ev'] at e
      cases e
      exact h2 v H1 F1 (Same.refl _) (ok1.ret q)
    · rename_i x hs
      obtain ⟨w, e, q⟩ := ok1.slot i _ hs
      rw [ev'] at e
      cases e
      exact h2 v H1 F1 (Same.refl _) (ok1.ret q)
    · exact h2.elim
theorem ds_retN {pos : Pos} : DS M xr K X W (.Return none pos) (fun z => .ok (.rt (.d .non)) z) := ⟨_, fun _ => ps_retN, fun G σ H F z D _ _ ok h => h .non H F (Same.refl _) (ok.ret (s := .d .non) Da.non)⟩
def sExpr (f : Sm M S) : Sm M Out := fun z => (f z).bind fun _ z1 => .ok .nx z1
theorem ds_expr {e : Expr} {f : Sm M S} {pos : Pos} (h : DE M xr K X W e f) (hs : ∀ j, swapsWith e none pos.line (X j).env = pure false := by intro _; rfl) : DS M xr K X W (.Expr e pos) (sExpr f) := by
  obtain ⟨t, p, c⟩ := h
  refine ⟨_, fun j => ps_expr (p j) (hs j), fun G σ H F z D hK hx ok hh => ?_⟩
  exact c G σ H F z _ hK hx ok (hits_bind hh fun s z1 v H1 F1 _ sm ok1 ev h2 => h2 σ H1 F1 (Same.refl _) ok1)
def sIf (c : Sm M Bool) (f g : Sm M Out) : Sm M Out := fun z => (c z).bind fun b z1 => if b = true then f z1 else g z1
theorem ds_if {e : Expr} {a b : List Stmt} {c : Sm M Bool} {f g : Sm M Out} {pos : Pos} (hc : DT M xr K X W e c) (h : DSs M xr K X W a f) (h' : DSs M xr K X W b g) : DS M xr K X W (.If e a b pos) (sIf c f g) := by
  obtain ⟨t, p, c0⟩ := hc
  obtain ⟨t1, p1, c1⟩ := h
  obtain ⟨t2, p2, c2⟩ := h'
  refine ⟨_, fun j => ps_if (p j) (p1 j) (p2 j), fun G σ H F z D hK hx ok hh => ?_⟩
  refine c0 G σ H F z _ hK hx ok (hits_bind hh fun b z1 c H1 F1 _ sm ok1 e1 h1 => ?_)
  cases (show c = b from e1)
  cases b with
  | true => exact c1 G σ H1 F1 z1 D hK hx ok1 h1
  | false => exact c2 G σ H1 F1 z1 D hK hx ok1 h1
def sWhile (c : Sm M Bool) (b : Sm M Out) : Nat → Sm M Out
  | 0, _ => .bad
  | n + 1, z => (c z).bind fun t z1 => if t = true then (b z1).bind fun o z2 => (match o with
      | .nx => sWhile c b n z2
      | .ct => sWhile c b n z2
      | .bk => .ok .nx z2
      | .rt s => .ok (.rt s) z2) else .ok .nx z1
theorem ds_while {e : Expr} {body : List Stmt} {c : Sm M Bool} {f : Sm M Out} {pos : Pos} (n : Nat) (hp : ∀ j, PassesOwn (model (X j).prog (X j).w) (X j).A (X j).env (X j).xe) (hc : DT M xr K X W e c) (h : DSs M xr K X W body f) : DS M xr K X W (.While e body [] pos) (sWhile c f n) := by
  obtain ⟨t, p, c0⟩ := hc
  obtain ⟨t1, p1, c1⟩ := h
  refine ⟨_, fun j => ps_while (hp j) (p j) (p1 j), fun G σ H F z D hK hx ok hh => ?_⟩
  refine ⟨fun m σ H => ∃ F' z', Same F F' ∧ Ok M G σ H F' z' ∧ HitS M G W F' (sWhile c f m z') D, ⟨n, F, z, Same.refl _, ok, hh⟩, ?_⟩
  rintro m σ1 H1 ⟨F1, z1, s1, ok1, h1⟩
  cases m with
  | zero => exact h1.elim
  | succ m =>
    refine c0 G σ1 H1 F1 z1 _ hK hx ok1 (hits_bind h1 fun b z2 d H2 F2 _ sm ok2 e2 h2 => ?_)
    cases (show d = b from e2)
    cases b with
    | false => exact h2 σ1 H2 F2 (Same.refl _) ok2
    | true =>
      refine ⟨fun σ' H' => ∃ F' z', Same F F' ∧ Ok M G σ' H' F' z' ∧ HitS M G W F' (sWhile c f m z') D, fun σ' H' q => ⟨m, Nat.lt_succ_self m, q⟩, ?_⟩
      refine c1 G σ1 H2 F2 z2 _ hK hx ok2 ?_
      rw [if_pos rfl] at h2
      cases e : f z2 with
      | bad => rw [e] at h2; exact h2
      | ex x z3 => rw [e] at h2; exact h2
      | ok o z3 =>
        rw [e] at h2
        cases o with
        | nx => exact fun σ3 H3 F3 s3 ok3 => ⟨F3, z3, (s1.trans sm).trans s3, ok3, HitS.mono h2 s3⟩
        | ct => exact fun σ3 H3 F3 s3 ok3 => ⟨F3, z3, (s1.trans sm).trans s3, ok3, HitS.mono h2 s3⟩
        | bk => exact h2
        | rt q => exact h2
/-! ### for -/
def YD (K : PySem.W.Frag) (F : Hp) (ds : List D) : Nat → Hp → V → Hp → Prop := fun i H v H' => ∃ d, ds[i]? = some d ∧ ∀ F1, Same F F1 → SameX F1 H → (∀ a ps, F1 a = some (.tbl ps) → H a ≠ none) → ∃ F2, Same F1 F2 ∧ SameX F2 H' ∧ (∀ b o, H b = some o → H' b = some o ∧ F2 b = F1 b) ∧ (∀ a ps, F2 a = some (.tbl ps) → F1 a = some (.tbl ps)) ∧ Da K F2 v d
def Wk (K : PySem.W.Frag) (F : Hp) (J : It) (ds : List D) : Prop := Walk J ds.length (fun H => SameX F H) (YD K F ds)
def RelW {M : MI} (G : Gx) (_ : St) : List D → It → Hp → Hp → Z M.T → Prop := fun ds J F _ _ => Wk G.K F J ds
def DI {ι : Type} (M : MI) (xr : Str → Option Value) (K : PySem.W.Frag) (X : ι → Cx) (W : WX) (tg iter : Expr) (f : Sm M (List D)) : Prop := ∃ wi, (∀ j, PI (X j) tg iter wi) ∧ Cmp M K xr W wi RelW f
def forL (k : D → Z M.T → Option (Z M.T)) (b : Sm M Out) : List D → Sm M Out
  | [], z => .ok .nx z
  | d :: r, z => match k d z with
    | none => .bad
    | some z1 => (b z1).bind fun o z2 => match o with
      | .nx => forL k b r z2
      | .ct => forL k b r z2
      | .bk => .ok .nx z2
      | .rt s => .ok (.rt s) z2
def sFor (its : Sm M (List D)) (k : D → Z M.T → Option (Z M.T)) (b : Sm M Out) : Sm M Out := fun z => (its z).bind fun ds z1 => forL k b ds z1
theorem Ok.yd {G : Gx} {σ : St} {H H' F1 F2 : Hp} {z : Z M.T} (ok : Ok M G σ H F1 z) (s1 : Same F1 F2) (s2 : SameX F2 H') (k : ∀ b o, H b = some o → H' b = some o ∧ F2 b = F1 b) (kt : ∀ a ps, F2 a = some (.tbl ps) → F1 a = some (.tbl ps)) : Ok M G σ H' F2 z :=
  ok.step s1 (fun a ps e => ⟨kt a ps e, by
    cases q : H a with
    | none => exact ((ok.tg a ps (kt a ps e)).1 q).elim
    | some o => rw [(k a o q).1]⟩) s2 (fun a q => by
    obtain ⟨vs, e, e2, _⟩ := ok.ownH q
    obtain ⟨h1, h2⟩ := k a _ e
    exact ⟨by rw [h1, e], by rw [h2]; exact e2⟩) (fun a q => by
    cases e : H a with
    | none => exact (ok.msH a q e).elim
    | some o =>
      obtain ⟨h1, h2⟩ := k a _ e
      exact ⟨h1, by rw [h2]; exact ok.msF a q⟩) (fun b o q => by
    obtain ⟨h1, h2⟩ := ok.fr b o q
    obtain ⟨h3, h4⟩ := k b o h1
    exact ⟨h3, h4.trans h2⟩)
theorem ds_for {ts : List Nat} {tg iter : Expr} {body : List Stmt} {its : Sm M (List D)} {k : D → Z M.T → Option (Z M.T)} {f : Sm M Out} {pos : Pos} (hp : ∀ j, PassesOwn (model (X j).prog (X j).w) (X j).A (X j).env (X j).xe) (hc : ∀ j, (X j).calm = true) (hi : DI M xr K X W tg iter its) (hg : DG M K X ts tg k) (h : DSs M xr K X W body f)
    (hs : ∀ j x, foldedSetIterable iter (X j).env x = pure x := by intro _ _; rfl) : DS M xr K X W (.For tg iter body [] pos) (sFor its k f) := by
  obtain ⟨wi, pi, ci⟩ := hi
  obtain ⟨g, pg, cg⟩ := hg
  obtain ⟨t, p, c⟩ := h
  refine ⟨_, fun j => ps_for (hp j) (hc j) (pi j) (pg j) (p j) (hs j), fun G σ H F z D hK hx ok hh => ?_⟩
  refine ci G σ H F z _ hK hx ok (hits_bind hh fun ds z1 J H1 F1 _ sm ok1 w h1 => ?_)
  refine for_it (w : Wk G.K F1 J ds) (fun i σ' H' => ∃ F' z', Same F1 F' ∧ Ok M G σ' H' F' z' ∧ HitS M G W F' (forL k f (ds.drop i) z') D) ⟨F1, z1, Same.refl _, ok1, h1⟩ (fun i σ' H' _ ⟨F', z', s', ok', _⟩ => thenX s' ok'.sub) ?_ ?_
  · rintro i x σ2 H2 H3 hi ⟨F2, z2, s2, ok2, h2⟩ ⟨d, hd, q⟩
    obtain ⟨F3, s3, s4, kk, kt, da⟩ := q F2 s2 ok2.sub (fun a ps e => (ok2.tg a ps e).1)
    have ok3 := ok2.yd s3 s4 kk kt
    have ed : ds.drop i = d :: ds.drop (i + 1) := by
      rw [List.drop_eq_getElem_cons hi]
      have := List.getElem?_eq_getElem hi
      rw [hd] at this
      rw [← Option.some.inj this]
    rw [ed] at h2
    refine cg G σ2 H3 F3 z2 x d _ hK ok3 (by rw [← hK]; exact da) ?_
    unfold forL at h2
    cases e : k d z2 with
    | none => simp only [e] at h2; exact h2
    | some z3 =>
      simp only [e] at h2
      intro σ4 _ ok4
      refine c G σ4 H3 F3 z3 _ hK hx ok4 ?_
      cases e : f z3 with
      | bad => rw [e] at h2; exact h2
      | ex x z3 => rw [e] at h2; exact HitS.mono (F := F2) (r := .ex x z3) h2 s3
      | ok o z4 =>
        rw [e] at h2
        cases o with
        | nx => exact fun σ5 H5 F5 s5 ok5 => ⟨F5, z4, (s2.trans s3).trans s5, ok5, HitS.mono h2 (s3.trans s5)⟩
        | ct => exact fun σ5 H5 F5 s5 ok5 => ⟨F5, z4, (s2.trans s3).trans s5, ok5, HitS.mono h2 (s3.trans s5)⟩
        | bk => exact fun σ5 H5 F5 s5 ok5 => h2 σ5 H5 F5 (s3.trans s5) ok5
        | rt q => exact fun v H5 F5 s5 ok5 => h2 v H5 F5 (s3.trans s5) ok5
  · rintro σ2 H2 ⟨F2, z2, s2, ok2, h2⟩
    rw [List.drop_length] at h2
    exact h2 σ2 H2 F2 (Same.refl _) ok2
end
end G
namespace G
open PySem L2
/-! ### slots forgotten and restored -/
def wipeR (rho : List (Option S)) : List Nat → List (Option S)
  | [] => rho
  | v :: vs => (wipeR rho vs).set v none
def restR (rho0 rho : List (Option S)) : List Nat → List (Option S)
  | [] => rho
  | v :: vs => (restR rho0 rho vs).set v (rho0[v]?.getD none)
theorem wipeR_length (rho : List (Option S)) : ∀ vs, (wipeR rho vs).length = rho.length
  | [] => rfl
  | v :: vs => by unfold wipeR; rw [List.length_set, wipeR_length rho vs]
theorem restR_length (rho0 rho : List (Option S)) : ∀ vs, (restR rho0 rho vs).length = rho.length
  | [] => rfl
  | v :: vs => by unfold restR; rw [List.length_set, restR_length rho0 rho vs]
theorem wipeR_out (rho : List (Option S)) : ∀ (vs : List Nat) (n : Nat), n ∉ vs → (wipeR rho vs)[n]? = rho[n]?
  | [], _, _ => rfl
  | v :: vs, n, h => by
    unfold wipeR
    rw [List.getElem?_set_ne (fun e => h (by rw [← e]; exact List.mem_cons_self)), wipeR_out rho vs n (fun q => h (List.mem_cons_of_mem _ q))]
theorem wipeR_in (rho : List (Option S)) : ∀ (vs : List Nat) (n : Nat) (s : S), n ∈ vs → (wipeR rho vs)[n]? ≠ some (some s)
  | [], _, _, h => by cases h
  | v :: vs, n, s, h => by
    unfold wipeR
    by_cases e : n = v
    · subst e
      by_cases hl : n < (wipeR rho vs).length
      · rw [List.getElem?_set_self hl]
        intro q
        cases q
      · rw [List.getElem?_eq_none (by rw [List.length_set]; omega)]
        intro q
        cases q
    · rw [List.getElem?_set_ne (Ne.symm e)]
      exact wipeR_in rho vs n s ((List.mem_cons.mp h).resolve_left e)
theorem restR_out (rho0 rho : List (Option S)) : ∀ (vs : List Nat) (n : Nat), n ∉ vs → (restR rho0 rho vs)[n]? = rho[n]?
  | [], _, _ => rfl
  | v :: vs, n, h => by
    unfold restR
    rw [List.getElem?_set_ne (fun e => h (by rw [← e]; exact List.mem_cons_self)), restR_out rho0 rho vs n (fun q => h (List.mem_cons_of_mem _ q))]
theorem restR_in (rho0 rho : List (Option S)) : ∀ (vs : List Nat) (n : Nat) (s : S), n ∈ vs → (restR rho0 rho vs)[n]? = some (some s) → rho0[n]? = some (some s)
  | [], _, _, h, _ => by cases h
  | v :: vs, n, s, h, e1 => by
    unfold restR at e1
    by_cases e : n = v
    · subst e
      by_cases hl : n < (restR rho0 rho vs).length
      · rw [List.getElem?_set_self hl] at e1
        cases q : rho0[n]? with
        | none => rw [q] at e1; cases e1
        | some o => rw [q] at e1; exact e1
      · rw [List.getElem?_eq_none (by rw [List.length_set]; omega)] at e1
        cases e1
    · rw [List.getElem?_set_ne (Ne.symm e)] at e1
      exact restR_in rho0 rho vs n s ((List.mem_cons.mp h).resolve_left e) e1
theorem wipe_out (σ : St) : ∀ (vs : List Nat) (n : Nat), n ∉ vs → (wipe σ vs)[n]? = σ[n]?
  | [], _, _ => rfl
  | v :: vs, n, h => by
    unfold wipe
    rw [List.getElem?_set_ne (fun e => h (by rw [← e]; exact List.mem_cons_self)), wipe_out σ vs n (fun q => h (List.mem_cons_of_mem _ q))]
theorem wipe_in (σ : St) : ∀ (vs : List Nat) (n : Nat), n ∈ vs → n < σ.length → (wipe σ vs)[n]? = some none
  | [], _, h, _ => by cases h
  | v :: vs, n, h, hl => by
    unfold wipe
    by_cases e : n = v
    · subst e
      exact List.getElem?_set_self (by rw [wipe_length]; exact hl)
    · rw [List.getElem?_set_ne (Ne.symm e)]
      exact wipe_in σ vs n ((List.mem_cons.mp h).resolve_left e) hl
theorem wipe_but {σ σ' : St} {ts vs : List Nat} (b : But ts (wipe σ vs) σ') (h : ∀ n ∈ ts, n ∈ vs) : wipe σ' vs = wipe σ vs := by
  have hl : σ'.length = σ.length := b.1.trans (wipe_length σ vs)
  refine List.ext_getElem? fun n => ?_
  by_cases hn : n ∈ vs
  · by_cases q : n < σ.length
    · rw [wipe_in σ vs n hn q, wipe_in σ' vs n hn (by omega)]
    · rw [List.getElem?_eq_none (by rw [wipe_length]; omega), List.getElem?_eq_none (by rw [wipe_length]; omega)]
  · rw [wipe_out σ' vs n hn, b.2 n (fun q => hn (h n q)), wipe_out σ vs n hn]
section
variable {M : MI} {G : Gx} {W : WX} {σ : St} {H H' F F' : Hp} {z : Z M.T}
def wipeZ (z : Z M.T) (vs : List Nat) : Z M.T := { z with rho := wipeR z.rho vs }
theorem Ok.wipe (ok : Ok M G σ H F z) (vs : List Nat) : Ok M G (L2.wipe σ vs) H F (wipeZ z vs) where
  sub := ok.sub
  len := by
    show (wipeR z.rho vs).length = _
    rw [wipeR_length, wipe_length]
    exact ok.len
  slot := fun i s e => by
    have e' : (wipeR z.rho vs)[i]? = some (some s) := e
    by_cases h : i ∈ vs
    · exact (wipeR_in z.rho vs i s h e').elim
    · rw [wipeR_out _ _ _ h] at e'
      obtain ⟨v, h1, h2⟩ := ok.slot i s e'
      exact ⟨v, by rw [wipe_out _ _ _ h]; exact h1, h2⟩
  dist := fun i j xs ys v e1 e2 e3 e4 => by
    have e1' : (wipeR z.rho vs)[i]? = some (some (.l xs)) := e1
    have e2' : (wipeR z.rho vs)[j]? = some (some (.l ys)) := e2
    by_cases h : i ∈ vs
    · exact (wipeR_in z.rho vs i _ h e1').elim
    · by_cases h' : j ∈ vs
      · exact (wipeR_in z.rho vs j _ h' e2').elim
      · rw [wipeR_out _ _ _ h] at e1'
        rw [wipeR_out _ _ _ h'] at e2'
        rw [wipe_out _ _ _ h] at e3
        rw [wipe_out _ _ _ h'] at e4
        exact ok.dist i j xs ys v e1' e2' e3 e4
  mach := ok.mach
  msF := ok.msF
  msP := ok.msP
  msH := ok.msH
  fr := ok.fr
  tg := ok.tg
def noOwn (rho : List (Option S)) (vs : List Nat) : Bool := vs.all fun i => match rho[i]? with
  | some (some (.l _)) => false
  | _ => true
theorem Ok.rest {z1 : Z M.T} {H1 F1 : Hp} (ok : Ok M G σ H F z) {vs : List Nat} (hn : noOwn z.rho vs = true) (sm : Same F F1) (ok1 : Ok M G (L2.wipe σ vs) H1 F1 z1) : Ok M G σ H1 F1 { z1 with rho := restR z.rho z1.rho vs } := by
  have no : ∀ n ∈ vs, ∀ xs, z.rho[n]? ≠ some (some (.l xs)) := fun n hm xs e => by
    have q := List.all_eq_true.mp hn n hm
    rw [e] at q
    cases q
  refine ⟨ok1.sub, ?_, fun i s e => ?_, fun i j xs ys v e1 e2 e3 e4 => ?_, ok1.mach, ok1.msF, ok1.msP, ok1.msH, ok1.fr, ok1.tg⟩
  · show (restR z.rho z1.rho vs).length = _
    rw [restR_length, ok1.len, wipe_length]
  · have e' : (restR z.rho z1.rho vs)[i]? = some (some s) := e
    by_cases h : i ∈ vs
    · have q := restR_in z.rho z1.rho vs i s h e'
      obtain ⟨v, h1, h2⟩ := ok.slot i s q
      refine ⟨v, h1, ?_⟩
      cases s with
      | d x => exact Da.mono sm h2
      | l xs => exact (no i h xs q).elim
      | v _ => exact h2
      | m j => exact h2
    · rw [restR_out _ _ _ _ h] at e'
      obtain ⟨v, h1, h2⟩ := ok1.slot i s e'
      rw [wipe_out _ _ _ h] at h1
      exact ⟨v, h1, h2⟩
  · have e1' : (restR z.rho z1.rho vs)[i]? = some (some (.l xs)) := e1
    have e2' : (restR z.rho z1.rho vs)[j]? = some (some (.l ys)) := e2
    by_cases h : i ∈ vs
    · exact (no i h xs (restR_in z.rho z1.rho vs i _ h e1')).elim
    · by_cases h' : j ∈ vs
      · exact (no j h' ys (restR_in z.rho z1.rho vs j _ h' e2')).elim
      · rw [restR_out _ _ _ _ h] at e1'
        rw [restR_out _ _ _ _ h'] at e2'
        exact ok1.dist i j xs ys v e1' e2' (by rw [wipe_out _ _ _ h]; exact e3) (by rw [wipe_out _ _ _ h']; exact e4)
/-- a list under way is guarded -/
def Gx.prot (G : Gx) (D : Addr) (vs : List V) : Gx := { G with P := upd G.P D (.lst vs), Fp := fun b => if b = D then none else G.Fp b }
theorem Ok.prot {D : Addr} {vs : List V} (ok : Ok M G σ H F z) (hD : H D = some (.lst vs)) (hF : F D = none) (hm : D ∉ G.ms) (ho : ¬ Owned σ z D) : Ok M (G.prot D vs) σ H F z := by
  refine ⟨ok.sub, ok.len, fun i s e => ?_, ok.dist, ok.mach, ok.msF, fun a ha => ?_, ok.msH, fun b o q => ?_, fun a ps e => ⟨(ok.tg a ps e).1, (upd_ne (ne_of_none e hF)).trans (ok.tg a ps e).2⟩⟩
  · obtain ⟨v, h1, h2⟩ := ok.slot i s e
    refine ⟨v, h1, ?_⟩
    cases s with
    | d x => exact h2
    | l xs =>
      obtain ⟨a, ws, rfl, q1, q2, q3, q4, q5⟩ := h2
      have n : a ≠ D := fun e2 => ho (e2 ▸ ⟨i, xs, e, h1⟩)
      exact ⟨a, ws, rfl, q1, q2, q3, (upd_ne n).trans q4, q5⟩
    | v _ => exact h2
    | m j => exact h2
  · have n : a ≠ D := fun e => hm (e ▸ ha)
    exact (upd_ne n).trans (ok.msP a ha)
  · have q' : upd G.P D (.lst vs) b = some o := q
    show H b = some o ∧ F b = (if b = D then none else G.Fp b)
    by_cases e : b = D
    · subst e
      rw [upd_same] at q'
      cases q'
      rw [if_pos rfl]
      exact ⟨hD, hF⟩
    · rw [upd_ne e] at q'
      rw [if_neg e]
      exact ok.fr b o q'
theorem Ok.unprot {D : Addr} {vs : List V} (ok : Ok M (G.prot D vs) σ H F z) (hP : G.P D = none) : Ok M G σ H F z ∧ H D = some (.lst vs) ∧ F D = none ∧ ¬ Owned σ z D := by
  have hd := ok.fr D (.lst vs) upd_same
  have hF : F D = none := hd.2.trans (if_pos rfl)
  have no : ¬ Owned σ z D := fun q => by
    obtain ⟨_, _, _, e, _⟩ := ok.ownH q
    have e' : upd G.P D (.lst vs) D = none := e
    rw [upd_same] at e'
    cases e'
  refine ⟨⟨ok.sub, ok.len, fun i s e => ?_, ok.dist, ok.mach, ok.msF, fun a ha => ?_, ok.msH, fun b o q => ?_, fun a ps e => ⟨(ok.tg a ps e).1, (upd_ne (ne_of_none e hF)).symm.trans (ok.tg a ps e).2⟩⟩, hd.1, hF, no⟩
  · obtain ⟨v, h1, h2⟩ := ok.slot i s e
    refine ⟨v, h1, ?_⟩
    cases s with
    | d x => exact h2
    | l xs =>
      obtain ⟨a, ws, rfl, q1, q2, q3, q4, q5⟩ := h2
      have n : a ≠ D := fun e2 => no (e2 ▸ ⟨i, xs, e, h1⟩)
      have q4' : upd G.P D (.lst vs) a = none := q4
      rw [upd_ne n] at q4'
      exact ⟨a, ws, rfl, q1, q2, q3, q4', q5⟩
    | v _ => exact h2
    | m j => exact h2
  · have q : upd G.P D (.lst vs) a = none := ok.msP a ha
    by_cases e : a = D
    · rw [e]; exact hP
    · rw [upd_ne e] at q
      exact q
  · have n : b ≠ D := fun e => by rw [e, hP] at q; cases q
    have q' : (G.prot D vs).P b = some o := (upd_ne n).trans q
    obtain ⟨h1, h2⟩ := ok.fr b o q'
    have h2' : F b = (if b = D then none else G.Fp b) := h2
    rw [if_neg n] at h2'
    exact ⟨h1, h2'⟩
/-- the guarded list itself is changed -/
theorem Ok.updD {D : Addr} {o o' : HO} (ok : Ok M G σ H F z) (hD : H D = some o) (hF : F D = none) (hm : D ∉ G.ms) (hP : G.P D = none) (ho : ¬ Owned σ z D) : Ok M G σ (upd H D o') F z :=
  ok.step (Same.refl F) (tgk_new hF) (same_updR ok.sub hF) (fun a q => by
    have n : a ≠ D := fun e => ho (e ▸ q)
    exact ⟨upd_ne n, (ok.ownH q).choose_spec.2.1⟩) (fun a q => by
    have n : a ≠ D := fun e => hm (e ▸ q)
    exact ⟨upd_ne n, ok.msF a q⟩) (fun b u q => by
    have n : b ≠ D := fun e => by rw [e, hP] at q; cases q
    obtain ⟨h1, h2⟩ := ok.fr b u q
    exact ⟨(upd_ne n).trans h1, h2⟩)

/-! ### comprehensions -/
def nox {α ζ : Type} (r : Rs α ζ) : Rs α ζ := match r with
  | .ex _ _ => .bad
  | r => r
def lcL (k : D → Z M.T → Option (Z M.T)) (t : Sm M Bool) (e : Sm M S) (vs : List Nat) : List D → List D → Z M.T → Rs (List D) (Z M.T)
  | [], acc, z => .ok acc z
  | d :: r, acc, z => match k d z with
    | none => .bad
    | some z1 => (nox (t z1)).bind fun b z2 => if b = true then (nox (escf e z2)).bind fun s z3 => (match s with
        | .d y => if acc.length < lim then lcL k t e vs r (acc ++ [y]) (wipeZ z3 vs) else .bad
        | _ => .bad) else lcL k t e vs r acc (wipeZ z2 vs)
def eLc (its : Sm M (List D)) (k : D → Z M.T → Option (Z M.T)) (t : Sm M Bool) (e : Sm M S) (vs : List Nat) : Sm M S := fun z => (its z).bind fun ds z1 => if noOwn z1.rho vs = true then
    (lcL k t e vs ds [] (wipeZ z1 vs)).bind fun acc z2 => .ok (.l acc) { z2 with rho := restR z1.rho z2.rho vs }
  else .bad
abbrev W0 : WX := fun _ _ _ _ => False
theorem cmp_lc {K : PySem.W.Frag} {xr : Str → Option Value} {wi : TI} {g : TG} {tt : TT} {te : TE} {vs ts : List Nat} {its : Sm M (List D)} {k : D → Z M.T → Option (Z M.T)} {t : Sm M Bool} {e : Sm M S} (hv : ∀ n ∈ ts, n ∈ vs) (ci : Cmp M K xr W wi RelW its) (cg : GR M K ts g k)
    (ct : Cmp M K xr W0 tt RelB t) (ce : Cmp M K xr W0 te RelE e) : Cmp M K xr W (tLc wi g tt te vs) RelE (eLc its k t e vs) := by
  intro G σ H F z Q hK hx ok hh
  refine ci G σ H F z _ hK hx ok (hit_bind hh fun ds z1 J H1 F1 _ sm ok1 w h1 => ?_)
  intro L hL
  have hn : noOwn z1.rho vs = true := by
    by_cases q : noOwn z1.rho vs = true
    · exact q
    · rw [if_neg q] at h1; exact h1.elim
  rw [if_pos hn] at h1
  have okw : Ok M G (L2.wipe σ vs) H1 F1 (wipeZ z1 vs) := ok1.wipe vs
  have hP : G.P L = none := ok1.freshP hL
  have hm : L ∉ G.ms := ok1.freshM hL
  refine lc_it (w : Wk G.K F1 J ds) (fun i H' => ∃ F' z' acc avs, Same F1 F' ∧ Ok M G (L2.wipe σ vs) H' F' z' ∧ H' L = some (.lst avs) ∧ DaAll G.K F' avs acc ∧ F' L = none ∧ ¬ Owned (L2.wipe σ vs) z' L ∧
      HitG M G W σ F' (RelE G σ) ((lcL k t e vs (ds.drop i) acc z').bind fun acc z2 => .ok (.l acc) { z2 with rho := restR z1.rho z2.rho vs }) Q)
    ⟨F1, wipeZ z1 vs, [], [], Same.refl _, okw.new hL _, upd_same, .nil, ok1.freshF hL, okw.freshO hL, h1⟩ (fun i H' _ ⟨F', z', _, _, s', ok', _⟩ => thenX s' ok'.sub) ?_ ?_
  · rintro i x H2 H3 hi ⟨F2, z2, acc, avs, s2, ok2, hl2, da2, hf2, no2, h2⟩ ⟨d, hd, q⟩
    obtain ⟨F3, s3, s4, kk, kt, da⟩ := q F2 s2 ok2.sub (fun a ps e => (ok2.tg a ps e).1)
    have ok3 := ok2.yd s3 s4 kk kt
    have hl3 : H3 L = some (.lst avs) := (kk L _ hl2).1
    have hf3 : F3 L = none := (kk L _ hl2).2.trans hf2
    have ed : ds.drop i = d :: ds.drop (i + 1) := by
      rw [List.drop_eq_getElem_cons hi]
      have := List.getElem?_eq_getElem hi
      rw [hd] at this
      rw [← Option.some.inj this]
    rw [ed] at h2
    have okp := ok3.prot hl3 hf3 hm no2
    refine cg (G.prot L avs) _ H3 F3 z2 x d _ hK okp (by rw [← hK]; exact da) ?_
    unfold lcL at h2
    cases e1 : k d z2 with
    | none => simp only [e1] at h2; exact h2.elim
    | some z3 =>
      simp only [e1] at h2
      intro σ4 b4 ok4
      have ew : L2.wipe σ4 vs = L2.wipe σ vs := wipe_but b4 hv
      refine ⟨ew, ?_⟩
      refine ct (G.prot L avs) σ4 H3 F3 z3 _ hK hx ok4 ?_
      cases e2 : t z3 with
      | bad => simp only [e2, nox, Rs.bind] at h2; exact h2
      | ex x zz => simp only [e2, nox, Rs.bind] at h2; exact h2.elim
      | ok b z4 =>
        simp only [e2, nox, Rs.bind] at h2
        intro b' H5 F5 s5 ok5 eb
        cases (show b' = b from eb)
        cases b with
        | false =>
          rw [if_neg Bool.false_ne_true] at h2
          rw [if_neg Bool.false_ne_true]
          obtain ⟨q1, q2, q3, q4⟩ := ok5.unprot hP
          have ok6 := q1.wipe vs
          rw [ew] at ok6
          refine ⟨F5, wipeZ z4 vs, acc, avs, (s2.trans s3).trans s5, ok6, q2, da2.mono (s3.trans s5), q3, ?_, HitG.mono h2 (s3.trans s5)⟩
          rintro ⟨j, xs, o1, o2⟩
          have o1' : (wipeR z4.rho vs)[j]? = some (some (.l xs)) := o1
          by_cases qj : j ∈ vs
          · exact wipeR_in _ _ _ _ qj o1'
          · rw [wipeR_out _ _ _ qj] at o1'
            rw [← ew, wipe_out _ _ _ qj] at o2
            exact q4 ⟨j, xs, o1', o2⟩
        | true =>
          rw [if_pos rfl] at h2
          rw [if_pos rfl]
          refine cmp_esc ce (G.prot L avs) σ4 H5 F5 z4 _ hK hx ok5 ?_
          cases e3 : escf e z4 with
          | bad => simp only [e3, nox, Rs.bind] at h2; exact h2
          | ex x zz => simp only [e3, nox, Rs.bind] at h2; exact h2.elim
          | ok s z5 =>
            simp only [e3, nox, Rs.bind] at h2
            intro v H6 F6 s6 ok6 ev
            cases s with
            | d y =>
              simp only at h2
              have hlim : acc.length < lim := by
                by_cases q : acc.length < lim
                · exact q
                · rw [if_neg q] at h2; exact h2.elim
              rw [if_pos hlim] at h2
              obtain ⟨q1, q2, q3, q4⟩ := ok6.unprot hP
              have s26 := (s3.trans s5).trans s6
              refine ⟨avs, q2, by rw [da2.length]; exact Nat.lt_trans hlim lim_line, F6, wipeZ z5 vs, acc ++ [y], avs ++ [v], s2.trans s26, ?_, upd_same, (da2.mono s26).append (.cons ev .nil), q3, ?_, HitG.mono h2 s26⟩
              · have ok7 := (q1.updD (o' := .lst (avs ++ [v])) q2 q3 hm hP q4).wipe vs
                rw [ew] at ok7
                exact ok7
              · rintro ⟨j, xs, o1, o2⟩
                have o1' : (wipeR z5.rho vs)[j]? = some (some (.l xs)) := o1
                by_cases qj : j ∈ vs
                · exact wipeR_in _ _ _ _ qj o1'
                · rw [wipeR_out _ _ _ qj] at o1'
                  rw [← ew, wipe_out _ _ _ qj] at o2
                  exact q4 ⟨j, xs, o1', o2⟩
            | _ => exact h2.elim
  · rintro H2 ⟨F2, z2, acc, avs, s2, ok2, hl2, da2, hf2, no2, h2⟩
    rw [List.drop_length] at h2
    refine h2 (.ref L) H2 F2 (Same.refl _) (ok1.rest hn s2 ok2) ⟨L, avs, rfl, hl2, da2, hf2, hP, hm, ?_⟩
    rintro ⟨j, xs, o1, o2⟩
    have o1' : (restR z1.rho z2.rho vs)[j]? = some (some (.l xs)) := o1
    by_cases qj : j ∈ vs
    · have q := restR_in _ _ _ _ _ qj o1'
      have q2 := List.all_eq_true.mp hn j qj
      rw [q] at q2
      cases q2
    · rw [restR_out _ _ _ _ qj] at o1'
      exact no2 ⟨j, xs, o1', by rw [wipe_out _ _ _ qj]; exact o2⟩
end
section
variable {ι : Type} {M : MI} {xr : Str → Option Value} {K : PySem.W.Frag} {X : ι → Cx} {W : WX}
structure BP where
  s : Shared
  H : Hp
  C : Addr
  cl : List (Str × Addr)
  fp : List Addr
abbrev Blk {ι : Type} (X : ι → Cx) (scope : Scope) : ι × BP → Cx := fun p => (X p.1).blk p.2.s p.2.H scope (compEnvC scope p.2.cl p.2.C (X p.1).env) p.2.fp
def DTs {ι : Type} (M : MI) (xr : Str → Option Value) (K : PySem.W.Frag) (X : ι → Cx) (W : WX) (es : List Expr) (f : Sm M Bool) : Prop := ∃ t, (∀ j, PTs (X j) es t) ∧ Cmp M K xr W t RelB f
theorem dts_nil : DTs M xr K X W [] (fun z => .ok true z) := ⟨_, fun _ => pts_nil, fun G σ H F z Q _ _ ok h => h true H F (Same.refl _) ok rfl⟩
theorem dts_one {e : Expr} {f : Sm M Bool} (h : DT M xr K X W e f) : DTs M xr K X W [e] f := by
  obtain ⟨t, p, c⟩ := h
  exact ⟨_, fun j => pts_one (p j), c⟩
end
end G
/-! Promises of defs that are asked only where no repr is under way. -/
namespace G
open PySem L2 PySem.Spec PyProof.Rows
structure FnG (P : Program) (w : World) (K : PySem.W.Frag) (mg : Str → Option Value) (base : Heap) (CX : CXT) (n : Nat) (f : Addr) (fd : FuncData) (ps : List Str) (sp : Sp) : Prop where
  len : ∀ ws H Q E, sp ws H Q E → ws.length = ps.length
  run : ∀ (B : Around) (out : List Env) (s : Shared) (H : Hp) (args : Args) (us : List Value) (ws : List V) (Q : VK) (E : XK), Room n B → B.guards = some [] → Env0 P w K mg base B out s H → BindsTo s fd args (ps.zip us) → Vals ws us → sp ws H Q E → codeAny (model P w) B (.call (.ref f) args) (CR CX out P w H s Q E) s
theorem fnG {CX : CXT} {P : Program} {w : World} {K : PySem.W.Frag} {mg : Str → Option Value} {base : Heap} {n : Nat} {f : Addr} {nm qual : Str} {pa : Arguments} {bd : List Stmt} {sc : Scope} {dV kV doc pm cdv ct oc : Value} {an od : Option Addr}
    {osl : Array (Option Value)} {N ps : List Str} {sp : Sp} (lk : K.lookup f = some ⟨oc, od, .func (PySem.W.fnOf nm qual pa bd sc dV kV doc pm an cdv ct), osl⟩) (hc : PySem.W.codeIn K cdv qual = true) (Sc : FnScope N ps sc) (len : ∀ ws H Q E, sp ws H Q E → ws.length = ps.length)
    (body : ∀ (B : Around) (out : List Env) (s : Shared) (H : Hp) (ws : List V) (Q : VK) (E : XK), Room n (B.deeper (envOfC qual sc s.heap.objs.size f cdv)) → B.guards = some [] → sp ws H Q E → ∃ t, PSs (cxOf CX P w K mg base N qual sc f cdv B out s H E) bd t ∧ t { nx := fun _ H' => Q .non H', rt := Q } (start N ws) H) :
    FnG P w K mg base CX (n + 1) f (PySem.W.fnOf nm qual pa bd sc dV kV doc pm an cdv ct) ps sp := by
  constructor
  · exact len
  intro B out s H args us ws Q E hr hg e0 hb rv hsp
  have inK : K.In s.heap := e0.mod.kin.keeps fun c o e => (e0.bs c o e).1
  have nl : s.heap.NoLimit := e0.mod.nolimit.keeps fun c o e => (e0.bs c o e).1
  have kinds : ∀ y ∈ ps.zip us, sc.names.lookup y.1 = some .local ∨ (sc.names.lookup y.1 = some .cell ∧ ((cellsFrom (s.heap.objs.size + 1) sc.names []).lookup y.1).isSome = true) := by
    rintro ⟨m, u⟩ hy
    rcases Sc.par m (List.of_mem_zip hy).1 with q | q
    · exact Or.inl q
    · exact Or.inr ⟨q, PySem.W.cellsFrom_some _ _ _ (.inl q)⟩
  apply codeAny_call_function hr.depth (inK _ _ lk) rfl Sc.co Sc.gen rfl (PySem.W.codeRec_of inK hc)
  apply hb
  apply wpAny_newFunctionEnv_cells Sc.kind kinds
  intro env he s1 x
  subst he
  refine And.intro (nl.keeps x.toInCall.keep) (codeAny_func ?_)
  obtain ⟨t, pt, ht⟩ := body B out s H ws Q E (hr.deeper _) hg hsp
  have I0 : Inv (cxOf CX P w K mg base N qual sc f cdv B out s H E) [] (start N ws) H s1 := inv_start Sc hr.hd e0 (len _ _ _ _ hsp) rv x
  refine wpAny_mono (pt.run [] s1 (start N ws) H _ I0 ht) ?_ (fun e s' hs => hs)
  intro fl s' hs
  have done : ∀ {σ1 : L2.St} {H1 : Hp} {v : V} {u : Value}, Inv (cxOf CX P w K mg base N qual sc f cdv B out s H E) [] σ1 H1 s' → RelV v u → Q v H1 → CE out P w H s Q u s' := fun {σ1 H1 v u} J r q => ⟨v, H1, J.os, J.bare, J.base, J.hok, r, q⟩
  match fl, hs with
  | .ret u, ⟨v, σ1, H1, J, r, q⟩ => exact done J r q
  | .next, ⟨σ1, H1, J, q⟩ => exact done (v := V.non) (u := Value.none) J rfl q
  | .brk, ⟨_, _, _, q⟩ => exact q.elim
  | .cont, ⟨_, _, _, q⟩ => exact q.elim
section
variable {X : Cx} {CX : CXT} {n : Nat} {f : Addr} {fd : FuncData} {ps : List Str} {sp : Sp} {dvs : List V} {ds : List Value} {E : L2.St → XK} {x : Str} {p pos : Pos} {e : Expr} {es : List Expr} {t : TA}
theorem run_fnG {pins : List (Addr × Obj)} {σ : L2.St} {H : Hp} {s : Shared} {Q : VK} {us : List Value} {ws : List V} (F : FnG X.prog X.w X.K X.mg X.base CX n f fd ps sp) (hr : Room n X.A) (hg : X.A.guards = some []) (hb : Binds X.K fd ps ds) (hd : Vals dvs ds) (hx : PassesAt CX X σ (E σ)) (I : Inv X pins σ H s) (r : Vals ws us) (h : sp (ws ++ dvs) H Q (E σ)) :
    wpAny (model X.prog X.w) X.A (call (.ref f) us) (EP X pins σ Q) X.xe s := by
  have rr : Vals (ws ++ dvs) (us ++ ds) := r.append hd
  have ll : (us ++ ds).length = ps.length := rr.length.symm.trans (F.len _ _ _ _ h)
  apply wpAny_call
  apply codeAny_mono (F.run X.A X.stack s H ⟨us, []⟩ (us ++ ds) (ws ++ dvs) Q (E σ) hr hg I.env0 (hb s us I.kIn ll) rr h)
  intro rs s' hq
  match rs, hq with
  | .error e, hq => exact hx pins H s e s' I hq
  | .ok (.ret u), hq => exact I.after hq
  | .ok .next, hq => exact hq.elim
  | .ok .brk, hq => exact hq.elim
  | .ok .cont, hq => exact hq.elim
theorem pe_callG (F : FnG X.prog X.w X.K X.mg X.base CX n f fd ps sp) (hr : Room n X.A) (hgu : X.A.guards = some []) (hg : Gl X x) (hm : X.mg x = some (.ref f)) (hk : PySem.W.keepIn X.K (.ref f) = true) (hb : Binds X.K fd ps ds) (hd : Vals dvs ds) (hx : ∀ σ, PassesAt CX X σ (E σ)) (ha : PA X (e :: es) t)
    (hdb : (x == ("__debug__" : Str)) = false) (he : starEach (e :: es) X.env = (false, eval e X.env) :: starEach es X.env) (hpl : (backTo pos (starEach es X.env)).any (·.1) = false) : PE X (.Call (.Name x p) (e :: es) [] pos) (fun σ H Q => t σ H fun ws H1 => sp (ws ++ dvs) H1 Q (E σ)) := by
  constructor
  intro pins s σ H Q I h
  apply wpAny_Call_Name_kw
  apply ld_glob I hg hm _ hdb
  apply PySem.W.callWith_K (h₀ := X.base) I.ok.mod.kin hk _ he hpl
  exact thn (ha.run pos pins s σ H _ I h) fun us s1 ⟨ws, H1, I1, r, q⟩ => ⟨I1.kIn, run_fnG F hr hgu hb hd (hx σ) I1 r q⟩
theorem pe_call0G (F : FnG X.prog X.w X.K X.mg X.base CX n f fd ps sp) (hr : Room n X.A) (hgu : X.A.guards = some []) (hg : Gl X x) (hm : X.mg x = some (.ref f)) (hk : PySem.W.keepIn X.K (.ref f) = true) (hb : Binds X.K fd ps ds) (hd : Vals dvs ds) (hx : ∀ σ, PassesAt CX X σ (E σ)) (hdb : (x == ("__debug__" : Str)) = false) : PE X (.Call (.Name x p) [] [] pos) (fun σ H Q => sp dvs H Q (E σ)) := by
  constructor
  intro pins s σ H Q I h
  apply wpAny_Call_Name_kw
  apply ld_glob I hg hm _ hdb
  exact PySem.W.callWith_K0 I.kIn hk (run_fnG (us := []) (ws := []) (E := E) F hr hgu hb hd (hx σ) I .nil h)
end
end G
namespace G
open PySem L2 PySem.Spec PyProof.Rows
/-- the law's own call, where its promise is asked at the caller alone -/
theorem lawG {P : Program} {w : World} {K : PySem.W.Frag} {mg mb : Str → Option Value} {CX : CXT} {n : Nat} {fa a : Addr} {fd : FuncData} {x : Str} {sp : Sp} {s1 : Shared} {us : List Value} {ns : List Int} (inK : K.In s1.heap) (gs : s1.heap.Ns mainGlobals mg) (bs : s1.heap.Ns builtinsNs mb)
    (boot : ∀ x : Str, x ≠ "__name__" → mb x = bootBuiltins x) (nl : s1.heap.NoLimit) (ge : s1.gens = #[]) (oa : s1.heap.get? a = some { cls := .type "list", data := .seq us.toArray }) (hi : IntsAre us ns) (hl : ns.length ≤ sizeLine) (hr : Room n callerA)
    (F : ∀ bh : Heap, K.In bh → bh.Ns mainGlobals mg → FnG P w K mg bh CX n fa fd [x] sp) (hbd : ∀ (s : Shared) (u : Value), BindsTo s fd ⟨[u], []⟩ [(x, u)])
    (hsp : ∀ H : Hp, Only H → SqL K H a (ns.map V.int) → sp [.ref a] H (fun v _ => v = .bl true) fun _ _ _ => False) (noX : ∀ H e s', CX [] H s1 (fun _ _ _ => False) e s' → False) :
    codeAny (model P w) callerA (.call (.ref fa) ⟨[.ref a], []⟩) (fun r s' => r = .ok (.ret (.bool true)) ∧ OldK s1.heap s'.heap ∧ s'.os = s1.os ∧ AllBare s'.gens) s1 := by
  have vals := vals_ints hi
  have lens := hi.length
  have main : ∀ H : Hp, Only H → SqL K H a (ns.map V.int) → HOk P w H s1.heap → (∀ c, H c ≠ none → c = a) → (H a ≠ none → K.lookup a = none) → codeAny (model P w) callerA (.call (.ref fa) ⟨[.ref a], []⟩) (fun r s' => r = .ok (.ret (.bool true)) ∧ OldK s1.heap s'.heap ∧ s'.os = s1.os ∧ AllBare s'.gens) s1 := by
    intro H only sq hok at1 notK
    have keep : ∀ {c : Addr} {o : Obj}, s1.heap.get? c = some o → H c = none → (hidT s1.heap H).get? c = some o := fun e z => hidT_get e z
    have noDict : ∀ {c : Addr} {o : Obj} {es : Array DictEntry} {ep : Nat}, s1.heap.get? c = some o → o.data = .dict es ep → H c = none := by
      intro c o es ep e d
      rcases hq : H c with _ | u
      · rfl
      · have hc : c = a := at1 c (by rw [hq]; exact Option.some_ne_none u)
        rw [hc, oa] at e
        cases e
        exact Data.noConfusion (show Data.seq us.toArray _ = Data.dict es ep from d)
    have nsOf : ∀ {c : Addr} {m : Str → Option Value}, s1.heap.Ns c m → (hidT s1.heap H).Ns c m := fun ⟨o, es, ep, e, d, r⟩ => ⟨o, es, ep, keep e (noDict e d), d, r⟩
    have inB : K.In (hidT s1.heap H) := by
      intro c o e
      refine keep (inK c o e) ?_
      rcases hq : H c with _ | u
      · rfl
      · have hc : c = a := at1 c (by rw [hq]; exact Option.some_ne_none u)
        rw [hc, notK (by rw [← hc, hq]; exact Option.some_ne_none u)] at e
        cases e
    have md : Mod K mg (hidT s1.heap H) := ⟨inB, nsOf gs, ⟨mb, nsOf bs, boot⟩, by obtain ⟨mc, q1, q2⟩ := nl; exact ⟨mc, nsOf q1, q2⟩⟩
    have env : Env0 P w K mg (hidT s1.heap H) callerA [] s1 H := ⟨rfl, md, fun c o e => of_hidT e, Nat.le_of_eq (hidT_size _ _), trivial, fun c hc => (List.not_mem_nil (show c ∈ ([] : List Addr) from hc)).elim, hok, .of_eq ge⟩
    apply codeAny_mono ((F _ inB (nsOf gs)).run callerA [] s1 H ⟨[.ref a], []⟩ [.ref a] [.ref a] _ _ hr rfl env (hbd s1 (.ref a)) (.cons rfl .nil) (hsp H only sq))
    intro r s' h
    match r, h with
    | .error e, h => exact (noX H e s' h).elim
    | .ok .next, h => exact h.elim
    | .ok .brk, h => exact h.elim
    | .ok .cont, h => exact h.elim
    | .ok (.ret u), h =>
      obtain ⟨v, H', os, bare, un, hok', rv, q⟩ := h
      cases (show v = .bl true from q)
      cases (show u = Value.bool true from rv)
      refine ⟨rfl, OldK.of_keep ?_, os, bare⟩
      intro c o e
      rcases hq : H c with _ | u
      · exact un.keep c o e hq (fun z => (List.not_mem_nil (show c ∈ ([] : List Addr) from z)).elim) (List.not_mem_nil)
      · rcases only c with z | ⟨ob, xs, z⟩
        · exact absurd (hq.symm.trans z) (Option.some_ne_none u)
        · obtain ⟨q1, _⟩ := hok c _ z
          obtain ⟨q2, _⟩ := hok' c _ (un.frzs c ob _ z)
          have : o = ob := Option.some.inj (e.symm.trans q1)
          rw [this]
          exact q2
  rcases hk : K.lookup a with _ | o
  · refine main (fun c => if c = a then some (.frz { cls := .type "list", data := .seq us.toArray } (.lst (ns.map V.int))) else none) ?_ (.inl (.inr ⟨{ cls := .type "list", data := .seq us.toArray }, if_pos rfl⟩)) ?_ ?_ (fun _ => hk)
    · intro c
      by_cases hc : c = a
      · exact Or.inr ⟨_, _, if_pos hc⟩
      · exact Or.inl (if_neg hc)
    · intro c u z
      by_cases hc : c = a
      · cases (if_pos hc).symm.trans z
        rw [hc]
        exact ⟨oa, by rw [List.length_map]; exact hl, us, _, vals, oa⟩
      · cases (if_neg hc).symm.trans z
    · intro c z
      by_cases hc : c = a
      · exact hc
      · exact absurd (if_neg hc) z
  · have e := inK a o hk
    rw [oa] at e
    cases e
    exact main (fun _ => none) (fun _ => .inl rfl) (.inr ⟨_, us.toArray, _, hk, rfl, rfl, rfl, by rw [List.size_toArray, lens]; exact hl, by simpa using vals⟩) (fun c u z => by cases (show (none : Option HO) = some u from z)) (fun c z => absurd rfl z) (fun z => absurd rfl z)
theorem walkG {l : PySem.W.OpenLaw} {m n : Nat} {q : Program} {loose : List Str} {XP : (Str → Option Value) → Heap → Prop} {YP : World → Heap → Prop} {d : DefRec} {K : Params → PySem.W.Frag} {CX : World → CXT} {sp : World → Sp} {x : Str} (hm : l.most = some m) (hm2 : m ≤ sizeLine) (hdf : d.params.defaults = []) (hr : Room n callerA) (hY : ∀ (w : World) (h : Heap), YP w h → (K w.params).In h)
    (F : ∀ (w : World) (mg : Str → Option Value) (fa : Addr) (h : Heap), (K w.params).In h → h.Ns mainGlobals mg → mg d.name = some (.ref fa) → ∃ fd : FuncData, (∀ (s : Shared) (u : Value), BindsTo s fd ⟨[u], []⟩ [(x, u)]) ∧ ∀ bh : Heap, (K w.params).In bh → bh.Ns mainGlobals mg → FnG l.prog w (K w.params) mg bh (CX w) n fa fd [x] (sp w))
    (hsp : ∀ (w : World) (H : Hp) (a : Addr) (ns : List Int), ns.length ≤ m → (∀ z ∈ ns, Builtin.Int.intBits z ≤ 1048576) → Only H → SqL (K w.params) H a (ns.map V.int) → sp w [.ref a] H (fun v _ => v = .bl true) fun _ _ _ => False)
    (noX : ∀ (w : World) (H : Hp) (s : Shared) (e : Value) (s' : Shared), CX w [] H s (fun _ _ _ => False) e s' → False) : PySem.W.WalkO q loose XP YP l.row.toRowW d [] (fun f vs => PySem.call f vs) := by
  apply Att.attach_callB hm hdf
  intro w s0 s1 mg mb fa o pm cd doc a us ns gr Y ho hd hcd hmg oa hi hlen hbits hg
  have inK := hY w _ Y
  obtain ⟨fd, hb, hF⟩ := F w mg fa _ inK gr.T.g hmg
  exact lawG inK gr.T.g gr.T.b gr.T.builtins gr.T.nolimit hg oa hi (Nat.le_trans hlen hm2) hr hF hb (fun H hO hS => hsp w H a ns hlen hbits hO hS) (fun H e s' => noX w H s1 e s')
end G
namespace G
open PySem L2
section
variable {ι : Type} {M : MI} {xr : Str → Option Value} {K : PySem.W.Frag} {X : ι → Cx} {W : WX}
/-! ### comprehensions, the rules -/
theorem de_lc {elt tg iter : Expr} {ifs : List Expr} {scope : Scope} {own : List (Str × Nat)} {pos : Pos} {ts : List Nat} {its : Sm M (List D)} {k : D → Z M.T → Option (Z M.T)} {t : Sm M Bool} {e : Sm M S} (hc : ∀ j, (X j).calm = true) (hN : ∀ j, (X j).N.Nodup) (ok : ∀ j, BlkOk (X j).N (X j).env.scope scope own)
    (hi : DI M xr K X W tg iter its) (hg : DG M K (Blk X scope) ts tg k) (ht : DTs M xr K (Blk X scope) W0 ifs t) (he : DE M xr K (Blk X scope) W0 elt e) (hv : ∀ n ∈ ts, n ∈ own.map (·.2) := by decide) (hs : ∀ j x, foldedSetIterable iter (X j).env x = pure x := by intro _ _; rfl) :
    DE M xr K X W (.ListComp elt [⟨tg, iter, ifs, 0⟩] scope pos) (eLc its k t e (own.map (·.2))) := by
  obtain ⟨wi, pi, ci⟩ := hi
  obtain ⟨g, pg, cg⟩ := hg
  obtain ⟨tt, pt, ct⟩ := ht
  obtain ⟨te, pe, ce⟩ := he
  exact ⟨_, fun j => pe_lc (hc j) (hN j) (pi j) (ok j) (fun s H C cl fp => pg (j, ⟨s, H, C, cl, fp⟩)) (fun s H C cl fp => pt (j, ⟨s, H, C, cl, fp⟩)) (fun s H C cl fp => pe (j, ⟨s, H, C, cl, fp⟩)) (hs j), cmp_lc hv ci cg ct ce⟩
theorem ds_setLc {i : Nat} {y : Str} {py : Pos} {elt tg iter : Expr} {ifs : List Expr} {scope : Scope} {own : List (Str × Nat)} {pos spos : Pos} {ts : List Nat} {its : Sm M (List D)} {k : D → Z M.T → Option (Z M.T)} {t : Sm M Bool} {e : Sm M S} (hc : ∀ j, (X j).calm = true) (hN : ∀ j, (X j).N.Nodup) (hy : ∀ j, (X j).N[i]? = some y) (hyl : ∀ j, (X j).env.scope.names.lookup y = some .local)
    (hsw : ∀ j, swapsWith (.ListComp elt [⟨tg, iter, ifs, 0⟩] scope pos) (some (.Name y py)) spos.line (X j).env = pure true) (ok : ∀ j, BlkOk (X j).N (X j).env.scope scope own)
    (hi : DI M xr K X W tg iter its) (hg : DG M K (Blk X scope) ts tg k) (ht : DTs M xr K (Blk X scope) W0 ifs t) (he : DE M xr K (Blk X scope) W0 elt e) (hv : ∀ n ∈ ts, n ∈ own.map (·.2) := by decide) (hs : ∀ j x, foldedSetIterable iter (X j).env x = pure x := by intro _ _; rfl) :
    DS M xr K X W (.Assign [.Name y py] (.ListComp elt [⟨tg, iter, ifs, 0⟩] scope pos) spos) (sSet i (eLc its k t e (own.map (·.2)))) := by
  obtain ⟨wi, pi, ci⟩ := hi
  obtain ⟨g, pg, cg⟩ := hg
  obtain ⟨tt, pt, ct⟩ := ht
  obtain ⟨te, pe, ce⟩ := he
  exact ⟨_, fun j => ps_setLc (hc j) (hN j) (hy j) (hyl j) (hsw j) (pi j) (ok j) (fun s H C cl fp => pg (j, ⟨s, H, C, cl, fp⟩)) (fun s H C cl fp => pt (j, ⟨s, H, C, cl, fp⟩)) (fun s H C cl fp => pe (j, ⟨s, H, C, cl, fp⟩)) (hs j), sr_set (cmp_lc hv ci cg ct ce)⟩

/-! ### a slot's own list, changed -/
theorem Ok.setL {G : Gx} {σ : St} {H F : Hp} {z : Z M.T} (ok : Ok M G σ H F z) {i : Nat} {xs ys : List D} {a : Addr} {ws : List V} (h : z.rho[i]? = some (some (.l xs))) (ha : σ[i]? = some (some (.ref a))) (hd : DaAll G.K F ws ys) : Ok M G σ (upd H a (.lst ws)) F { z with rho := z.rho.set i (some (.l ys)) } := by
  obtain ⟨v, e, b, vs, rfl, h1, h2, h3, h4, h5⟩ := ok.slot i _ h
  rw [ha] at e
  cases e
  have hl : i < z.rho.length := (List.getElem?_eq_some_iff.mp h).1
  have old : ∀ j s, (z.rho.set i (some (S.l ys)))[j]? = some (some s) → (j = i ∧ s = .l ys) ∨ (j ≠ i ∧ z.rho[j]? = some (some s)) := fun j s q => by
    by_cases hj : j = i
    · subst hj
      rw [List.getElem?_set_self hl] at q
      cases q
      exact .inl ⟨rfl, rfl⟩
    · rw [List.getElem?_set_ne (Ne.symm hj)] at q
      exact .inr ⟨hj, q⟩
  refine ⟨same_updR ok.sub h3, by simp [ok.len], fun j s q => ?_, fun j k as bs v e1 e2 e3 e4 => ?_, M.mono (Same.refl F) (tgk_new h3) (fun c hc => upd_ne (fun e => h5 (e ▸ hc))) ok.mach, ok.msF, ok.msP, fun c hc => ?_, fun c o q => ?_, fun c ps e => ⟨by rw [upd_ne (ne_of_none e h3)]; exact (ok.tg c ps e).1, (ok.tg c ps e).2⟩⟩
  · rcases old j s q with ⟨rfl, rfl⟩ | ⟨hj, q⟩
    · exact ⟨.ref a, ha, a, ws, rfl, upd_same, hd, h3, h4, h5⟩
    · obtain ⟨v, e1, e2⟩ := ok.slot j s q
      refine ⟨v, e1, ?_⟩
      cases s with
      | d x => exact e2
      | l as =>
        obtain ⟨c, vs', rfl, q1, q2, q3, q4, q5⟩ := e2
        have n : c ≠ a := fun e => hj (ok.dist j i as xs _ q h e1 (by rw [e]; exact ha))
        exact ⟨c, vs', rfl, (upd_ne n).trans q1, q2, q3, q4, q5⟩
      | v _ => exact e2
      | m j => exact e2
  · have r : ∀ n cs, (z.rho.set i (some (S.l ys)))[n]? = some (some (S.l cs)) → ∃ ds, z.rho[n]? = some (some (S.l ds)) := fun n cs q => by
      rcases old n _ q with ⟨rfl, _⟩ | ⟨_, q⟩
      · exact ⟨xs, h⟩
      · exact ⟨_, q⟩
    obtain ⟨as', e1'⟩ := r j as e1
    obtain ⟨bs', e2'⟩ := r k bs e2
    exact ok.dist j k as' bs' v e1' e2' e3 e4
  · show upd H a (.lst ws) c ≠ none
    have n : c ≠ a := fun e => h5 (e ▸ hc)
    rw [upd_ne n]
    exact ok.msH c hc
  · have n : c ≠ a := fun e => by rw [e, h4] at q; cases q
    obtain ⟨q1, q2⟩ := ok.fr c o q
    exact ⟨(upd_ne n).trans q1, q2⟩
def ownAt {T : Type} (z : Z T) (i : Nat) : Option (List D) := match z.rho[i]? with
  | some (some (.l xs)) => some xs
  | _ => none
theorem ownAt_some {T : Type} {z : Z T} {i : Nat} {xs : List D} (h : ownAt z i = some xs) : z.rho[i]? = some (some (.l xs)) := by
  unfold ownAt at h
  split at h
  · rename_i ys e
    cases h
    exact e
  · cases h
def eApp (i : Nat) (g : Sm M S) : Sm M S := fun z => match ownAt z i with
  | none => .bad
  | some _ => (escf g z).bind fun s z1 => match ownAt z1 i, s with
    | some xs, .d y => if xs.length < lim then .ok (.d .non) { z1 with rho := z1.rho.set i (some (.l (xs ++ [y]))) } else .bad
    | _, _ => .bad
def eExt (i : Nat) (g : Sm M S) : Sm M S := fun z => match ownAt z i with
  | none => .bad
  | some _ => (opd g z).bind fun s z1 => match ownAt z1 i, rd z1 s with
    | some xs, some (.lst ys) => if xs.length + ys.length ≤ lim then .ok (.d .non) { z1 with rho := z1.rho.set i (some (.l (xs ++ ys))) } else .bad
    | _, _ => .bad
def ePop (i : Nat) : Sm M S := fun z => match ownAt z i with
  | none => .bad
  | some xs => match xs[xs.length - 1]? with
    | some y => .ok (.d y) { z with rho := z.rho.set i (some (.l xs.dropLast)) }
    | none => .bad
theorem tyV_own {K : PySem.W.Frag} {H : Hp} {a : Addr} {xs : List V} (h : H a = some (.lst xs)) : tyV K "list" (.ref a) H := .inl ⟨rfl, _, SqL.of h⟩
theorem Ok.at {G : Gx} {σ : St} {H F : Hp} {z : Z M.T} (ok : Ok M G σ H F z) {i : Nat} {xs : List D} (h : ownAt z i = some xs) : ∃ a vs, σ[i]? = some (some (.ref a)) ∧ H a = some (.lst vs) ∧ DaAll G.K F vs xs := by
  obtain ⟨v, e, a, vs, rfl, h1, h2, _⟩ := ok.slot i _ (ownAt_some h)
  exact ⟨a, vs, e, h1, h2⟩
theorem de_append {i : Nat} {x : Str} {pn apos cpos : Pos} {e : Expr} {g : Sm M S} (hK : ∀ j, (X j).K = K) (hN : ∀ j, (X j).N[i]? = some x) (hv : ∀ j, Vis (X j).env.scope x) (hd : (x == ("__debug__" : Str)) = false) (hcd : (x == ("__classdict__" : Str)) = false) (h : DE M xr K X W e g)
    (hbase : ∀ j, attributeBase (.Name x pn) "append" (X j).env (eval (.Name x pn) (X j).env) = eval (.Name x pn) (X j).env := by intro _; rfl)
    (hfew : ∀ j, ((backTo cpos (starEach [e] (X j).env)).all (fun x => !x.1) && (backToKw cpos (keywordEach [] (X j).env)).all (fun x => x.1.isSome) && decide (([e] : List Expr).length + ([] : List Keyword).length + (if ([] : List Keyword).isEmpty then 0 else 1) < 30)) = true := by intro _; rfl)
    (hline : (apos.endLine == cpos.line) = true := by rfl) (hs : ∀ j, starEach [e] (X j).env = (false, eval e (X j).env) :: starEach [] (X j).env := by intro _; rfl) (hplain : ∀ j, (backTo cpos (starEach [] (X j).env)).any (·.1) = false := by intro _; rfl) :
    DE M xr K X W (.Call (.Attribute (.Name x pn) "append" apos) [e] [] cpos) (eApp i g) := by
  obtain ⟨t, p, c⟩ := h
  refine ⟨tBM K "list" rAppend (tVar i) (tCons t tNil), fun j => ?_, fun G σ H F z Q hGK hx ok hh => ?_⟩
  · rw [← hK j]
    exact pe_bm PySem.F.plainAttrs_list PySem.F.slot_list_append PySem.F.type_list_append mt_append (pe_var (hN j) (hv j) hd hcd) (pa_cons (p j) pa_nil (hs j)) (hbase j) (hfew j) hline (hs j) (hplain j)
  · unfold eApp at hh
    cases e0 : ownAt z i with
    | none => simp only [e0] at hh; exact hh.elim
    | some ys =>
      simp only [e0] at hh
      obtain ⟨a, vs, hσ, ha, _⟩ := ok.at e0
      refine ⟨.ref a, hσ, tyV_own ha, ?_⟩
      refine cmp_esc c G σ H F z _ hGK hx ok (hit_bind hh fun s z1 v H1 F1 _ sm ok1 ev h1 => ?_)
      cases e1 : ownAt z1 i with
      | none => simp only [e1] at h1; exact h1.elim
      | some xs =>
        simp only [e1] at h1
        cases s with
        | d y =>
          simp only at h1
          by_cases hl : xs.length < lim
          · rw [if_pos hl] at h1
            obtain ⟨b, ws, hσ1, hb, hdw⟩ := ok1.at e1
            rw [hσ] at hσ1
            cases hσ1
            refine ⟨a, ws, v, rfl, rfl, hb, by rw [hdw.length]; exact Nat.lt_trans hl lim_line, ?_⟩
            exact h1 .non _ F1 (Same.refl _) (ok1.setL (ownAt_some e1) hσ (hdw.append (.cons ev .nil))) Da.non
          · rw [if_neg hl] at h1; exact h1.elim
        | _ => exact h1.elim
theorem Rv.lst {K : PySem.W.Frag} {F H : Hp} (s : SameX F H) {v : V} {xs : List D} (h : Rv K F H v (.lst xs)) : ∃ a vs, v = .ref a ∧ H a = some (.lst vs) ∧ DaAll K F vs xs := by
  rcases h with h | ⟨a, vs, ys, rfl, e, h1, h2⟩
  · cases h with
    | lst q r => exact ⟨_, _, rfl, s.lst q, r⟩
  · cases e
    exact ⟨a, vs, rfl, h1, h2⟩
theorem de_extend {i : Nat} {x : Str} {pn apos cpos : Pos} {e : Expr} {g : Sm M S} (hK : ∀ j, (X j).K = K) (hN : ∀ j, (X j).N[i]? = some x) (hv : ∀ j, Vis (X j).env.scope x) (hd : (x == ("__debug__" : Str)) = false) (hcd : (x == ("__classdict__" : Str)) = false) (h : DE M xr K X W e g)
    (hbase : ∀ j, attributeBase (.Name x pn) "extend" (X j).env (eval (.Name x pn) (X j).env) = eval (.Name x pn) (X j).env := by intro _; rfl)
    (hfew : ∀ j, ((backTo cpos (starEach [e] (X j).env)).all (fun x => !x.1) && (backToKw cpos (keywordEach [] (X j).env)).all (fun x => x.1.isSome) && decide (([e] : List Expr).length + ([] : List Keyword).length + (if ([] : List Keyword).isEmpty then 0 else 1) < 30)) = true := by intro _; rfl)
    (hline : (apos.endLine == cpos.line) = true := by rfl) (hs : ∀ j, starEach [e] (X j).env = (false, eval e (X j).env) :: starEach [] (X j).env := by intro _; rfl) (hplain : ∀ j, (backTo cpos (starEach [] (X j).env)).any (·.1) = false := by intro _; rfl) :
    DE M xr K X W (.Call (.Attribute (.Name x pn) "extend" apos) [e] [] cpos) (eExt i g) := by
  obtain ⟨t, p, c⟩ := h
  refine ⟨tBM K "list" rExtend (tVar i) (tCons t tNil), fun j => ?_, fun G σ H F z Q hGK hx ok hh => ?_⟩
  · rw [← hK j]
    exact pe_bm PySem.F.plainAttrs_list PySem.F.slot_list_extend PySem.F.type_list_extend mt_extend (pe_var (hN j) (hv j) hd hcd) (pa_cons (p j) pa_nil (hs j)) (hbase j) (hfew j) hline (hs j) (hplain j)
  · unfold eExt at hh
    cases e0 : ownAt z i with
    | none => simp only [e0] at hh; exact hh.elim
    | some ys =>
      simp only [e0] at hh
      obtain ⟨a, vs, hσ, ha, _⟩ := ok.at e0
      refine ⟨.ref a, hσ, tyV_own ha, ?_⟩
      refine cmp_opd c G σ H F z _ hGK hx ok (hit_bind hh fun s z1 v H1 F1 _ sm ok1 ev h1 => ?_)
      cases e1 : ownAt z1 i with
      | none => simp only [e1] at h1; exact h1.elim
      | some xs =>
        cases e2 : rd z1 s with
        | none => simp only [e1, e2] at h1; exact h1.elim
        | some y =>
          cases y with
          | lst zs =>
            simp only [e1, e2] at h1
            by_cases hl : xs.length + zs.length ≤ lim
            · rw [if_pos hl] at h1
              obtain ⟨b, ws, hσ1, hb, hdw⟩ := ok1.at e1
              rw [hσ] at hσ1
              cases hσ1
              obtain ⟨c2, us, rfl, hc2, hdu⟩ := (EO.rv ok1 ev e2).lst ok1.sub
              refine ⟨a, c2, ws, us, rfl, rfl, hb, hc2, by rw [hdw.length, hdu.length]; exact Nat.le_trans hl (Nat.le_of_lt lim_line), ?_⟩
              exact h1 .non _ F1 (Same.refl _) (ok1.setL (ownAt_some e1) hσ (hdw.append hdu)) Da.non
            · rw [if_neg hl] at h1; exact h1.elim
          | _ => simp only [e1, e2] at h1; exact h1.elim
theorem de_pop {i : Nat} {x : Str} {pn apos cpos : Pos} (hK : ∀ j, (X j).K = K) (hN : ∀ j, (X j).N[i]? = some x) (hv : ∀ j, Vis (X j).env.scope x) (hd : (x == ("__debug__" : Str)) = false) (hcd : (x == ("__classdict__" : Str)) = false)
    (hbase : ∀ j, attributeBase (.Name x pn) "pop" (X j).env (eval (.Name x pn) (X j).env) = eval (.Name x pn) (X j).env := by intro _; rfl) (hline : (apos.endLine == cpos.line) = true := by rfl) :
    DE M xr K X W (.Call (.Attribute (.Name x pn) "pop" apos) [] [] cpos) (ePop i) := by
  refine ⟨tBM0 K "list" rPop (tVar i), fun j => ?_, fun G σ H F z Q hGK hx ok hh => ?_⟩
  · rw [← hK j]
    exact pe_bm0 PySem.F.plainAttrs_list PySem.F.slot_list_pop PySem.F.type_list_pop mt_pop (pe_var (hN j) (hv j) hd hcd) (hbase j) hline
  · unfold ePop at hh
    cases e0 : ownAt z i with
    | none => simp only [e0] at hh; exact hh.elim
    | some xs =>
      simp only [e0] at hh
      obtain ⟨a, vs, hσ, ha, hda⟩ := ok.at e0
      cases e1 : xs[xs.length - 1]? with
      | none => simp only [e1] at hh; exact hh.elim
      | some y =>
        simp only [e1] at hh
        obtain ⟨v, hv1, hv2⟩ := hda.get e1
        refine ⟨.ref a, hσ, tyV_own ha, a, vs, v, rfl, rfl, ha, by rw [hda.length]; exact hv1, ?_⟩
        exact hh v _ F (Same.refl _) (ok.setL (ownAt_some e0) hσ hda.dropLast) hv2

/-! ### calls of the text's own defs -/
def AV (K : PySem.W.Frag) (F : Hp) (ms : List Addr) (v : V) : S → Prop
  | .d x => Da K F v x
  | .m j => ∃ a, ms[j]? = some a ∧ v = .ref a
  | _ => False
structure RetC (M : MI) (K : PySem.W.Frag) (ms : List Addr) (H F H' F' : Hp) (t : M.T) : Prop where
  sub : SameX F' H'
  mach : M.ok K F' H' ms t
  msx : ∀ a ∈ ms, F' a = none ∧ H' a ≠ none
  fr : ∀ b o, H b = some o → b ∉ ms → (∀ ps, F b ≠ some (.tbl ps)) → H' b = some o ∧ F' b = F b
  tg : ∀ a ps, F' a = some (.tbl ps) → H' a ≠ none ∧ (F a = some (.tbl ps) ∨ H a = none)
def RetV (K : PySem.W.Frag) (ms : List Addr) (H H' F' : Hp) (v : V) : S → Prop
  | .d x => Da K F' v x
  | .l xs => ∃ a vs, v = .ref a ∧ H' a = some (.lst vs) ∧ DaAll K F' vs xs ∧ F' a = none ∧ H a = none ∧ a ∉ ms
  | .m j => ∃ a, ms[j]? = some a ∧ v = .ref a
  | .v _ => False
def spM (M : MI) (K : PySem.W.Frag) (xr : Str → Option Value) (n : Nat) (mir : List S → M.T → Rs S M.T) : Sp := fun vs H Q E => vs.length = n ∧ ∃ (ms : List Addr) (F : Hp) (args : List S) (t : M.T), SameX F H ∧ M.ok K F H ms t ∧ (∀ a ∈ ms, F a = none ∧ H a ≠ none) ∧ (∀ a ps, F a = some (.tbl ps) → H a ≠ none) ∧ Paired (AV K F ms) vs args ∧
  match mir args t with
  | .ok s t' => ∀ v H' F', Same F F' → RetC M K ms H F H' F' t' → RetV K ms H H' F' v s → Q v H'
  | .ex x t' => ∀ cls d H' F', Same F F' → RetC M K ms H F H' F' t' → XOk ⟨K, xr, ms, H, F⟩ F' H' x cls d → E cls d H'
  | .bad => False
def okArg : S → Bool
  | .d _ => true
  | .m _ => true
  | _ => false
def eCall (c : List S → M.T → Rs S M.T) (g : Sm M (List S)) : Sm M S := fun z => (g z).bind fun ss z1 => if ss.all okArg = true then (match c ss z1.m with
  | .ok s t => .ok s { z1 with m := t }
  | .ex x t => .ex x { z1 with m := t }
  | .bad => .bad) else .bad
theorem paired_av {G : Gx} {σ : St} {F : Hp} : ∀ {vs : List V} {ss : List S}, Paired (fun v s => EO G σ F v s) vs ss → ss.all okArg = true → Paired (AV G.K F G.ms) vs ss
  | _, _, .nil, _ => .nil
  | _, s :: ss, .cons a b, h => by
    rw [List.all_cons, Bool.and_eq_true] at h
    refine .cons ?_ (paired_av b h.2)
    cases s with
    | d x => exact a
    | m j => exact a
    | l _ => cases h.1
    | v _ => cases h.1
theorem Ok.call {G : Gx} {σ : St} {H H' F F' : Hp} {z : Z M.T} {t : M.T} (ok : Ok M G σ H F z) (sm : Same F F') (r : RetC M G.K G.ms H F H' F' t) : Ok M G σ H' F' { z with m := t } where
  sub := r.sub
  len := ok.len
  slot := fun i s e => by
    obtain ⟨v, h1, h2⟩ := ok.slot i s e
    refine ⟨v, h1, ?_⟩
    cases s with
    | d x => exact Da.mono sm h2
    | l xs =>
      obtain ⟨a, vs, rfl, h3, h4, h5, h6, h7⟩ := h2
      obtain ⟨q1, q2⟩ := r.fr a _ h3 h7 (fun ps e => by rw [h5] at e; cases e)
      exact ⟨a, vs, rfl, q1, h4.mono sm, q2.trans h5, h6, h7⟩
    | v _ => exact h2
    | m j => exact h2
  dist := ok.dist
  mach := r.mach
  msF := fun a ha => (r.msx a ha).1
  msP := ok.msP
  msH := fun a ha => (r.msx a ha).2
  fr := fun b o q => by
    obtain ⟨h1, h2⟩ := ok.fr b o q
    have n : b ∉ G.ms := fun hb => by rw [ok.msP b hb] at q; cases q
    obtain ⟨h3, h4⟩ := r.fr b o h1 n (fun ps e => by rw [(ok.tg b ps e).2] at q; cases q)
    exact ⟨h3, h4.trans h2⟩
  tg := fun a ps e => by
    obtain ⟨h1, h2⟩ := r.tg a ps e
    refine ⟨h1, ?_⟩
    rcases h2 with h2 | h2
    · exact (ok.tg a ps h2).2
    · exact ok.freshP h2
theorem cmp_call {n : Nat} {t : TA} {g : Sm M (List S)} {c : List S → M.T → Rs S M.T} (cg : Cmp M K xr W t RelA g) (hn : ∀ z ss z1, g z = .ok ss z1 → ss.length = n) : Cmp M K xr W (tCallS (spM M K xr n c) (WE W) t) RelE (eCall c g) := by
  intro G σ H F z Q hK hx ok hh
  refine cg G σ H F z _ hK hx ok (hit_bind hh fun ss z1 vs H1 F1 eg sm ok1 ea h1 => ?_)
  by_cases hd : ss.all okArg = true
  · rw [if_pos hd] at h1
    have hv := paired_av ea hd
    refine ⟨hv.length.trans (hn z ss z1 eg), G.ms, F1, ss, z1.m, ok1.sub, by rw [← hK]; exact ok1.mach, fun a ha => ⟨ok1.msF a ha, ok1.msH a ha⟩, fun a ps e => (ok1.tg a ps e).1, by rw [← hK]; exact hv, ?_⟩
    subst hK hx
    cases e : c ss z1.m with
    | bad => rw [e] at h1; exact h1
    | ex x t' =>
      rw [e] at h1
      exact fun cls d H' F' s' r xo => h1 cls d H' F' s' (ok1.call s' r) xo
    | ok s t' =>
      rw [e] at h1
      intro v H' F' s' r rv
      refine h1 v H' F' s' (ok1.call s' r) ?_
      cases s with
      | d x => exact rv
      | m j => exact rv
      | v _ => exact rv.elim
      | l xs =>
        obtain ⟨a, us, rfl, q1, q2, q3, q4, q5⟩ := rv
        have hP : G.P a = none := ok1.freshP q4
        refine ⟨a, us, rfl, q1, q2, q3, hP, q5, fun ⟨i, ys, o1, o2⟩ => ?_⟩
        exact ok1.freshO q4 ⟨i, ys, o1, o2⟩
  · rw [if_neg hd] at h1; exact h1.elim
theorem len_nil {z : Z M.T} {ss : List S} {z1 : Z M.T} (h : (aNil : Sm M (List S)) z = .ok ss z1) : ss.length = 0 := by
  cases h
  rfl
theorem len_cons {f : Sm M S} {g : Sm M (List S)} {n : Nat} (hg : ∀ z ss z1, g z = .ok ss z1 → ss.length = n) : ∀ z ss z1, aCons f g z = .ok ss z1 → ss.length = n + 1 := fun z ss z1 h => by
  unfold aCons at h
  cases e : f z with
  | bad => rw [e] at h; cases h
  | ex x zz => rw [e] at h; cases h
  | ok s z2 =>
    rw [e] at h
    simp only [Rs.bind_ok] at h
    cases e2 : g z2 with
    | bad => rw [e2] at h; cases h
    | ex x zz => rw [e2] at h; cases h
    | ok ss' z3 =>
      rw [e2] at h
      cases h
      rw [List.length_cons, hg z2 ss' _ e2]
theorem pe_callF {X : Cx} {CX : CXT} {n : Nat} {f : Addr} {fd : FuncData} {ps : List Str} {sp : Sp} {E : St → XK} {x : Str} {p pos : Pos} {e : Expr} {es : List Expr} {t : TA} (F : FnG X.prog X.w X.K X.mg X.base CX n f fd ps sp) (hr : Room n X.A) (hgu : X.A.guards = some []) (hg : Gl X x) (hm : X.mg x = some (.ref f)) (hk : PySem.W.keepIn X.K (.ref f) = true) (hb : Binds X.K fd ps []) (hx : ∀ σ, PassesAt CX X σ (E σ)) (ha : PA X (e :: es) t)
    (hdb : (x == ("__debug__" : Str)) = false) (he : starEach (e :: es) X.env = (false, eval e X.env) :: starEach es X.env) (hpl : (backTo pos (starEach es X.env)).any (·.1) = false) : PE X (.Call (.Name x p) (e :: es) [] pos) (tCallS sp E t) := by
  have q := pe_callG (p := p) F hr hgu hg hm hk hb .nil hx ha hdb he hpl
  simp only [List.append_nil] at q
  exact q
theorem de_call {CX : CXT} {n k : Nat} {x : Str} {f : Addr} {fd : FuncData} {ps : List Str} {e : Expr} {es : List Expr} {g : Sm M (List S)} {c : List S → M.T → Rs S M.T} {p pos : Pos} (hF : ∀ j, FnG (X j).prog (X j).w (X j).K (X j).mg (X j).base CX k f fd ps (spM M K xr n c)) (hr : ∀ j, Room k (X j).A) (hgu : ∀ j, (X j).A.guards = some []) (hg : ∀ j, Gl (X j) x)
    (hm : ∀ j, (X j).mg x = some (.ref f)) (hk : ∀ j, PySem.W.keepIn (X j).K (.ref f) = true) (hb : ∀ j, Binds (X j).K fd ps []) (hx : ∀ j σ, PassesAt CX (X j) σ (WE W σ)) (ha : DA M xr K X W (e :: es) g) (hn : ∀ z ss z1, g z = .ok ss z1 → ss.length = n)
    (hdb : (x == ("__debug__" : Str)) = false := by decide) (he : ∀ j, starEach (e :: es) (X j).env = (false, eval e (X j).env) :: starEach es (X j).env := by intro _; rfl) (hpl : ∀ j, (backTo pos (starEach es (X j).env)).any (·.1) = false := by intro _; rfl) :
    DE M xr K X W (.Call (.Name x p) (e :: es) [] pos) (eCall c g) := by
  obtain ⟨t, pa, ca⟩ := ha
  exact ⟨_, fun j => pe_callF (hF j) (hr j) (hgu j) (hg j) (hm j) (hk j) (hb j) (hx j) (pa j) hdb (he j) (hpl j), cmp_call ca hn⟩
/-- defaults that fill up -/
def aDef (dd : List D) (g : Sm M (List S)) : Sm M (List S) := fun z => (g z).bind fun ss z1 => .ok (ss ++ dd.map S.d) z1
theorem paired_app {α β : Type} {R : α → β → Prop} : ∀ {as as' : List α} {bs bs' : List β}, Paired R as bs → Paired R as' bs' → Paired R (as ++ as') (bs ++ bs')
  | _, _, _, _, .nil, h => h
  | _, _, _, _, .cons r t, h => .cons r (paired_app t h)
theorem paired_dfl {G : Gx} {σ : St} {F : Hp} {v : V} {d : D} (h : Da G.K F v d) : Paired (fun v s => EO G σ F v s) [v] [S.d d] := .cons h .nil
theorem de_callD {CX : CXT} {n k : Nat} {x : Str} {f : Addr} {fd : FuncData} {ps : List Str} {e : Expr} {es : List Expr} {g : Sm M (List S)} {c : List S → M.T → Rs S M.T} {p pos : Pos} {dv : V} {dd : D} {ds : List Value} (hdd : ∀ F, Da K F dv dd) (hds : Vals [dv] ds) (hF : ∀ j, FnG (X j).prog (X j).w (X j).K (X j).mg (X j).base CX k f fd ps (spM M K xr n c)) (hr : ∀ j, Room k (X j).A) (hgu : ∀ j, (X j).A.guards = some []) (hg : ∀ j, Gl (X j) x)
    (hm : ∀ j, (X j).mg x = some (.ref f)) (hk : ∀ j, PySem.W.keepIn (X j).K (.ref f) = true) (hb : ∀ j, Binds (X j).K fd ps ds) (hx : ∀ j σ, PassesAt CX (X j) σ (WE W σ)) (ha : DA M xr K X W (e :: es) g) (hn : ∀ z ss z1, g z = .ok ss z1 → ss.length + 1 = n)
    (hdb : (x == ("__debug__" : Str)) = false := by decide) (he : ∀ j, starEach (e :: es) (X j).env = (false, eval e (X j).env) :: starEach es (X j).env := by intro _; rfl) (hpl : ∀ j, (backTo pos (starEach es (X j).env)).any (·.1) = false := by intro _; rfl) :
    DE M xr K X W (.Call (.Name x p) (e :: es) [] pos) (eCall c (aDef [dd] g)) := by
  obtain ⟨t, pa, ca⟩ := ha
  have cd : Cmp M K xr W (fun σ H Q => t σ H fun ws H1 => Q (ws ++ [dv]) H1) RelA (aDef [dd] g) := by
    intro G σ H F z Q hK hx ok hh
    refine ca G σ H F z _ hK hx ok (hit_bind hh fun ss z1 vs H1 F1 eg sm ok1 ea h1 => ?_)
    exact h1 _ H1 F1 (Same.refl _) ok1 (paired_app ea (paired_dfl (by rw [hK]; exact hdd F1)))
  refine ⟨_, fun j => pe_callG (E := WE W) (hF j) (hr j) (hgu j) (hg j) (hm j) (hk j) (hb j) hds (hx j) (pa j) hdb (he j) (hpl j), cmp_call cd (fun z ss z1 h => ?_)⟩
  unfold aDef at h
  cases eg : g z with
  | ok a z2 =>
    rw [eg] at h
    cases h
    rw [List.length_append, ← hn z a _ eg]
    rfl
  | ex _ _ => rw [eg] at h; cases h
  | bad => rw [eg] at h; cases h
theorem de_call0 {CX : CXT} {k : Nat} {x : Str} {f : Addr} {fd : FuncData} {ps : List Str} {c : List S → M.T → Rs S M.T} {p pos : Pos} (hF : ∀ j, FnG (X j).prog (X j).w (X j).K (X j).mg (X j).base CX k f fd ps (spM M K xr 0 c)) (hr : ∀ j, Room k (X j).A) (hgu : ∀ j, (X j).A.guards = some []) (hg : ∀ j, Gl (X j) x)
    (hm : ∀ j, (X j).mg x = some (.ref f)) (hk : ∀ j, PySem.W.keepIn (X j).K (.ref f) = true) (hb : ∀ j, Binds (X j).K fd ps []) (hx : ∀ j σ, PassesAt CX (X j) σ (WE W σ))
    (hdb : (x == ("__debug__" : Str)) = false := by decide) :
    DE M xr K X W (.Call (.Name x p) [] [] pos) (eCall c aNil) := by
  refine ⟨tCallS (spM M K xr 0 c) (WE W) tNil, fun j => ?_, cmp_call (fun G σ H F z Q _ _ ok h => h [] H F (Same.refl _) ok .nil) (fun _ _ _ h => len_nil h)⟩
  exact pe_call0G (hF j) (hr j) (hgu j) (hg j) (hm j) (hk j) (hb j) .nil (hx j) hdb
end
/-! ### a def -/
def fnM {M : MI} (n : Nat) (b : Sm M Out) : List S → M.T → Rs S M.T := fun args t => match b { rho := args.map some ++ List.replicate (n - args.length) none, m := t } with
  | .ok (.rt s) z => .ok s z.m
  | .ok .nx z => .ok (.d .non) z.m
  | .ok _ _ => .bad
  | .ex x z => .ex x z.m
  | .bad => .bad
theorem paired_get {α β : Type} {R : α → β → Prop} : ∀ {as : List α} {bs : List β} {i : Nat} {b : β}, Paired R as bs → bs[i]? = some b → ∃ a, as[i]? = some a ∧ R a b
  | _, _, _, _, .nil, e => by simp at e
  | _, _, 0, _, .cons r _, e => by simp at e; subst e; exact ⟨_, rfl, r⟩
  | _, _, i + 1, _, .cons _ t, e => by
    obtain ⟨a, h1, h2⟩ := paired_get (i := i) t (by simpa using e)
    exact ⟨a, by simpa using h1, h2⟩
open Classical in
/-- what a call must leave as it is -/
noncomputable def prP (ms : List Addr) (H F : Hp) : Hp := fun b => if b ∈ ms ∨ ∃ ps, F b = some (.tbl ps) then none else H b
theorem prP_in {ms : List Addr} {H F : Hp} {b : Addr} (h : b ∈ ms ∨ ∃ ps, F b = some (.tbl ps)) : prP ms H F b = none := if_pos h
theorem prP_out {ms : List Addr} {H F : Hp} {b : Addr} (h : ¬ (b ∈ ms ∨ ∃ ps, F b = some (.tbl ps))) : prP ms H F b = H b := if_neg h
theorem prP_of {ms : List Addr} {H F : Hp} {b : Addr} {o : HO} (h : prP ms H F b = some o) : ¬ (b ∈ ms ∨ ∃ ps, F b = some (.tbl ps)) ∧ H b = some o := by
  by_cases q : b ∈ ms ∨ ∃ ps, F b = some (.tbl ps)
  · rw [prP_in q] at h; cases h
  · rw [prP_out q] at h; exact ⟨q, h⟩
theorem start_ok {M : MI} {K : PySem.W.Frag} {xr : Str → Option Value} {N : List Str} {vs : List V} {H F : Hp} {ms : List Addr} {args : List S} {t : M.T} (sub : SameX F H) (mach : M.ok K F H ms t) (msx : ∀ a ∈ ms, F a = none ∧ H a ≠ none) (tgx : ∀ a ps, F a = some (.tbl ps) → H a ≠ none) (hv : Paired (AV K F ms) vs args) :
    Ok M ⟨K, xr, ms, prP ms H F, F⟩ (L2.start N vs) H F { rho := args.map some ++ List.replicate (N.length - args.length) none, m := t } := by
  have hl : vs.length = args.length := hv.length
  have key : ∀ (i : Nat) (s : S), (args.map some ++ List.replicate (N.length - args.length) none)[i]? = some (some s) → args[i]? = some s := fun i s e => by
    by_cases h : i < args.length
    · rw [List.getElem?_append_left (by simpa using h), List.getElem?_map] at e
      cases q : args[i]? with
      | none => rw [q] at e; cases e
      | some s' => rw [q] at e; cases e; rfl
    · rw [List.getElem?_append_right (by simpa using h), List.getElem?_replicate] at e
      split at e
      · cases e
      · cases e
  refine ⟨sub, ?_, fun i s e => ?_, fun i j xs ys v e1 _ _ _ => ?_, mach, fun a ha => (msx a ha).1, fun a ha => prP_in (.inl ha), fun a ha => (msx a ha).2, fun b o q => ⟨(prP_of q).2, rfl⟩, fun a ps e => ⟨tgx a ps e, prP_in (.inr ⟨ps, e⟩)⟩⟩
  · unfold L2.start
    simp [hl]
  · obtain ⟨v, h1, h2⟩ := paired_get hv (key i s e)
    refine ⟨v, ?_, ?_⟩
    · unfold L2.start
      have hi : i < vs.length := (List.getElem?_eq_some_iff.mp h1).1
      rw [List.getElem?_append_left (by simpa using hi), List.getElem?_map, h1]
      rfl
    · cases s with
      | d x => exact h2
      | l xs => exact h2.elim
      | v _ => exact h2.elim
      | m j => exact h2
  · obtain ⟨v, h1, h2⟩ := paired_get hv (key i _ e1)
    exact h2.elim
theorem fr_out {M : MI} {K : PySem.W.Frag} {xr : Str → Option Value} {ms : List Addr} {H F H' F' : Hp} (h : ∀ b o, (⟨K, xr, ms, prP ms H F, F⟩ : Gx).P b = some o → H' b = some o ∧ F' b = F b) : ∀ b o, H b = some o → b ∉ ms → (∀ ps, F b ≠ some (.tbl ps)) → H' b = some o ∧ F' b = F b := fun b o q n n2 => h b o (by show prP ms H F b = some o; rw [prP_out (fun e => e.elim n fun ⟨ps, e⟩ => n2 ps e)]; exact q)
theorem tg_out {M : MI} {K : PySem.W.Frag} {xr : Str → Option Value} {ms : List Addr} {H F H' F' : Hp} (sm : Same F F') (msx : ∀ a ∈ ms, F' a = none) (h : ∀ a ps, F' a = some (.tbl ps) → H' a ≠ none ∧ (⟨K, xr, ms, prP ms H F, F⟩ : Gx).P a = none) : ∀ a ps, F' a = some (.tbl ps) → H' a ≠ none ∧ (F a = some (.tbl ps) ∨ H a = none) := fun a ps e => by
  obtain ⟨h1, h2⟩ := h a ps e
  refine ⟨h1, ?_⟩
  have h2' : prP ms H F a = none := h2
  by_cases q : a ∈ ms ∨ ∃ ps, F a = some (.tbl ps)
  · rcases q with q | ⟨ps', q⟩
    · rw [msx a q] at e; cases e
    · have := sm a _ q
      rw [e] at this
      cases this
      exact .inl q
  · rw [prP_out q] at h2'
    exact .inr h2'
/-- THE RULE for a def: its body's mirror is its promise -/
theorem okM {M : MI} {P : Program} {w : World} {K : PySem.W.Frag} {mg : Str → Option Value} {base : Heap} {xr : Str → Option Value} {x qual : Str} {st : Stmt} {f : Addr} {fd : FuncData} {dvs : List V} {N ps : List Str} {k : Nat} {b : Sm M Out} (Fn : FunD K x qual (defArgs st) (defBody st) (defScope st) dvs [] f fd) (Sc : FnScope N ps (defScope st))
    (hb : ∀ (cdv : Value) (A : Around) (outer : List Env) (s : Shared) (H : Hp) (E : XK), Room k (A.deeper (PyProof.Rows.envOfC qual (defScope st) s.heap.objs.size f cdv)) → A.guards = some [] →
      DSs M xr K (fun _ : Unit => cxOf (L2.CX P w) P w K mg base N qual (defScope st) f cdv A outer s H E) (fun cls d _ H => E cls d H) (defBody st) b) :
    FnG P w K mg base (L2.CX P w) (k + 1) f fd ps (spM M K xr ps.length (fnM N.length b)) := by
  obtain ⟨oc, od, dV, kV, doc, pm, an, cdv, ct, osl, rfl, lk, hcd, _, _⟩ := Fn.ex
  refine fnG lk hcd Sc (fun vs H Q E h => h.1) (fun A outer s H vs Q E hr hgu h => ?_)
  obtain ⟨hl, ms, F, args, t, sub, mach, msx, tgx, hv, h⟩ := h
  obtain ⟨tb, p, c⟩ := hb cdv A outer s H E hr hgu
  refine ⟨tb, p (), ?_⟩
  have ok := start_ok (xr := xr) (N := N) sub mach msx tgx hv
  refine c _ _ H F _ _ rfl rfl ok ?_
  unfold fnM at h
  cases e : b { rho := args.map some ++ List.replicate (N.length - args.length) none, m := t } with
  | bad => rw [e] at h; exact h
  | ex x z =>
    rw [e] at h
    exact fun cls d σ H' F' s' ok' xo => h cls d H' F' s' ⟨ok'.sub, ok'.mach, fun a ha => ⟨ok'.msF a ha, ok'.msH a ha⟩, fr_out (M := M) ok'.fr, tg_out (M := M) s' ok'.msF ok'.tg⟩ xo
  | ok o z =>
    rw [e] at h
    cases o with
    | bk => exact h.elim
    | ct => exact h.elim
    | nx => exact fun σ H' F' s' ok' => h .non H' F' s' ⟨ok'.sub, ok'.mach, fun a ha => ⟨ok'.msF a ha, ok'.msH a ha⟩, fr_out (M := M) ok'.fr, tg_out (M := M) s' ok'.msF ok'.tg⟩ Da.non
    | rt q =>
      intro v H' F' s' r
      refine h v H' F' s' ⟨r.sub, r.mach, fun a ha => ⟨r.msF a ha, r.msH a ha⟩, fr_out (M := M) r.fr, tg_out (M := M) s' r.msF r.tg⟩ ?_
      have val := r.val
      cases q with
      | d x => exact val
      | m j => exact val
      | v _ => exact val.elim
      | l xs =>
        obtain ⟨a, vs', rfl, q1, q2, q3, q4, q5⟩ := val
        have q4' : prP ms H F a = none := q4
        have q5' : a ∉ ms := q5
        rw [prP_out (fun e => e.elim q5' fun ⟨ps, e⟩ => by have := s' a _ e; rw [q3] at this; cases this)] at q4'
        exact ⟨a, vs', rfl, q1, q2, q3, q4', q5'⟩
end G
namespace G
open PySem L2
/-! ### what is read -/
section
variable {K : PySem.W.Frag} {F H : Hp} {v : V}
theorem Rv.da {x : D} (h : Rv K F H v x) (hn : ∀ xs, x ≠ .lst xs) : Da K F v x := by
  rcases h with h | ⟨a, vs, xs, _, e, _⟩
  · exact h
  · exact (hn xs e).elim
theorem Rv.int {i : Int} (h : Rv K F H v (.int i)) : v = .int i := by cases h.da (fun _ e => by cases e); rfl
theorem Rv.str {i : Str} (h : Rv K F H v (.str i)) : v = .str i := by cases h.da (fun _ e => by cases e); rfl
theorem Rv.bl {i : Bool} (h : Rv K F H v (.bl i)) : v = .bl i := by cases h.da (fun _ e => by cases e); rfl
theorem Rv.non (h : Rv K F H v .non) : v = .non := by cases h.da (fun _ e => by cases e); rfl
theorem Rv.tup (s : SameX F H) {xs : List D} (h : Rv K F H v (.tup xs)) : ∃ a vs, v = .ref a ∧ SqT K H a vs ∧ DaAll K F vs xs := by
  cases h.da (fun _ e => by cases e) with
  | tup q r => exact ⟨_, _, rfl, s.tup q, r⟩
theorem Rv.scr (s : SameX F H) {ns : List Int} (h : Rv K F H v (.scr ns)) : ∃ a, v = .ref a ∧ SqL K H a (ns.map V.int) := by
  cases h.da (fun _ e => by cases e) with
  | scr q => exact ⟨_, rfl, s.seq q⟩
theorem Rv.emp (s : SameX F H) (h : Rv K F H v .emp) : ∃ a, v = .ref a ∧ H a = some (.dK []) := by
  cases h.da (fun _ e => by cases e) with
  | emp q => exact ⟨_, rfl, s.emp q⟩
end
/-! ### ints -/
def dI (C : Int → Int → Bool) (g : Int → Int → D) : D → D → Option R := fun a b => match a, b with
  | .int i, .int j => if C i j = true then some (.d (g i j)) else none
  | _, _ => none
theorem op2_I {K : PySem.W.Frag} {Cp : Int → Int → Prop} {C : Int → Int → Bool} {g : Int → Int → V} {g' : Int → Int → D} (hC : ∀ i j, C i j = true → Cp i j) (hg : ∀ F i j, Da K F (g i j) (g' i j)) : Op2 K (rI Cp g) (dI C g') := by
  intro F H x y a b Q s ha hb h
  cases a with
  | int i =>
    cases b with
    | int j =>
      unfold dI at h
      by_cases hc : C i j = true
      · simp only [if_pos hc] at h
        exact ⟨i, j, ha.int, hb.int, hC i j hc, h _ (hg F i j)⟩
      · simp only [if_neg hc] at h
        exact h.elim
    | _ => exact h.elim
  | _ => exact h.elim
theorem op2_I0 {K : PySem.W.Frag} {g : Int → Int → V} {g' : Int → Int → D} (hg : ∀ F i j, Da K F (g i j) (g' i j)) : Op2 K (rI0 g) (dI (fun _ _ => true) g') := by
  intro F H x y a b Q s ha hb h
  cases a with
  | int i =>
    cases b with
    | int j => exact ⟨i, j, ha.int, hb.int, h _ (hg F i j)⟩
    | _ => exact h.elim
  | _ => exact h.elim
def dSub := dI (fun _ _ => true) fun i j => .int (i - j)
def dMul := dI (fun i j => decide ((-(2 ^ 64) < i ∧ i < 2 ^ 64) ∨ (-(2 ^ 64) < j ∧ j < 2 ^ 64))) fun i j => .int (i * j)
def dFdiv := dI (fun _ j => decide (0 < j ∧ j < 1073741824)) fun i j => .int (i / j)
def dMod := dI (fun _ j => decide (0 < j)) fun i j => .int (i % j)
def dPow := dI (fun i j => decide (0 ≤ j ∧ j ≤ 1000000 ∧ i.natAbs < 2 ^ 64)) fun i j => .int (i ^ j.toNat)
def dShl := dI (fun i j => decide (0 ≤ j ∧ j ≤ 1000000 ∧ i.natAbs < 2 ^ 64)) fun i j => .int (i * 2 ^ j.toNat)
def dShr := dI (fun _ j => decide (0 ≤ j)) fun i j => .int (i / 2 ^ j.toNat)
def dLt := dI (fun _ _ => true) fun i j => .bl (decide (i < j))
def dLe := dI (fun _ _ => true) fun i j => .bl (decide (i ≤ j))
def dGt := dI (fun _ _ => true) fun i j => .bl (decide (j < i))
def dGe := dI (fun _ _ => true) fun i j => .bl (decide (j ≤ i))
def dNeg : D → Option R := fun a => match a with
  | .int i => some (.d (.int (-i)))
  | _ => none
/-! ### + -/
def dAdd : D → D → Option R := fun a b => match a, b with
  | .int i, .int j => some (.d (.int (i + j)))
  | .str x, .str y => if x.length + y.length ≤ lim then some (.d (.str (x ++ y))) else none
  | .lst xs, .lst ys => if xs.length + ys.length ≤ lim then some (.l (xs ++ ys)) else none
  | .tup xs, .tup ys => if xs.length + ys.length ≤ lim then some (.t (xs ++ ys)) else none
  | _, _ => none
theorem limLe {n : Nat} (h : n ≤ lim) : n ≤ sizeLine := Nat.le_trans h (Nat.le_of_lt lim_line)
def rAddAll (K : PySem.W.Frag) : R2 := fun x y H Q => (rI0 fun i j => .int (i + j)) x y H Q ∨ (∃ i j, x = .str i ∧ y = .str j ∧ i.length + j.length ≤ sizeLine ∧ Q (.str (i ++ j)) H) ∨ rCat x y H Q ∨ rCatA K x y H Q
theorem opAdd {X : Cx} : OpR X (binaryOp .Add) (rAddAll X.K) := op_add.or (op_add_str.or (op_cat.or op_catA))
theorem op2_add {K : PySem.W.Frag} : Op2 K (rAddAll K) dAdd := by
  intro F H x y a b Q s ha hb h
  unfold dAdd at h
  split at h
  · exact .inl ⟨_, _, ha.int, hb.int, h _ (.int _)⟩
  · rename_i i j
    by_cases hl : i.length + j.length ≤ lim
    · rw [if_pos hl] at h
      exact .inr (.inl ⟨_, _, ha.str, hb.str, limLe hl, h _ (.str _)⟩)
    · rw [if_neg hl] at h; exact h.elim
  · rename_i xs ys
    by_cases hl : xs.length + ys.length ≤ lim
    · rw [if_pos hl] at h
      obtain ⟨a, vs, rfl, h1, h2⟩ := ha.lst s
      obtain ⟨b, ws, rfl, h3, h4⟩ := hb.lst s
      exact .inr (.inr (.inl ⟨a, b, vs, ws, rfl, rfl, h1, h3, by rw [h2.length, h4.length]; exact limLe hl, fun p hp => h p _ hp (h2.append h4)⟩))
    · rw [if_neg hl] at h; exact h.elim
  · rename_i xs ys
    by_cases hl : xs.length + ys.length ≤ lim
    · rw [if_pos hl] at h
      obtain ⟨a, vs, rfl, h1, h2⟩ := ha.tup s
      obtain ⟨b, ws, rfl, h3, h4⟩ := hb.tup s
      refine .inr (.inr (.inr ⟨a, b, vs, ws, rfl, rfl, h1, h3, by rw [h2.length, h4.length]; exact limLe hl, fun e => ?_, fun _ e => ?_, fun _ _ p hp => h.2 p _ hp (h2.append h4)⟩))
      · subst e
        cases h2
        exact h.1 _ (hb.da (fun _ e => by cases e))
      · subst e
        cases h4
        rw [List.append_nil] at h
        exact h.1 _ (ha.da (fun _ e => by cases e))
    · rw [if_neg hl] at h; exact h.elim
  · exact h.elim
/-! ### ==, != -/
mutual
def toPy : D → PyData
  | .non => .none
  | .bl b => .bool b
  | .int i => .int i
  | .str x => .str x
  | .tup xs => .tuple (toPys xs)
  | .lst xs => .list (toPys xs)
  | .scr ns => .list (ns.map PyData.int)
  | .emp => .str ⟨#[4294967295]⟩
  | .exc _ _ => .str ⟨#[4294967295]⟩
  | .o _ => .str ⟨#[4294967295]⟩
def toPys : List D → List PyData
  | [] => []
  | x :: r => toPy x :: toPys r
end
theorem dp_ints {K : PySem.W.Frag} {H : Hp} : ∀ ns : List Int, DpAll K H (ns.map V.int) (ns.map PyData.int)
  | [] => .nil
  | n :: r => .cons (.int n) (dp_ints r)
mutual
def lay : D → Bool
  | .str x => PyData.strOk x
  | .tup xs => lays xs
  | .lst xs => lays xs
  | .emp => false
  | .exc _ _ => false
  | .o _ => false
  | _ => true
def lays : List D → Bool
  | [] => true
  | x :: r => lay x && lays r
end
mutual
theorem Da.dp {K : PySem.W.Frag} {F H : Hp} (s : SameX F H) : ∀ {v : V} {d : D}, Da K F v d → lay d = true → Dp K H v (toPy d)
  | _, _, .non, _ => .non
  | _, _, .bl b, _ => .bl b
  | _, _, .int i, _ => .int i
  | _, _, .str x, _ => .str x
  | _, _, .tup q r, l => .tup (s.tup q) (DaAll.dp s r (by rwa [lay] at l))
  | _, _, .lst q r, l => .lst (SqL.of (s.lst q)) (DaAll.dp s r (by rwa [lay] at l))
  | _, _, .scr q, _ => .lst (s.seq q) (dp_ints _)
  | _, _, .emp q, l => by rw [lay] at l; cases l
  | _, _, .exc _ _, l => by rw [lay] at l; cases l
  | _, _, .o _, l => by rw [lay] at l; cases l
theorem DaAll.dp {K : PySem.W.Frag} {F H : Hp} (s : SameX F H) : ∀ {vs : List V} {ds : List D}, DaAll K F vs ds → lays ds = true → DpAll K H vs (toPys ds)
  | _, _, .nil, _ => .nil
  | _, _, .cons a b, l => by
    rw [lays, Bool.and_eq_true] at l
    exact .cons (Da.dp s a l.1) (DaAll.dp s b l.2)
end
theorem Rv.dp {K : PySem.W.Frag} {F H : Hp} (s : SameX F H) {v : V} {d : D} (h : Rv K F H v d) (l : lay d = true) : Dp K H v (toPy d) := by
  rcases h with h | ⟨a, vs, xs, rfl, rfl, h1, h2⟩
  · exact h.dp s l
  · exact .lst (SqL.of h1) (h2.dp s (by rwa [lay] at l))
mutual
def dep : D → Nat
  | .tup xs => deps xs + 1
  | .lst xs => deps xs + 1
  | .scr _ => 1
  | _ => 0
def deps : List D → Nat
  | [] => 0
  | x :: r => max (dep x) (deps r)
end
theorem lay_ints : ∀ ns : List Int, PyData.canLayAll0 (ns.map PyData.int) = true
  | [] => rfl
  | n :: r => by rw [List.map_cons, PyData.canLayAll0, lay_ints r, PyData.canLay0]; rfl
theorem dep_ints : ∀ ns : List Int, PyData.depthAll (ns.map PyData.int) = 0
  | [] => rfl
  | n :: r => by rw [List.map_cons, PyData.depthAll, dep_ints r, PyData.depth]; rfl
mutual
theorem canLay_toPy : ∀ d : D, (toPy d).canLay0 = lay d
  | .non => by simp [toPy, lay, PyData.canLay0]
  | .bl _ => by simp [toPy, lay, PyData.canLay0]
  | .int _ => by simp [toPy, lay, PyData.canLay0]
  | .str _ => by simp [toPy, lay, PyData.canLay0]
  | .tup xs => by rw [toPy, lay, PyData.canLay0, canLays_toPy xs]
  | .lst xs => by rw [toPy, lay, PyData.canLay0, canLays_toPy xs]
  | .scr ns => by rw [toPy, lay, PyData.canLay0, lay_ints]; all_goals (intros; simp_all)
  | .emp => by rw [toPy, lay, PyData.canLay0]; decide +kernel
  | .exc _ _ => by rw [toPy, lay, PyData.canLay0]; decide +kernel
  | .o _ => by rw [toPy, lay, PyData.canLay0]; decide +kernel
theorem canLays_toPy : ∀ ds : List D, PyData.canLayAll0 (toPys ds) = lays ds
  | [] => by simp [toPys, lays, PyData.canLayAll0]
  | d :: r => by rw [toPys, lays, PyData.canLayAll0, canLay_toPy d, canLays_toPy r]
end
mutual
theorem depth_toPy : ∀ d : D, (toPy d).depth = dep d
  | .non => by simp [toPy, dep, PyData.depth]
  | .bl _ => by simp [toPy, dep, PyData.depth]
  | .int _ => by simp [toPy, dep, PyData.depth]
  | .str _ => by simp [toPy, dep, PyData.depth]
  | .tup xs => by rw [toPy, dep, PyData.depth, depths_toPy xs]
  | .lst xs => by rw [toPy, dep, PyData.depth, depths_toPy xs]
  | .scr ns => by rw [toPy, dep, PyData.depth, dep_ints]
  | .emp => by simp [toPy, dep, PyData.depth]
  | .exc _ _ => by simp [toPy, dep, PyData.depth]
  | .o _ => by simp [toPy, dep, PyData.depth]
theorem depths_toPy : ∀ ds : List D, PyData.depthAll (toPys ds) = deps ds
  | [] => by simp [toPys, deps, PyData.depthAll]
  | d :: r => by rw [toPys, deps, PyData.depthAll, depth_toPy d, depths_toPy r]
end
def eqD (a b : D) : Bool := PyData.eqv (toPy a) (toPy b)
def eqOk (a b : D) : Bool := lay a && (lay b && decide (min (dep a) (dep b) ≤ 300))
def dEq : D → D → Option R := fun a b => if eqOk a b = true then some (.d (.bl (eqD a b))) else none
def dNe : D → D → Option R := fun a b => if eqOk a b = true then some (.d (.bl (!eqD a b))) else none
def rEqW (K : PySem.W.Frag) : R2 := fun x y H Q => ∃ d e, Dp K H x d ∧ Dp K H y e ∧ d.canLay0 = true ∧ e.canLay0 = true ∧ min d.depth e.depth ≤ 300 ∧ Q (.bl (PyData.eqv d e)) H
def rNeW (K : PySem.W.Frag) : R2 := fun x y H Q => ∃ d e, Dp K H x d ∧ Dp K H y e ∧ d.canLay0 = true ∧ e.canLay0 = true ∧ min d.depth e.depth ≤ 300 ∧ Q (.bl (!PyData.eqv d e)) H
theorem op_eqW {X : Cx} (hu : X.A.units + 300 < cLine) : OpR X (compareOp .Eq) (rEqW X.K) := by
  intro pins s σ H x y v u Q I rx ry h
  obtain ⟨d, e, hd, he, sd, se, hm, q⟩ := h
  obtain ⟨as, r1⟩ := Dp.reads I d x v hd rx
  obtain ⟨bs, r2⟩ := Dp.reads I e y u he ry
  exact SeqAt.compareEq_reads r1 r2 sd se (by omega) ⟨.bl _, H, I, rfl, q⟩
theorem op_neW {X : Cx} (hu : X.A.units + 300 < cLine) : OpR X (compareOp .NotEq) (rNeW X.K) := by
  intro pins s σ H x y v u Q I rx ry h
  obtain ⟨d, e, hd, he, sd, se, hm, q⟩ := h
  obtain ⟨as, r1⟩ := Dp.reads I d x v hd rx
  obtain ⟨bs, r2⟩ := Dp.reads I e y u he ry
  exact SeqAt.compareNe_reads r1 r2 sd se (by omega) ⟨.bl _, H, I, rfl, q⟩
theorem eqOk_of {a b : D} (h : eqOk a b = true) : (toPy a).canLay0 = true ∧ (toPy b).canLay0 = true ∧ min (toPy a).depth (toPy b).depth ≤ 300 := by
  unfold eqOk at h
  rw [Bool.and_eq_true, Bool.and_eq_true] at h
  rw [canLay_toPy, canLay_toPy, depth_toPy, depth_toPy]
  exact ⟨h.1, h.2.1, of_decide_eq_true h.2.2⟩
theorem op2_eq {K : PySem.W.Frag} : Op2 K (rEqW K) dEq := by
  intro F H x y a b Q s ha hb h
  unfold dEq at h
  by_cases hs : eqOk a b = true
  · rw [if_pos hs] at h
    obtain ⟨q1, q2, q3⟩ := eqOk_of hs
    exact ⟨_, _, ha.dp s (by rw [← canLay_toPy]; exact q1), hb.dp s (by rw [← canLay_toPy]; exact q2), q1, q2, q3, h _ (.bl _)⟩
  · rw [if_neg hs] at h; exact h.elim
theorem op2_ne {K : PySem.W.Frag} : Op2 K (rNeW K) dNe := by
  intro F H x y a b Q s ha hb h
  unfold dNe at h
  by_cases hs : eqOk a b = true
  · rw [if_pos hs] at h
    obtain ⟨q1, q2, q3⟩ := eqOk_of hs
    exact ⟨_, _, ha.dp s (by rw [← canLay_toPy]; exact q1), hb.dp s (by rw [← canLay_toPy]; exact q2), q1, q2, q3, h _ (.bl _)⟩
  · rw [if_neg hs] at h; exact h.elim
/-! ### is -/
def dIs : D → D → Option R := fun a b => match a, b with
  | .non, .non => some (.d (.bl true))
  | _, .non => some (.d (.bl false))
  | .bl x, .bl y => some (.d (.bl (decide (x = y))))
  | _, _ => none
def dIsNot : D → D → Option R := fun a b => match a, b with
  | .non, .non => some (.d (.bl false))
  | _, .non => some (.d (.bl true))
  | .bl x, .bl y => some (.d (.bl (!decide (x = y))))
  | _, _ => none
def rIsAll : R2 := fun x y H Q => (y = .non ∧ Q (.bl (decide (x = .non))) H) ∨ (∃ a b, x = .bl a ∧ y = .bl b ∧ Q (.bl (decide (a = b))) H)
def rIsNotAll : R2 := fun x y H Q => (y = .non ∧ Q (.bl (!decide (x = .non))) H) ∨ (∃ a b, x = .bl a ∧ y = .bl b ∧ Q (.bl (!decide (a = b))) H)
theorem opIs {X : Cx} : OpR X (compareOp .Is) rIsAll := op_isN.or op_is_bl
theorem opIsNot {X : Cx} : OpR X (compareOp .IsNot) rIsNotAll := op_notN.or op_isnot_bl
theorem Rv.notNon {K : PySem.W.Frag} {F H : Hp} {v : V} {d : D} (h : Rv K F H v d) (hd : d ≠ .non) : v ≠ .non := by
  rcases h with h | ⟨a, vs, xs, rfl, _, _, _⟩
  · cases h with
    | non => exact (hd rfl).elim
    | bl _ => intro e; cases e
    | int _ => intro e; cases e
    | str _ => intro e; cases e
    | tup _ _ => intro e; cases e
    | lst _ _ => intro e; cases e
    | scr _ => intro e; cases e
    | emp _ => intro e; cases e
    | exc _ _ => intro e; cases e
    | o _ => intro e; cases e
  · intro e; cases e
theorem op2_is {K : PySem.W.Frag} : Op2 K rIsAll dIs := by
  intro F H x y a b Q s ha hb h
  unfold dIs at h
  split at h
  · refine .inl ⟨hb.non, ?_⟩
    rw [ha.non]
    exact h _ (.bl true)
  · rename_i hn
    refine .inl ⟨hb.non, ?_⟩
    rw [decide_eq_false (ha.notNon hn)]
    exact h _ (.bl false)
  · exact .inr ⟨_, _, ha.bl, hb.bl, h _ (.bl _)⟩
  · exact h.elim
theorem op2_isNot {K : PySem.W.Frag} : Op2 K rIsNotAll dIsNot := by
  intro F H x y a b Q s ha hb h
  unfold dIsNot at h
  split at h
  · refine .inl ⟨hb.non, ?_⟩
    rw [ha.non]
    exact h _ (.bl false)
  · rename_i hn
    refine .inl ⟨hb.non, ?_⟩
    rw [decide_eq_false (ha.notNon hn)]
    exact h _ (.bl true)
  · exact .inr ⟨_, _, ha.bl, hb.bl, h _ (.bl _)⟩
  · exact h.elim
/-! ### in, not in -/
def flatD : D → Bool
  | .non => true
  | .bl _ => true
  | .int _ => true
  | .str _ => true
  | _ => false
def eqF : D → D → Bool
  | .non, .non => true
  | .bl a, .bl b => a == b
  | .bl a, .int b => (if a then 1 else 0) == b
  | .int a, .bl b => a == (if b then 1 else 0)
  | .int a, .int b => a == b
  | .str a, .str b => a == b
  | _, _ => false
def inD (x : D) (xs : List D) : Bool := xs.any fun y => eqF y x
def dInB : D → D → Option Bool := fun a b => match b with
  | .tup xs => if flatD a = true ∧ xs.all flatD = true then some (inD a xs) else none
  | .lst xs => if flatD a = true ∧ xs.all flatD = true then some (inD a xs) else none
  | .str z => (match a with
    | .str c => if c.cps.size = 1 then some (decide (c.cps.getD 0 0 ∈ z.cps.toList)) else none
    | _ => none)
  | _ => none
def dIn : D → D → Option R := fun a b => (dInB a b).map fun k => .d (.bl k)
def dNotIn : D → D → Option R := fun a b => (dInB a b).map fun k => .d (.bl (!k))
theorem da_flat {K : PySem.W.Frag} {F : Hp} {v : V} {d : D} (h : Da K F v d) (hf : flatD d = true) : flatV v = true := by
  cases h with
  | non => rfl
  | bl _ => rfl
  | int _ => rfl
  | str _ => rfl
  | tup _ _ => cases hf
  | lst _ _ => cases hf
  | scr _ => cases hf
  | emp _ => cases hf
  | exc _ _ => cases hf
  | o _ => cases hf
theorem da_eqF {K : PySem.W.Frag} {F : Hp} {v u : V} {d e : D} (h : Da K F v d) (h' : Da K F u e) (hf : flatD d = true) (hf' : flatD e = true) : eqV v u = eqF d e := by
  cases h with
  | non => cases h' <;> first | rfl | cases hf'
  | bl _ => cases h' <;> first | rfl | cases hf'
  | int _ => cases h' <;> first | rfl | cases hf'
  | str _ => cases h' <;> first | rfl | cases hf'
  | tup _ _ => cases hf
  | lst _ _ => cases hf
  | scr _ => cases hf
  | emp _ => cases hf
  | exc _ _ => cases hf
  | o _ => cases hf
theorem daAll_flat {K : PySem.W.Frag} {F : Hp} : ∀ {vs : List V} {ds : List D}, DaAll K F vs ds → ds.all flatD = true → vs.all flatV = true
  | _, _, .nil, _ => rfl
  | _, _, .cons a b, h => by
    rw [List.all_cons, Bool.and_eq_true] at h
    rw [List.all_cons, da_flat a h.1, daAll_flat b h.2]
    rfl
theorem daAll_in {K : PySem.W.Frag} {F : Hp} {x : V} {d : D} (hx : Da K F x d) (hf : flatD d = true) : ∀ {vs : List V} {ds : List D}, DaAll K F vs ds → ds.all flatD = true → inV x vs = inD d ds
  | _, _, .nil, _ => rfl
  | _, _, .cons a b, h => by
    rw [List.all_cons, Bool.and_eq_true] at h
    have ih := daAll_in hx hf b h.2
    unfold inV inD at ih ⊢
    rw [List.any_cons, List.any_cons, ih, da_eqF a hx h.1 hf]
theorem Rv.flat {K : PySem.W.Frag} {F H : Hp} {v : V} {d : D} (h : Rv K F H v d) (hf : flatD d = true) : Da K F v d := h.da (fun _ e => by rw [e] at hf; cases hf)
def rInAll (K : PySem.W.Frag) : R2 := fun x y H Q => rIn K false x y H Q ∨ ∃ (c : Nat) (z : Str), x = .str ⟨#[c]⟩ ∧ y = .str z ∧ Q (.bl (decide (c ∈ z.cps.toList))) H
def rNotInAll (K : PySem.W.Frag) : R2 := fun x y H Q => rIn K true x y H Q ∨ ∃ (c : Nat) (z : Str), x = .str ⟨#[c]⟩ ∧ y = .str z ∧ Q (.bl (!decide (c ∈ z.cps.toList))) H
theorem opIn {X : Cx} : OpR X (compareOp .In) (rInAll X.K) := op_in_seq.or op_in_sign
theorem opNotIn {X : Cx} : OpR X (compareOp .NotIn) (rNotInAll X.K) := op_notIn_seq.or op_notIn_sign
theorem one_sign {c : Str} (h : c.cps.size = 1) : c = ⟨#[c.cps.getD 0 0]⟩ := by
  obtain ⟨⟨l⟩⟩ := c
  match l, h with
  | [x], _ => rfl
theorem in_all {K : PySem.W.Frag} {neg : Bool} {F H : Hp} {x y : V} {a b : D} {Q : VK} {k : Bool} (s : SameX F H) (ha : Rv K F H x a) (hb : Rv K F H y b) (e : dInB a b = some k) (h : ∀ u, Da K F u (.bl (if neg then !k else k)) → Q u H) :
    rIn K neg x y H Q ∨ ∃ (c : Nat) (z : Str), x = .str ⟨#[c]⟩ ∧ y = .str z ∧ Q (.bl (if neg then !decide (c ∈ z.cps.toList) else decide (c ∈ z.cps.toList))) H := by
  unfold dInB at e
  split at e
  · rename_i xs
    by_cases hc : flatD a = true ∧ xs.all flatD = true
    · rw [if_pos hc] at e
      cases e
      obtain ⟨p, vs, rfl, h1, h2⟩ := hb.tup s
      have da := ha.flat hc.1
      refine .inl ⟨p, vs, rfl, .inr h1, da_flat da hc.1, daAll_flat h2 hc.2, ?_⟩
      rw [daAll_in da hc.1 h2 hc.2]
      exact h _ (.bl _)
    · rw [if_neg hc] at e; cases e
  · rename_i xs
    by_cases hc : flatD a = true ∧ xs.all flatD = true
    · rw [if_pos hc] at e
      cases e
      obtain ⟨p, vs, rfl, h1, h2⟩ := hb.lst s
      have da := ha.flat hc.1
      refine .inl ⟨p, vs, rfl, .inl (SqL.of h1), da_flat da hc.1, daAll_flat h2 hc.2, ?_⟩
      rw [daAll_in da hc.1 h2 hc.2]
      exact h _ (.bl _)
    · rw [if_neg hc] at e; cases e
  · rename_i z
    split at e
    · rename_i c
      by_cases hc : c.cps.size = 1
      · rw [if_pos hc] at e
        cases e
        refine .inr ⟨c.cps.getD 0 0, z, ?_, hb.str, h _ (.bl _)⟩
        rw [← one_sign hc]
        exact ha.str
      · rw [if_neg hc] at e; cases e
    · cases e
  · cases e
theorem op2_in {K : PySem.W.Frag} : Op2 K (rInAll K) dIn := by
  intro F H x y a b Q s ha hb h
  unfold dIn at h
  cases e : dInB a b with
  | none => rw [e] at h; exact h.elim
  | some k =>
    rw [e] at h
    exact in_all (neg := false) s ha hb e h
theorem op2_notIn {K : PySem.W.Frag} : Op2 K (rNotInAll K) dNotIn := by
  intro F H x y a b Q s ha hb h
  unfold dNotIn at h
  cases e : dInB a b with
  | none => rw [e] at h; exact h.elim
  | some k =>
    rw [e] at h
    exact in_all (neg := true) s ha hb e h
/-! ### subscripts, slices -/
theorem atI_da {K : PySem.W.Frag} {F : Hp} {vs : List V} {ds : List D} {i : Int} {d : D} (h : DaAll K F vs ds) (e : atI ds i = some d) : ∃ v, atI vs i = some v ∧ Da K F v d := by
  unfold atI at e ⊢
  rw [h.length]
  cases q : ixN ds.length i with
  | none => rw [q] at e; cases e
  | some j =>
    rw [q] at e
    exact h.get e
def dIx : D → D → Option R := fun a b => match a, b with
  | .tup xs, .int i => (atI xs i).map .d
  | .lst xs, .int i => (atI xs i).map .d
  | .scr ns, .int i => (atI ns i).map fun n => .d (.int n)
  | .str z, .int i => if z.length ≤ lim then (atI z.cps.toList i).map fun c => .d (.str ⟨#[c]⟩) else none
  | _, _ => none
theorem atI_map {α β : Type} (f : α → β) (xs : List α) (i : Int) : atI (xs.map f) i = (atI xs i).map f := by
  unfold atI
  rw [List.length_map]
  cases ixN xs.length i with
  | none => rfl
  | some j => exact List.getElem?_map
theorem op2_ix {K : PySem.W.Frag} : Op2 K (rIx K) dIx := by
  intro F H x y a b Q s ha hb h
  unfold dIx at h
  split at h
  · rename_i xs i
    cases e : atI xs i with
    | none => rw [e] at h; exact h.elim
    | some d =>
      rw [e] at h
      obtain ⟨p, vs, rfl, h1, h2⟩ := ha.tup s
      obtain ⟨v, h3, h4⟩ := atI_da h2 e
      exact .inr (.inl ⟨p, vs, i, v, rfl, hb.int, h1, h3, h _ h4⟩)
  · rename_i xs i
    cases e : atI xs i with
    | none => rw [e] at h; exact h.elim
    | some d =>
      rw [e] at h
      obtain ⟨p, vs, rfl, h1, h2⟩ := ha.lst s
      obtain ⟨v, h3, h4⟩ := atI_da h2 e
      exact .inl ⟨p, vs, i, v, rfl, hb.int, SqL.of h1, h3, h _ h4⟩
  · rename_i ns i
    cases e : atI ns i with
    | none => rw [e] at h; exact h.elim
    | some n =>
      rw [e] at h
      obtain ⟨p, rfl, h1⟩ := ha.scr s
      exact .inl ⟨p, _, i, .int n, rfl, hb.int, h1, by rw [atI_map, e]; rfl, h _ (.int n)⟩
  · rename_i z i
    by_cases hl : z.length ≤ lim
    · rw [if_pos hl] at h
      cases e : atI z.cps.toList i with
      | none => rw [e] at h; exact h.elim
      | some c =>
        rw [e] at h
        exact .inr (.inr ⟨z, i, c, ha.str, hb.int, limLe hl, e, h _ (.str _)⟩)
    · rw [if_neg hl] at h; exact h.elim
  · exact h.elim
def cutD {α : Type} (xs : List α) (lo hi : Option Int) : List α := (xs.drop (HT.sIx xs.length 0 lo)).take (HT.sIx xs.length xs.length hi - HT.sIx xs.length 0 lo)
theorem cut_da {K : PySem.W.Frag} {F : Hp} {vs : List V} {ds : List D} (h : DaAll K F vs ds) (lo hi : Option Int) : DaAll K F (cutV vs lo hi) (cutD ds lo hi) := by
  unfold cutV cutD
  rw [h.length]
  exact (h.drop _).take _
theorem cutV_ints (ns : List Int) (lo hi : Option Int) : cutV (ns.map V.int) lo hi = (cutD ns lo hi).map V.int := by
  unfold cutV cutD
  rw [List.length_map, List.map_take, List.map_drop]
def dSl : D → Option Int → Option Int → Option R := fun a lo hi => match a with
  | .tup xs => some (.t (cutD xs lo hi))
  | .lst xs => some (.l (cutD xs lo hi))
  | .scr ns => some (.l ((cutD ns lo hi).map D.int))
  | .str z => if z.length ≤ lim then some (.d (.str (cutS z lo hi))) else none
  | _ => none
def rSlAll (K : PySem.W.Frag) : V → Option Int → Option Int → Hp → VK → Prop := fun x lo hi H Q => rSlA K x lo hi H Q ∨ rSlL K x lo hi H Q ∨ rSlS x lo hi H Q
theorem slAll {X : Cx} : SlR X (rSlAll X.K) := sl_tupA.or (sl_list.or sl_str)
theorem ops_sl {K : PySem.W.Frag} : OpS K (rSlAll K) dSl := by
  intro F H x a lo hi Q s ha h
  unfold dSl at h
  split at h
  · rename_i xs
    obtain ⟨p, vs, rfl, h1, h2⟩ := ha.tup s
    refine .inl ⟨p, vs, rfl, h1, fun e => ?_, fun _ p hp => h.2 p _ hp (cut_da h2 lo hi)⟩
    have q : cutD xs lo hi = xs := by
      unfold cutD
      rw [← h2.length, e.1, e.2, List.drop_zero, Nat.sub_zero, h2.length, List.take_length]
    rw [q] at h
    exact h.1 _ (ha.da (fun _ e => by cases e))
  · obtain ⟨p, vs, rfl, h1, h2⟩ := ha.lst s
    exact .inr (.inl ⟨p, vs, rfl, SqL.of h1, fun p hp => h p _ hp (cut_da h2 lo hi)⟩)
  · rename_i ns
    obtain ⟨p, rfl, h1⟩ := ha.scr s
    refine .inr (.inl ⟨p, _, rfl, h1, fun p hp => h p _ hp ?_⟩)
    rw [cutV_ints]
    exact DaAll.ints _
  · rename_i z
    by_cases hl : z.length ≤ lim
    · rw [if_pos hl] at h
      exact .inr (.inr ⟨z, ha.str, limLe hl, h _ (.str _)⟩)
    · rw [if_neg hl] at h; exact h.elim
  · exact h.elim
end G
namespace G
open PySem L2
/-! ### built-in functions -/
def intsOf : List D → Option (List Int)
  | [] => some []
  | .int i :: r => (intsOf r).map (i :: ·)
  | _ :: _ => none
def blsOf : List D → Option (List Bool)
  | [] => some []
  | .bl i :: r => (blsOf r).map (i :: ·)
  | _ :: _ => none
theorem da_ints {K : PySem.W.Frag} {F : Hp} : ∀ {vs : List V} {ds : List D} {ns : List Int}, DaAll K F vs ds → intsOf ds = some ns → vs = ns.map V.int
  | _, _, _, .nil, e => by cases e; rfl
  | _, _, ns, .cons a b, e => by
    cases a with
    | int i =>
      rename_i ds
      unfold intsOf at e
      cases q : intsOf ds with
      | none => rw [q] at e; cases e
      | some ms =>
        rw [q] at e
        cases e
        rw [da_ints b q]
        rfl
    | _ => cases e
theorem da_bls {K : PySem.W.Frag} {F : Hp} : ∀ {vs : List V} {ds : List D} {ns : List Bool}, DaAll K F vs ds → blsOf ds = some ns → vs = ns.map V.bl
  | _, _, _, .nil, e => by cases e; rfl
  | _, _, ns, .cons a b, e => by
    cases a with
    | bl i =>
      rename_i ds
      unfold blsOf at e
      cases q : blsOf ds with
      | none => rw [q] at e; cases e
      | some ms =>
        rw [q] at e
        cases e
        rw [da_bls b q]
        rfl
    | _ => cases e
def maxL : List Int → Int
  | [] => 0
  | [x] => x
  | x :: r => if maxL r > x then maxL r else x
def minL : List Int → Int
  | [] => 0
  | [x] => x
  | x :: r => if minL r < x then minL r else x
theorem maxL_is : ∀ {ns : List Int}, ns ≠ [] → maxL ns ∈ ns ∧ ∀ y ∈ ns, y ≤ maxL ns
  | [], h => (h rfl).elim
  | [x], _ => ⟨List.mem_singleton.mpr rfl, fun y hy => by rw [List.mem_singleton.mp hy]; exact Int.le_refl _⟩
  | x :: y :: r, _ => by
    obtain ⟨h1, h2⟩ := maxL_is (ns := y :: r) (by intro e; cases e)
    show (if maxL (y :: r) > x then maxL (y :: r) else x) ∈ _ ∧ ∀ u ∈ _, u ≤ (if maxL (y :: r) > x then maxL (y :: r) else x)
    by_cases hc : maxL (y :: r) > x
    · rw [if_pos hc]
      exact ⟨List.mem_cons_of_mem _ h1, fun u hu => by
        rcases List.mem_cons.mp hu with rfl | hu
        · exact Int.le_of_lt hc
        · exact h2 u hu⟩
    · rw [if_neg hc]
      exact ⟨List.mem_cons_self, fun u hu => by
        rcases List.mem_cons.mp hu with rfl | hu
        · exact Int.le_refl _
        · exact Int.le_trans (h2 u hu) (Int.not_lt.mp hc)⟩
theorem minL_is : ∀ {ns : List Int}, ns ≠ [] → minL ns ∈ ns ∧ ∀ y ∈ ns, minL ns ≤ y
  | [], h => (h rfl).elim
  | [x], _ => ⟨List.mem_singleton.mpr rfl, fun y hy => by rw [List.mem_singleton.mp hy]; exact Int.le_refl _⟩
  | x :: y :: r, _ => by
    obtain ⟨h1, h2⟩ := minL_is (ns := y :: r) (by intro e; cases e)
    show (if minL (y :: r) < x then minL (y :: r) else x) ∈ _ ∧ ∀ u ∈ _, (if minL (y :: r) < x then minL (y :: r) else x) ≤ u
    by_cases hc : minL (y :: r) < x
    · rw [if_pos hc]
      exact ⟨List.mem_cons_of_mem _ h1, fun u hu => by
        rcases List.mem_cons.mp hu with rfl | hu
        · exact Int.le_of_lt hc
        · exact h2 u hu⟩
    · rw [if_neg hc]
      exact ⟨List.mem_cons_self, fun u hu => by
        rcases List.mem_cons.mp hu with rfl | hu
        · exact Int.le_refl _
        · exact Int.le_trans (Int.not_lt.mp hc) (h2 u hu)⟩
def fLen : List D → Option R := fun as => match as with
  | [.tup xs] => some (.d (.int xs.length))
  | [.lst xs] => some (.d (.int xs.length))
  | [.scr xs] => some (.d (.int xs.length))
  | [.str z] => if z.length ≤ lim then some (.d (.int z.length)) else none
  | _ => none
def fMax : List D → Option R := fun as => match as with
  | [.int i, .int j] => some (.d (.int (if j > i then j else i)))
  | [.lst xs] => (match intsOf xs with
    | some (n :: ns) => some (.d (.int (maxL (n :: ns))))
    | _ => none)
  | _ => none
def fMin : List D → Option R := fun as => match as with
  | [.int i, .int j] => some (.d (.int (if j < i then j else i)))
  | [.lst xs] => (match intsOf xs with
    | some (n :: ns) => some (.d (.int (minL (n :: ns))))
    | _ => none)
  | _ => none
def fSum : List D → Option R := fun as => match as with
  | [.lst xs] => (intsOf xs).map fun ns => .d (.int ns.sum)
  | _ => none
def fAll : List D → Option R := fun as => match as with
  | [.lst xs] => (blsOf xs).map fun ns => .d (.bl (ns.all id))
  | _ => none
def fAny : List D → Option R := fun as => match as with
  | [.lst xs] => (blsOf xs).map fun ns => .d (.bl (ns.any id))
  | _ => none
def fInt : List D → Option R := fun as => match as with
  | [.int i] => some (.d (.int i))
  | [.bl k] => some (.d (.int (if k then 1 else 0)))
  | _ => none
def fStr : List D → Option R := fun as => match as with
  | [.int i] => if i.natAbs.log2 < 1920 then some (.d (.str (toString i))) else none
  | _ => none
def fList : List D → Option R := fun as => match as with
  | [.tup xs] => some (.l xs)
  | [.lst xs] => some (.l xs)
  | [.scr ns] => some (.l (ns.map D.int))
  | _ => none
def fTuple : List D → Option R := fun as => match as with
  | [.tup xs] => some (.t xs)
  | [.lst xs] => some (.t xs)
  | _ => none
section
variable {K : PySem.W.Frag}
def rLenAll (K : PySem.W.Frag) : List V → Hp → VK → Prop := fun xs H Q => (∃ p ys, xs = [.ref p] ∧ (SqL K H p ys ∨ SqT K H p ys) ∧ Q (.int ys.length) H) ∨ ∃ z, xs = [.str z] ∧ z.length ≤ sizeLine ∧ Q (.int z.length) H
theorem lenAll {X : Cx} : CallR X (.builtin "len") (rLenAll X.K) := call_len_seq.or call_len_str
theorem p1 {P : V → D → Prop} {xs : List V} {a : D} (h : Paired P xs [a]) : ∃ x, xs = [x] ∧ P x a := by
  cases h with
  | cons r t => cases t; exact ⟨_, rfl, r⟩
theorem p2 {P : V → D → Prop} {xs : List V} {a b : D} (h : Paired P xs [a, b]) : ∃ x y, xs = [x, y] ∧ P x a ∧ P y b := by
  cases h with
  | cons r t =>
    obtain ⟨y, rfl, q⟩ := p1 t
    exact ⟨_, _, rfl, r, q⟩
theorem opn_len : OpN K (rLenAll K) fLen := by
  intro F H xs as Q s hp h
  unfold fLen at h
  split at h
  · obtain ⟨x, rfl, r⟩ := p1 hp
    obtain ⟨a, vs, rfl, h1, h2⟩ := r.tup s
    exact .inl ⟨a, vs, rfl, .inr h1, by rw [h2.length]; exact h _ (.int _)⟩
  · obtain ⟨x, rfl, r⟩ := p1 hp
    obtain ⟨a, vs, rfl, h1, h2⟩ := r.lst s
    exact .inl ⟨a, vs, rfl, .inl (SqL.of h1), by rw [h2.length]; exact h _ (.int _)⟩
  · obtain ⟨x, rfl, r⟩ := p1 hp
    obtain ⟨a, rfl, h1⟩ := r.scr s
    exact .inl ⟨a, _, rfl, .inl h1, by rw [List.length_map]; exact h _ (.int _)⟩
  · rename_i z
    obtain ⟨x, rfl, r⟩ := p1 hp
    by_cases hl : z.length ≤ lim
    · rw [if_pos hl] at h
      exact .inr ⟨z, by rw [r.str], limLe hl, h _ (.int _)⟩
    · rw [if_neg hl] at h; exact h.elim
  · exact h.elim
def rMaxAll (K : PySem.W.Frag) : List V → Hp → VK → Prop := fun xs H Q => (∃ i j, xs = [.int i, .int j] ∧ Q (.int (if j > i then j else i)) H) ∨ rMax K xs H Q
def rMinAll (K : PySem.W.Frag) : List V → Hp → VK → Prop := fun xs H Q => (∃ i j, xs = [.int i, .int j] ∧ Q (.int (if j < i then j else i)) H) ∨ rMin K xs H Q
theorem maxAll {X : Cx} (hc : X.calm = true) : CallR X (.builtin "max") (rMaxAll X.K) := (call_max2 hc).or (cr_max hc)
theorem minAll {X : Cx} (hc : X.calm = true) : CallR X (.builtin "min") (rMinAll X.K) := (call_min2 hc).or (cr_min hc)
theorem opn_max : OpN K (rMaxAll K) fMax := by
  intro F H xs as Q s hp h
  unfold fMax at h
  split at h
  · obtain ⟨x, y, rfl, r1, r2⟩ := p2 hp
    exact .inl ⟨_, _, by rw [r1.int, r2.int], h _ (.int _)⟩
  · rename_i ds
    obtain ⟨x, rfl, r⟩ := p1 hp
    obtain ⟨a, vs, rfl, h1, h2⟩ := r.lst s
    split at h
    · rename_i n ns e
      have q := da_ints h2 e
      subst q
      refine .inr ⟨a, n :: ns, rfl, SqL.of h1, Nat.succ_pos _, fun m hm hy => ?_⟩
      obtain ⟨g1, g2⟩ := maxL_is (ns := n :: ns) (by intro e; cases e)
      have em : m = maxL (n :: ns) := Int.le_antisymm (g2 m hm) (hy _ g1)
      rw [em]
      exact h _ (.int _)
    · exact h.elim
  · exact h.elim
theorem opn_min : OpN K (rMinAll K) fMin := by
  intro F H xs as Q s hp h
  unfold fMin at h
  split at h
  · obtain ⟨x, y, rfl, r1, r2⟩ := p2 hp
    exact .inl ⟨_, _, by rw [r1.int, r2.int], h _ (.int _)⟩
  · rename_i ds
    obtain ⟨x, rfl, r⟩ := p1 hp
    obtain ⟨a, vs, rfl, h1, h2⟩ := r.lst s
    split at h
    · rename_i n ns e
      have q := da_ints h2 e
      subst q
      refine .inr ⟨a, n :: ns, rfl, SqL.of h1, Nat.succ_pos _, fun m hm hy => ?_⟩
      obtain ⟨g1, g2⟩ := minL_is (ns := n :: ns) (by intro e; cases e)
      have em : m = minL (n :: ns) := Int.le_antisymm (hy _ g1) (g2 m hm)
      rw [em]
      exact h _ (.int _)
    · exact h.elim
  · exact h.elim
theorem opn_sum : OpN K (rSum K) fSum := by
  intro F H xs as Q s hp h
  unfold fSum at h
  split at h
  · rename_i ds
    obtain ⟨x, rfl, r⟩ := p1 hp
    obtain ⟨a, vs, rfl, h1, h2⟩ := r.lst s
    cases e : intsOf ds with
    | none => rw [e] at h; exact h.elim
    | some ns =>
      rw [e] at h
      have q := da_ints h2 e
      subst q
      exact ⟨a, ns, rfl, SqL.of h1, h _ (.int _)⟩
  · exact h.elim
theorem opn_all : OpN K (rAll K) fAll := by
  intro F H xs as Q s hp h
  unfold fAll at h
  split at h
  · rename_i ds
    obtain ⟨x, rfl, r⟩ := p1 hp
    obtain ⟨a, vs, rfl, h1, h2⟩ := r.lst s
    cases e : blsOf ds with
    | none => rw [e] at h; exact h.elim
    | some ns =>
      rw [e] at h
      have q := da_bls h2 e
      subst q
      exact ⟨a, ns, rfl, SqL.of h1, h _ (.bl _)⟩
  · exact h.elim
theorem opn_any : OpN K (rAny K) fAny := by
  intro F H xs as Q s hp h
  unfold fAny at h
  split at h
  · rename_i ds
    obtain ⟨x, rfl, r⟩ := p1 hp
    obtain ⟨a, vs, rfl, h1, h2⟩ := r.lst s
    cases e : blsOf ds with
    | none => rw [e] at h; exact h.elim
    | some ns =>
      rw [e] at h
      have q := da_bls h2 e
      subst q
      exact ⟨a, ns, rfl, SqL.of h1, h _ (.bl _)⟩
  · exact h.elim
def rInt1 : List V → Hp → VK → Prop := fun xs H Q => (∃ i, xs = [.int i] ∧ Q (.int i) H) ∨ ∃ k, xs = [.bl k] ∧ Q (.int (if k then 1 else 0)) H
theorem opn_int : OpN K rInt1 fInt := by
  intro F H xs as Q s hp h
  unfold fInt at h
  split at h
  · obtain ⟨x, rfl, r⟩ := p1 hp
    exact .inl ⟨_, by rw [r.int], h _ (.int _)⟩
  · obtain ⟨x, rfl, r⟩ := p1 hp
    exact .inr ⟨_, by rw [r.bl], h _ (.int _)⟩
  · exact h.elim
def rStr1 : List V → Hp → VK → Prop := fun xs H Q => ∃ i, xs = [.int i] ∧ i.natAbs.log2 < 1920 ∧ Q (.str (toString i)) H
theorem opn_str : OpN K rStr1 fStr := by
  intro F H xs as Q s hp h
  unfold fStr at h
  split at h
  · rename_i i
    obtain ⟨x, rfl, r⟩ := p1 hp
    by_cases hl : i.natAbs.log2 < 1920
    · rw [if_pos hl] at h
      exact ⟨i, by rw [r.int], hl, h _ (.str _)⟩
    · rw [if_neg hl] at h; exact h.elim
  · exact h.elim
def rListOf (K : PySem.W.Frag) : List V → Hp → VK → Prop := fun xs H Q => ∃ p ys, xs = [.ref p] ∧ (SqL K H p ys ∨ SqT K H p ys) ∧ ∀ l, H l = none → Q (.ref l) (upd H l (.lst ys))
theorem opn_list : OpN K (rListOf K) fList := by
  intro F H xs as Q s hp h
  unfold fList at h
  split at h
  · obtain ⟨x, rfl, r⟩ := p1 hp
    obtain ⟨a, vs, rfl, h1, h2⟩ := r.tup s
    exact ⟨a, vs, rfl, .inr h1, fun l hl => h l vs hl h2⟩
  · obtain ⟨x, rfl, r⟩ := p1 hp
    obtain ⟨a, vs, rfl, h1, h2⟩ := r.lst s
    exact ⟨a, vs, rfl, .inl (SqL.of h1), fun l hl => h l vs hl h2⟩
  · obtain ⟨x, rfl, r⟩ := p1 hp
    obtain ⟨a, rfl, h1⟩ := r.scr s
    exact ⟨a, _, rfl, .inl h1, fun l hl => h l _ hl (DaAll.ints _)⟩
  · exact h.elim
def rTupleOf (K : PySem.W.Frag) : List V → Hp → VK → Prop := fun xs H Q => ∃ p ys, xs = [.ref p] ∧ ((SqL K H p ys ∧ ∀ l, H l = none → Q (.ref l) (upd H l (.tup ys))) ∨ (SqT K H p ys ∧ Q (.ref p) H))
theorem opn_tuple : OpN K (rTupleOf K) fTuple := by
  intro F H xs as Q s hp h
  unfold fTuple at h
  split at h
  · obtain ⟨x, rfl, r⟩ := p1 hp
    obtain ⟨a, vs, rfl, h1, h2⟩ := r.tup s
    exact ⟨a, vs, rfl, .inr ⟨h1, h.1 _ (r.da (fun _ e => by cases e))⟩⟩
  · obtain ⟨x, rfl, r⟩ := p1 hp
    obtain ⟨a, vs, rfl, h1, h2⟩ := r.lst s
    exact ⟨a, vs, rfl, .inl ⟨SqL.of h1, fun l hl => h.2 l vs hl h2⟩⟩
  · exact h.elim
end
/-! ### isinstance(x, T), T a built-in class -/
def tyD : D → String
  | .non => "NoneType"
  | .bl _ => "bool"
  | .int _ => "int"
  | .str _ => "str"
  | .tup _ => "tuple"
  | .lst _ => "list"
  | .scr _ => "list"
  | .emp => "dict"
  | .exc _ _ => "object"
  | .o _ => "object"
/-- values whose class is a built-in one, by tyD -/
def notScr : D → Bool
  | .scr _ => false
  | .exc _ _ => false
  | .o _ => false
  | _ => true
def dIsi (T : String) : D → Option R := fun a => (kitB (tyD a) T).map fun b => .d (.bl b)
theorem Rv.ty {K : PySem.W.Frag} {F H : Hp} {v : V} {d : D} (s : SameX F H) (h : Rv K F H v d) (hs : notScr d = true) : TyX K H v (.type (tyD d)) := by
  cases d with
  | non => rw [h.non]; exact .base .non
  | bl b => rw [h.bl]; exact .base (.bl b)
  | int i => rw [h.int]; exact .base (.int i)
  | str x => rw [h.str]; exact .base (.str x)
  | tup xs =>
    obtain ⟨a, vs, rfl, h1, h2⟩ := h.tup s
    rcases h1 with (h1 | ⟨o, h1⟩) | ⟨o, its, n, h1, h2, _⟩
    · exact .base (.tup h1)
    · exact .fTuple h1
    · exact .kTuple h1 h2
  | lst xs =>
    obtain ⟨a, vs, rfl, h1, h2⟩ := h.lst s
    exact .base (.lst h1)
  | scr ns => cases hs
  | exc _ _ => cases hs
  | o _ => cases hs
  | emp =>
    obtain ⟨a, rfl, h1⟩ := h.emp s
    exact .base (.dK h1)
end G
namespace G
open PySem L2
section
variable {ι : Type} {M : MI} {xr : Str → Option Value} {K : PySem.W.Frag} {X : ι → Cx} {W : WX} {a b : Expr} {f f' : Sm M S} {pos : Pos}
/-- what every place of a def's text has: its written part, calm, no name twice -/
structure Pl (K : PySem.W.Frag) (X : ι → Cx) (N : List Str) (mg : Str → Option Value) : Prop where
  k : ∀ j, (X j).K = K
  c : ∀ j, (X j).calm = true
  n : ∀ j, (X j).N = N
  nd : N.Nodup
  g : ∀ j, (X j).mg = mg
  u : ∀ j, (X j).A.units + 300 < cLine
variable {N : List Str} {mg : Str → Option Value}
theorem Pl.nds (p : Pl K X N mg) : ∀ j, (X j).N.Nodup := fun j => by rw [p.n j]; exact p.nd
theorem Pl.blk (p : Pl K X N mg) (scope : Scope) : Pl K (Blk X scope) N mg := ⟨fun q => p.k q.1, fun q => p.c q.1, fun q => p.n q.1, p.nd, fun q => p.g q.1, fun q => p.u q.1⟩
theorem de_add (p : Pl K X N mg) (ha : DE M xr K X W a f) (hb : DE M xr K X W b f') : DE M xr K X W (.BinOp a .Add b pos) (eBin dAdd f f') := de_bin (fun j => by rw [← p.k j]; exact opAdd) op2_add ha hb
theorem de_sub (ha : DE M xr K X W a f) (hb : DE M xr K X W b f') : DE M xr K X W (.BinOp a .Sub b pos) (eBin dSub f f') := de_bin (fun j => op_sub) (op2_I0 fun _ _ _ => .int _) ha hb
theorem de_mul (ha : DE M xr K X W a f) (hb : DE M xr K X W b f') : DE M xr K X W (.BinOp a .Mult b pos) (eBin dMul f f') := de_bin (fun j => op_mul) (op2_I (fun i j h => show (-(2 ^ 64) < i ∧ i < 2 ^ 64) ∨ (-(2 ^ 64) < j ∧ j < 2 ^ 64) from of_decide_eq_true h) fun _ _ _ => .int _) ha hb
theorem de_fdiv (ha : DE M xr K X W a f) (hb : DE M xr K X W b f') : DE M xr K X W (.BinOp a .FloorDiv b pos) (eBin dFdiv f f') := de_bin (fun j => op_fdiv) (op2_I (fun i j h => show 0 < j ∧ j < 1073741824 from of_decide_eq_true h) fun _ _ _ => .int _) ha hb
theorem de_mod (ha : DE M xr K X W a f) (hb : DE M xr K X W b f') : DE M xr K X W (.BinOp a .Mod b pos) (eBin dMod f f') := de_bin (fun j => op_mod) (op2_I (fun _ _ h => of_decide_eq_true h) fun _ _ _ => .int _) ha hb
theorem de_pow (ha : DE M xr K X W a f) (hb : DE M xr K X W b f') : DE M xr K X W (.BinOp a .Pow b pos) (eBin dPow f f') := de_bin (fun j => op_pow) (op2_I (fun i j h => show 0 ≤ j ∧ j ≤ 1000000 ∧ i.natAbs < 2 ^ 64 from of_decide_eq_true h) fun _ _ _ => .int _) ha hb
theorem de_shl (ha : DE M xr K X W a f) (hb : DE M xr K X W b f') : DE M xr K X W (.BinOp a .LShift b pos) (eBin dShl f f') := de_bin (fun j => op_shl) (op2_I (fun i j h => show 0 ≤ j ∧ j ≤ 1000000 ∧ i.natAbs < 2 ^ 64 from of_decide_eq_true h) fun _ _ _ => .int _) ha hb
theorem de_shr (ha : DE M xr K X W a f) (hb : DE M xr K X W b f') : DE M xr K X W (.BinOp a .RShift b pos) (eBin dShr f f') := de_bin (fun j => op_shr) (op2_I (fun _ _ h => of_decide_eq_true h) fun _ _ _ => .int _) ha hb
theorem op1_neg : Op1 K (rU fun i => .int (-i)) dNeg := by
  intro F H x a Q s ha h
  cases a with
  | int i => exact ⟨i, ha.int, h _ (.int _)⟩
  | _ => exact h.elim
theorem de_neg (ha : DE M xr K X W a f) : DE M xr K X W (.UnaryOp .USub a pos) (eUn dNeg f) := de_un (fun j => un_neg) op1_neg ha
/-- comparisons: a relation by its operator, with what it computes -/
inductive Cp (K : PySem.W.Frag) (X : ι → Cx) : CmpOp → (D → D → Option R) → Prop
  | mk {op : CmpOp} {g : D → D → Option R} (r : R2) (ho : ∀ j, OpR (X j) (compareOp op) r) (hd : Op2 K r g) : Cp K X op g
theorem Cp.de {op : CmpOp} {g : D → D → Option R} (c : Cp K X op g) (ha : DE M xr K X W a f) (hb : DE M xr K X W b f') (hm : behindInMarks op b = false) : DE M xr K X W (.Compare a [op] [b] pos) (eBin g f f') := by
  cases c with
  | mk r ho hd => exact de_cmp ho hd ha hb hm
theorem Cp.dt {op : CmpOp} {g : D → D → Option R} (c : Cp K X op g) (ha : DE M xr K X W a f) (hb : DE M xr K X W b f') (hm : behindInMarks op b = false) : DT M xr K X W (.Compare a [op] [b] pos) (tOf (eBin g f f')) := by
  cases c with
  | mk r ho hd => exact dt_cmp ho hd ha hb hm
theorem cp_lt : Cp K X .Lt dLt := ⟨_, fun j => op_lt, op2_I0 fun _ _ _ => .bl _⟩
theorem cp_le : Cp K X .LtE dLe := ⟨_, fun j => op_le, op2_I0 fun _ _ _ => .bl _⟩
theorem cp_gt : Cp K X .Gt dGt := ⟨_, fun j => op_gt, op2_I0 fun _ _ _ => .bl _⟩
theorem cp_ge : Cp K X .GtE dGe := ⟨_, fun j => op_ge, op2_I0 fun _ _ _ => .bl _⟩
theorem cp_eq (p : Pl K X N mg) : Cp K X .Eq dEq := ⟨rEqW K, fun j => by rw [← p.k j]; exact op_eqW (p.u j), op2_eq⟩
theorem cp_ne (p : Pl K X N mg) : Cp K X .NotEq dNe := ⟨rNeW K, fun j => by rw [← p.k j]; exact op_neW (p.u j), op2_ne⟩
theorem cp_is : Cp K X .Is dIs := ⟨_, fun j => opIs, op2_is⟩
theorem cp_isNot : Cp K X .IsNot dIsNot := ⟨_, fun j => opIsNot, op2_isNot⟩
theorem cp_in (p : Pl K X N mg) : Cp K X .In dIn := ⟨rInAll K, fun j => by rw [← p.k j]; exact opIn, op2_in⟩
theorem cp_notIn (p : Pl K X N mg) : Cp K X .NotIn dNotIn := ⟨rNotInAll K, fun j => by rw [← p.k j]; exact opNotIn, op2_notIn⟩
/-- a < b < c -/
def eChain (g g' : D → D → Option R) (f f' f'' : Sm M S) : Sm M S := fun z => (opd f z).bind fun s z1 => (opd f' z1).bind fun s' z2 => (fin ((rd z2 s).bind fun x => (rd z2 s').bind fun y => g x y) z2).bind fun r z3 => match r with
  | .d (.bl true) => (opd f'' z3).bind fun s'' z4 => fin ((rd z4 s').bind fun x => (rd z4 s'').bind fun y => g' x y) z4
  | .d (.bl false) => .ok (.d (.bl false)) z3
  | _ => .bad
theorem de_ixA (p : Pl K X N mg) (ha : DE M xr K X W a f) (hb : DE M xr K X W b f') (hs : PlainIx b := by exact fun _ _ => rfl) : DE M xr K X W (.Subscript a b pos) (eBin dIx f f') := de_ix (fun j => by rw [← p.k j]; exact ix_seq) op2_ix ha hb hs
theorem de_sl {lo hi : Option Expr} {fl fh : Sm M (Option Int)} {p2 : Pos} (p : Pl K X N mg) (h : DE M xr K X W a f) (hl : DO M xr K X W lo fl) (hh : DO M xr K X W hi fh) : DE M xr K X W (.Subscript a (.Slice lo hi none p2) pos) (eSl dSl f fl fh) := de_slice (fun j => by rw [← p.k j]; exact slAll) ops_sl h hl hh
/-! built-in functions by name: x is not the text's own -/
inductive Fb (K : PySem.W.Frag) (X : ι → Cx) : Str → (List D → Option R) → Prop
  | fn {x : Str} {g : List D → Option R} (id : String) (r : List V → Hp → VK → Prop) (hc : ∀ j, CallR (X j) (.builtin id) r) (hd : OpN K r g) (hv : bootBuiltins x = some (.builtin id)) (hn : x ≠ "__name__") (hb : (x == ("__debug__" : Str)) = false) : Fb K X x g
  | ty {x : Str} {g : List D → Option R} (T : String) (r : List V → Hp → VK → Prop) (hc : ∀ j, CallR (X j) (.type T) r) (hd : OpN K r g) (hv : bootBuiltins x = some (.type T)) (hn : x ≠ "__name__") (hb : (x == ("__debug__" : Str)) = false) : Fb K X x g
theorem Fb.de {x : Str} {g : List D → Option R} (c : Fb K X x g) {e : Expr} {es : List Expr} {h : Sm M (List S)} {pp : Pos} (p : Pl K X N mg) (hm : mg x = none) (ha : DA M xr K X W (e :: es) h) (hg : ∀ j, Gl (X j) x := by intro _; rfl)
    (he : ∀ j, starEach (e :: es) (X j).env = (false, eval e (X j).env) :: starEach es (X j).env := by intro _; rfl) (hpl : ∀ j, (backTo pos (starEach es (X j).env)).any (·.1) = false := by intro _; rfl) : DE M xr K X W (.Call (.Name x pp) (e :: es) [] pos) (eFn g h) := by
  cases c with
  | fn id r hc hd hv hn hb => exact de_callB hc hd hg (fun j => by rw [p.g j]; exact hm) hv ha hn hb he hpl
  | ty T r hc hd hv hn hb => exact de_callTy hc hd hg (fun j => by rw [p.g j]; exact hm) hv ha hn hb he hpl
theorem fb_len (p : Pl K X N mg) : Fb K X "len" fLen := .fn "len" (rLenAll K) (fun j => by rw [← p.k j]; exact lenAll) opn_len boot_len (by decide) (by decide)
theorem fb_max (p : Pl K X N mg) : Fb K X "max" fMax := .fn "max" (rMaxAll K) (fun j => by rw [← p.k j]; exact maxAll (p.c j)) opn_max PyProof.Rows.boot_max (by decide) (by decide)
theorem fb_min (p : Pl K X N mg) : Fb K X "min" fMin := .fn "min" (rMinAll K) (fun j => by rw [← p.k j]; exact minAll (p.c j)) opn_min PyProof.Rows.boot_min (by decide) (by decide)
theorem fb_sum (p : Pl K X N mg) : Fb K X "sum" fSum := .fn "sum" (rSum K) (fun j => by rw [← p.k j]; exact cr_sum (p.c j)) opn_sum PyProof.Rows.boot_sum (by decide) (by decide)
theorem fb_all (p : Pl K X N mg) : Fb K X "all" fAll := .fn "all" (rAll K) (fun j => by rw [← p.k j]; exact cr_all (p.c j)) opn_all PyProof.Rows.boot_all (by decide) (by decide)
theorem fb_any (p : Pl K X N mg) : Fb K X "any" fAny := .fn "any" (rAny K) (fun j => by rw [← p.k j]; exact cr_any (p.c j)) opn_any PyProof.Rows.boot_any (by decide) (by decide)
theorem fb_int : Fb K X "int" fInt := .ty "int" rInt1 (fun j => call_int1) opn_int PyProof.Rows.boot_int (by decide) (by decide)
theorem fb_str : Fb K X "str" fStr := .ty "str" rStr1 (fun j => call_str_int) opn_str PyProof.Rows.boot_str (by decide) (by decide)
theorem fb_list (p : Pl K X N mg) : Fb K X "list" fList := .ty "list" (rListOf K) (fun j => by rw [← p.k j]; exact call_list_of) opn_list PyProof.Rows.boot_list (by decide) (by decide)
theorem fb_tuple (p : Pl K X N mg) : Fb K X "tuple" fTuple := .ty "tuple" (rTupleOf K) (fun j => by rw [← p.k j]; exact call_tuple_of) opn_tuple PyProof.Rows.boot_tuple (by decide) (by decide)
/-- isinstance(e, T) -/
def dIsiN (T : String) : D → Option R := fun x => if notScr x = true then dIsi T x else none
theorem de_isi {T : Str} {t : String} {e : Expr} {pp pt : Pos} {g : Sm M S} (p : Pl K X N mg) (hm : mg "isinstance" = none) (hmT : mg T = none) (hvT : bootBuiltins T = some (.type t)) (h : DE M xr K X W e g) (hg : ∀ j, Gl (X j) "isinstance" := by intro _; rfl) (hgT : ∀ j, Gl (X j) T := by intro _; rfl) (hnT : T ≠ "__name__" := by decide) (hbT : (T == ("__debug__" : Str)) = false := by decide)
    (he : ∀ j, starEach [e, .Name T pt] (X j).env = (false, eval e (X j).env) :: starEach [.Name T pt] (X j).env := by intro _; rfl) (he2 : ∀ j, starEach [.Name T pt] (X j).env = (false, eval (.Name T pt) (X j).env) :: starEach [] (X j).env := by intro _; rfl) (hpl : ∀ j, (backTo pos (starEach [.Name T pt] (X j).env)).any (·.1) = false := by intro _; rfl) :
    DE M xr K X W (.Call (.Name "isinstance" pp) [e, .Name T pt] [] pos) (eUn (dIsiN t) g) := by
  obtain ⟨tt, pe, c⟩ := h
  refine ⟨tCB (rIsi K) (tCons tt (tCons (tC (.ty t)) tNil)), fun j => ?_, fun G σ H F z Q hK hx ok hh => ?_⟩
  · rw [← p.k j]
    exact pe_callB call_isi (hg j) (by rw [p.g j]; exact hm) PyProof.Rows.boot_isinstance (pa_cons (pe j) (pa_cons (pe_bltn (v := .ty t) (hgT j) (by rw [p.g j]; exact hmT) hvT rfl hnT hbT) pa_nil (he2 j)) (he j)) (by decide) (by decide) (he j) (hpl j)
  · refine cmp_opd c G σ H F z _ hK hx ok (hit_bind hh fun s z1 v H1 F1 _ sm1 ok1 e1 h1 => ?_)
    have q := fin_hit ok1 h1
    cases er : rd z1 s with
    | none => rw [er] at q; exact q.elim
    | some x =>
      rw [er] at q
      have q' : Hit0 G.K F1 H1 (dIsiN t x) Q := q
      unfold dIsiN at q'
      by_cases hn : notScr x = true
      · rw [if_pos hn] at q'
        unfold dIsi at q'
        cases ek : kitB (tyD x) t with
        | none => rw [ek] at q'; exact q'.elim
        | some b =>
          rw [ek] at q'
          have ty := (EO.rv ok1 e1 er).ty ok1.sub hn
          exact ⟨v, .ty t, .type (tyD x), .type t, b, rfl, .ty t, by rw [← hK]; exact ty, kit_ty ek, q' _ (.bl b)⟩
      · rw [if_neg hn] at q'; exact q'.elim
/-! ### truth of a value -/
def dTru : D → Option Bool := fun a => match a with
  | .non => some false
  | .bl b => some b
  | .int i => some (i != 0)
  | .str z => if z.length ≤ lim then some ((z.length : Int) != 0) else none
  | .tup xs => some (!xs.isEmpty)
  | .lst xs => some (!xs.isEmpty)
  | .scr xs => some (!xs.isEmpty)
  | .emp => none
  | .exc _ _ => none
  | .o _ => none
theorem da_empty {K : PySem.W.Frag} {F : Hp} {vs : List V} {ds : List D} (h : DaAll K F vs ds) : (!vs.isEmpty) = !ds.isEmpty := by
  cases h <;> rfl
theorem tru_rv {F H : Hp} {v : V} {d : D} {k : Bool} (s : SameX F H) (h : Rv K F H v d) (e : dTru d = some k) : TruV K v H k := by
  cases d with
  | non => cases e; rw [h.non]; rfl
  | bl b => cases e; rw [h.bl]; rfl
  | int i => cases e; rw [h.int]; rfl
  | str z =>
    unfold dTru at e
    by_cases hl : z.length ≤ lim
    · simp only [if_pos hl] at e
      cases e
      rw [h.str]
      exact ⟨limLe hl, rfl⟩
    · simp only [if_neg hl] at e
      cases e
  | tup xs =>
    cases e
    obtain ⟨a, vs, rfl, h1, h2⟩ := h.tup s
    exact .inr (.inl ⟨vs, h1, (da_empty h2).symm⟩)
  | lst xs =>
    cases e
    obtain ⟨a, vs, rfl, h1, h2⟩ := h.lst s
    exact .inl ⟨vs, SqL.of h1, (da_empty h2).symm⟩
  | scr xs =>
    cases e
    obtain ⟨a, rfl, h1⟩ := h.scr s
    exact .inl ⟨_, h1, by cases xs <;> rfl⟩
  | emp => cases e
  | exc _ _ => cases e
  | o _ => cases e
theorem dt_tru {e : Expr} {g : Sm M S} (p : Pl K X N mg) (h : DE M xr K X W e g) (he : ∀ j whole, isTrue e (X j).env whole = (do let v ← whole; standAt e.pos; holding [v] (truthy v)) := by intro _ _; rfl) : DT M xr K X W e (tTru dTru g) := by
  obtain ⟨t, pe, c⟩ := h
  refine ⟨fun σ H Q => t σ H fun x H1 => ∃ k, TruV K x H1 k ∧ Q k H1, fun j => ?_, fun G σ H F z Q hK hx ok hh => ?_⟩
  · rw [← p.k j]
    exact pt_truth (pe j) (he j)
  · refine cmp_opd c G σ H F z _ hK hx ok (hit_bind hh fun s z1 v H1 F1 _ sm1 ok1 e1 h1 => ?_)
    cases er : rd z1 s with
    | none => rw [er] at h1; exact h1.elim
    | some x =>
      rw [er] at h1
      have h2 : HitG M G W σ F1 (RelB G σ) (Rs.opt (dTru x) z1) Q := h1
      cases ek : dTru x with
      | none => rw [ek] at h2; exact h2.elim
      | some k =>
        rw [ek] at h2
        exact ⟨k, by rw [← hK]; exact tru_rv ok1.sub (EO.rv ok1 e1 er) ek, h2 k H1 F1 (Same.refl _) ok1 rfl⟩
/-! ### what is walked -/
def iAny (K : PySem.W.Frag) (tl : TE) : TI := fun σ H R => tl σ H fun x H1 => (∃ a, x = .ref a ∧ (∃ xs, SqL K H1 a xs) ∧ R (Itl K a) H1) ∨ (∃ a, x = .ref a ∧ (∃ xs, SqT K H1 a xs) ∧ R (Itt K a) H1) ∨ ∃ y, x = .str y ∧ R (Its y) H1
theorem pi_any {Y : Cx} {tg l : Expr} {tl : TE} (hl : PE Y l tl) : PI Y tg l (iAny Y.K tl) := by
  refine ⟨fun pins s σ H R I h => ?_⟩
  refine thn (hl.run pins s σ H _ I h) fun v s1 ⟨x, H1, I1, r1, q1⟩ => ?_
  rcases q1 with ⟨a, rfl, ⟨xs, hq⟩, q⟩ | ⟨a, rfl, ⟨xs, hq⟩, q⟩ | ⟨y, rfl, q⟩
  · cases r1
    obtain ⟨its, rv, p, hz⟩ := I1.list hq
    exact wpAny_pyIter_list p.isList (pi_one (tk := s1.toks) I1 _ (turn_list a _) ⟨_, Heap.get?_push_size _ rfl, rfl, rfl⟩ q)
  · cases r1
    obtain ⟨its, rv, p, hz⟩ := I1.tuple hq
    exact wpAny_pyIter_tuple (show s1.heap.IsTuple a its.toArray from p) (pi_one (tk := s1.toks) I1 _ (turn_tuple a _) ⟨_, Heap.get?_push_size _ rfl, rfl, rfl⟩ q)
  · obtain ⟨t, rfl⟩ := r1
    cases ha : y.cps.all (· < 128)
    · exact wpAny_pyIter_wide ha (pi_one (tk := s1.toks) I1 _ (turn_str _ y t "str_iterator" (.inr rfl)) ⟨_, Heap.get?_push_size _ rfl, rfl, rfl⟩ q)
    · exact wpAny_pyIter_ascii ha (pi_one (tk := s1.toks) I1 _ (turn_str _ y t "str_ascii_iterator" (.inl rfl)) ⟨_, Heap.get?_push_size _ rfl, rfl, rfl⟩ q)
def itemsD : D → Option (List D)
  | .lst xs => some xs
  | .tup xs => some xs
  | .scr ns => some (ns.map D.int)
  | .str z => some (z.cps.toList.map fun c => .str ⟨#[c]⟩)
  | _ => none
def iAnyM (f : Sm M S) : Sm M (List D) := fun z => (escf f z).bind fun s z1 => match s with
  | .d x => Rs.opt (itemsD x) z1
  | _ => .bad
theorem yd_old {F : Hp} {ds : List D} {i : Nat} {H : Hp} {v : V} {d : D} (hd : ds[i]? = some d) (da : Da K F v d) : YD K F ds i H v H := ⟨d, hd, fun F1 s1 s2 _ => ⟨F1, Same.refl _, s2, fun b o e => ⟨e, rfl⟩, fun _ _ e => e, da.mono s1⟩⟩
theorem di_any {tg l : Expr} {g : Sm M S} (p : Pl K X N mg) (h : DE M xr K X W l g) : DI M xr K X W tg l (iAnyM g) := by
  obtain ⟨t, pe, c⟩ := h
  refine ⟨iAny K t, fun j => by rw [← p.k j]; exact pi_any (pe j), fun G σ H F z Q hK hx ok hh => ?_⟩
  refine cmp_esc c G σ H F z _ hK hx ok (hit_bind hh fun s z1 v H1 F1 _ sm ok1 ev h1 => ?_)
  subst hK
  cases s with
  | d x =>
    have ev' : Da G.K F1 v x := ev
    cases x with
    | lst xs =>
      cases ev' with
      | lst q r =>
        rename_i a vs
        refine .inl ⟨a, rfl, ⟨vs, SqL.of (ok1.sub.lst q)⟩, h1 _ H1 F1 (Same.refl _) ok1 ?_⟩
        have w := (walk_list (K := G.K) (a := a) (xs := vs)).mono (G' := fun H => SameX F1 H) (Y' := YD G.K F1 xs) (fun H s => SqL.of (s.lst q)) (fun i H x H' hi _ ⟨e1, e2⟩ => by
          obtain ⟨d, hd, da⟩ := r.getV e2
          rw [e1]
          exact yd_old hd da)
        rw [r.length] at w
        exact w
    | tup xs =>
      cases ev' with
      | tup q r =>
        rename_i a vs
        refine .inr (.inl ⟨a, rfl, ⟨vs, ok1.sub.tup q⟩, h1 _ H1 F1 (Same.refl _) ok1 ?_⟩)
        have w := (walk_tup (K := G.K) (a := a) (xs := vs)).mono (G' := fun H => SameX F1 H) (Y' := YD G.K F1 xs) (fun H s => s.tup q) (fun i H x H' hi _ ⟨e1, e2⟩ => by
          obtain ⟨d, hd, da⟩ := r.getV e2
          rw [e1]
          exact yd_old hd da)
        rw [r.length] at w
        exact w
    | scr ns =>
      cases ev' with
      | scr q =>
        rename_i a
        refine .inl ⟨a, rfl, ⟨_, ok1.sub.seq q⟩, h1 _ H1 F1 (Same.refl _) ok1 ?_⟩
        have w := (walk_list (K := G.K) (a := a) (xs := ns.map V.int)).mono (G' := fun H => SameX F1 H) (Y' := YD G.K F1 (ns.map D.int)) (fun H s => s.seq q) (fun i H x H' hi _ ⟨e1, e2⟩ => by
          obtain ⟨d, hd, da⟩ := (DaAll.ints (K := G.K) (F := F1) ns).getV e2
          rw [e1]
          exact yd_old hd da)
        rw [List.length_map] at w
        show Walk _ (ns.map D.int).length _ _
        rw [List.length_map]
        exact w
    | str y =>
      cases ev'
      refine .inr (.inr ⟨y, rfl, h1 _ H1 F1 (Same.refl _) ok1 ?_⟩)
      have w := (walk_str (z := y)).mono (G' := fun H => SameX F1 H) (Y' := YD G.K F1 (y.cps.toList.map fun c => D.str ⟨#[c]⟩)) (fun H s => trivial) (fun i H x H' hi _ ⟨e1, c, e2, e3⟩ => by
        rw [e1, e3]
        exact yd_old (by rw [List.getElem?_map, Array.getElem?_toList, e2]; rfl) (.str _))
      show Walk _ (y.cps.toList.map fun c => D.str ⟨#[c]⟩).length _ _
      rw [List.length_map, Array.length_toList]
      exact w
    | _ => exact h1.elim
  | _ => exact h1.elim
def rangeD (lo : Int) (n : Nat) : List D := (List.range n).map fun (i : Nat) => D.int (lo + (i : Int))
def iRg1M (g : Sm M (List S)) : Sm M (List D) := fun z => (g z).bind fun ss z1 => match ss with
  | [.d (.int j)] => if -(2 ^ 62) ≤ j ∧ j < 2 ^ 62 then .ok (rangeD 0 j.toNat) z1 else .bad
  | _ => .bad
theorem wk_range {F : Hp} (lo : Int) (n : Nat) : Wk K F (Itr lo n) (rangeD lo n) := by
  have w := (walk_range (lo := lo) (n := n)).mono (G' := fun H => SameX F H) (Y' := YD K F (rangeD lo n)) (fun H s => trivial) (fun i H x H' hi _ ⟨e1, e2⟩ => by
    rw [e1, e2]
    refine yd_old (d := .int (lo + (i : Int))) ?_ (.int _)
    unfold rangeD
    rw [List.getElem?_map, List.getElem?_range hi]
    rfl)
  unfold Wk
  have e : (rangeD lo n).length = n := by
    unfold rangeD
    rw [List.length_map, List.length_range]
  rw [e]
  exact w
theorem di_range1 {tg e : Expr} {g : Sm M (List S)} {pp : Pos} (p : Pl K X N mg) (hm : mg "range" = none) (ha : DA M xr K X W [e] g) (hg : ∀ j, Gl (X j) "range" := by intro _; rfl) (hs : ∀ j, starEach [e] (X j).env = [(false, eval e (X j).env)] := by intro _; rfl) : DI M xr K X W tg (.Call (.Name "range" pp) [e] [] pos) (iRg1M g) := by
  obtain ⟨t, pa, c⟩ := ha
  refine ⟨_, fun j => pi_range1 (hg j) (by rw [p.g j]; exact hm) (pa j) (hs j), fun G σ H F z Q hK hx ok hh => ?_⟩
  refine c G σ H F z _ hK hx ok (hit_bind hh fun ss z1 vs H1 F1 _ sm ok1 ea h1 => ?_)
  unfold RelA at ea
  match ss, ea, h1 with
  | [.d (.int j)], ea, h1 =>
    by_cases hj : -(2 ^ 62) ≤ j ∧ j < 2 ^ 62
    · simp only [if_pos hj] at h1
      cases ea with
      | cons r t =>
        cases t
        cases (show Da G.K F1 _ (.int j) from r)
        exact ⟨j, rfl, hj.1, hj.2, h1 _ H1 F1 (Same.refl _) ok1 (wk_range 0 j.toNat)⟩
    · simp only [if_neg hj] at h1
      exact h1.elim
  | [], _, h1 => exact h1.elim
  | [.l _], _, h1 => exact h1.elim
  | [.v _], _, h1 => exact h1.elim
  | [.m _], _, h1 => exact h1.elim
  | [.d .non], _, h1 => exact h1.elim
  | [.d (.bl _)], _, h1 => exact h1.elim
  | [.d (.str _)], _, h1 => exact h1.elim
  | [.d (.tup _)], _, h1 => exact h1.elim
  | [.d (.lst _)], _, h1 => exact h1.elim
  | [.d (.scr _)], _, h1 => exact h1.elim
  | [.d .emp], _, h1 => exact h1.elim
  | [.d (.exc _ _)], _, h1 => exact h1.elim
  | [.d (.o _)], _, h1 => exact h1.elim
  | .d (.int _) :: _ :: _, _, h1 => exact h1.elim
  | .d .non :: _ :: _, _, h1 => exact h1.elim
  | .d (.bl _) :: _ :: _, _, h1 => exact h1.elim
  | .d (.str _) :: _ :: _, _, h1 => exact h1.elim
  | .d (.tup _) :: _ :: _, _, h1 => exact h1.elim
  | .d (.lst _) :: _ :: _, _, h1 => exact h1.elim
  | .d (.scr _) :: _ :: _, _, h1 => exact h1.elim
  | .d .emp :: _ :: _, _, h1 => exact h1.elim
  | .d (.exc _ _) :: _ :: _, _, h1 => exact h1.elim
  | .d (.o _) :: _ :: _, _, h1 => exact h1.elim
  | .l _ :: _ :: _, _, h1 => exact h1.elim
  | .v _ :: _ :: _, _, h1 => exact h1.elim
  | .m _ :: _ :: _, _, h1 => exact h1.elim
end
end G
namespace G
open PySem L2
/-! ### the law's drawing machine: a dict with cells, at, left -/
structure Mach where
  cells : List Int
  at_ : Nat
  left : List Int
def mkvs (c lf : Addr) (k : Int) : List (Key × V) := [(Sum.inr ("cells" : Str), .ref c), (Sum.inr ("at" : Str), .int k), (Sum.inr ("left" : Str), .ref lf)]
theorem k_ca : ¬ ((Sum.inr ("cells" : Str) : Key) = Sum.inr ("at" : Str)) := by decide +kernel
theorem k_cl : ¬ ((Sum.inr ("cells" : Str) : Key) = Sum.inr ("left" : Str)) := by decide +kernel
theorem k_al : ¬ ((Sum.inr ("at" : Str) : Key) = Sum.inr ("left" : Str)) := by decide +kernel
theorem k_la : ¬ ((Sum.inr ("left" : Str) : Key) = Sum.inr ("at" : Str)) := by decide +kernel
theorem mk_at (c lf : Addr) (k : Int) : valV (mkvs c lf k) (Sum.inr ("at" : Str)) = some (.int k) := by
  unfold mkvs
  rw [valV_neg k_ca, valV_pos rfl]
theorem mk_cells (c lf : Addr) (k : Int) : valV (mkvs c lf k) (Sum.inr ("cells" : Str)) = some (.ref c) := by
  unfold mkvs
  rw [valV_pos rfl]
theorem mk_left (c lf : Addr) (k : Int) : valV (mkvs c lf k) (Sum.inr ("left" : Str)) = some (.ref lf) := by
  unfold mkvs
  rw [valV_neg k_cl, valV_neg k_al, valV_pos rfl]
theorem mk_put (c lf : Addr) (k j : Int) : putK (mkvs c lf k) (Sum.inr ("at" : Str)) (.int j) = mkvs c lf j := by
  unfold putK mkvs
  rw [if_pos (by simp)]
  simp only [List.map_cons, List.map_nil, if_neg k_ca, if_neg k_la, if_true]
theorem freeX {F H : Hp} (s : SameX F H) (t : ∀ a ps, F a = some (.tbl ps) → H a ≠ none) {p : Addr} (h : H p = none) : F p = none := by
  cases q : F p with
  | none => rfl
  | some o =>
    by_cases n : ∃ ps, o = .tbl ps
    · obtain ⟨ps, rfl⟩ := n
      exact (t p ps q h).elim
    · have := s p o q (fun ps e => n ⟨ps, e⟩)
      rw [h] at this
      cases this
theorem tgOn {F H H' : Hp} (t : ∀ a ps, F a = some (.tbl ps) → H a ≠ none) (k : ∀ b o ps, F b = some (.tbl ps) → H b = some o → H' b = some o) : ∀ a ps, F a = some (.tbl ps) → H' a ≠ none := fun a ps e => by
  cases q : H a with
  | none => exact (t a ps e q).elim
  | some o => rw [k a o ps e q]; intro z; cases z
abbrev M1 : MI where
  T := Mach
  ok := fun _ F H ms t => ∃ m lf c, ms = [m, lf] ∧ m ≠ lf ∧ H m = some (.dK (mkvs c lf t.at_)) ∧ H lf = some (.lst (t.left.map V.int)) ∧ F c = some (.lst (t.cells.map V.int)) ∧ t.left.length = t.cells.length
  mono := fun {K F F' H H' ms t} hF _ hm h => by
    obtain ⟨m, lf, c, rfl, hn, h1, h2, h3, h4⟩ := h
    exact ⟨m, lf, c, rfl, hn, (hm m (by simp)).trans h1, (hm lf (by simp)).trans h2, hF _ _ h3, h4⟩
def atOf (t : Mach) : Nat := t.at_ % max 1 t.cells.length
def rawNum (c k : Int) : Int := ((c + 7919 * k * k + 31 * k) * 48271 % 2147483647 * 69621 % 2147483629) / 64 * 16807 % 2147483647 / 32
def nextM (t : Mach) (many : Int) : Int × Mach :=
  if t.cells ≠ [] ∧ t.left.getD (atOf t) 0 > 0 then (t.left.getD (atOf t) 0 % many, { t with at_ := t.at_ + 1, left := t.left.set (atOf t) (t.left.getD (atOf t) 0 / many) })
  else (rawNum (if t.cells ≠ [] then t.cells.getD (atOf t) 0 % 2147483647 else 17) t.at_ % many, { t with at_ := t.at_ + 1 })
def drawLim : Nat := 2 ^ 60
def nextS : List S → Mach → Rs S Mach := fun args t => match args with
  | [.m 0, .d (.int many)] => if 0 < many ∧ many < 1073741824 ∧ t.at_ < drawLim then .ok (.d (.int (nextM t many).1)) (nextM t many).2 else .bad
  | _ => .bad
def t_fin : TS :=
  tSeq (tAsg (tOp (rI (fun _ j => 0 < j) fun i j => .int (i % j)) (tOp (rI CMul fun i j => .int (i * j)) (tOp (rI (fun _ j => 0 < j) fun i j => .int (i % j)) (tOp (rI CMul fun i j => .int (i * j)) (tOp (rI0 fun i j => .int (i + j)) (tOp (rI0 fun i j => .int (i + j)) (tVar 6) (tOp (rI CMul fun i j => .int (i * j)) (tOp (rI CMul fun i j => .int (i * j)) (tC (.int 7919)) (tVar 2)) (tVar 2))) (tOp (rI CMul fun i j => .int (i * j)) (tC (.int 31)) (tVar 2))) (tC (.int 48271))) (tC (.int 2147483647))) (tC (.int 69621))) (tC (.int 2147483629))) (gName 7))
  (tRet (tOp (rI (fun _ j => 0 < j) fun i j => .int (i % j)) (tOp (rI CDiv fun i j => .int (i / j)) (tOp (rI (fun _ j => 0 < j) fun i j => .int (i % j)) (tOp (rI CMul fun i j => .int (i * j)) (tOp (rI CDiv fun i j => .int (i / j)) (tVar 7) (tC (.int 64))) (tC (.int 16807))) (tC (.int 2147483647))) (tC (.int 32))) (tVar 1)))
def t_tail (K : PySem.W.Frag) : TS :=
  tSeq (tAsg (tC (.int 17)) (gName 6))
  (tSeq (tIfS (tTest (tOp (rNeD K) (tVar 3) (tLst tNil))) (tAsg (tOp (rI (fun _ j => 0 < j) fun i j => .int (i % j)) (tOp (rIxL K) (tVar 3) (tVar 4)) (tC (.int 2147483647))) (gName 6)) tNext)
  t_fin)
def t_rest (K : PySem.W.Frag) : TS :=
  tSeq (tIfS (tAnd (tTest (tOp (rNeD K) (tVar 3) (tLst tNil))) (tTest (tOp (rI0 fun i j => .bl (decide (j < i))) (tOp (rIxL K) (tDGet (tVar 0) (tC (.str "left"))) (tVar 4)) (tC (.int 0)))))
      (tSeq (tAsg (tOp (rI (fun _ j => 0 < j) fun i j => .int (i % j)) (tOp (rIxL K) (tDGet (tVar 0) (tC (.str "left"))) (tVar 4)) (tVar 1)) (gName 5))
      (tSeq (tAsg (tOp (rI CDiv fun i j => .int (i / j)) (tOp (rIxL K) (tDGet (tVar 0) (tC (.str "left"))) (tVar 4)) (tVar 1)) (gSub (tDGet (tVar 0) (tC (.str "left"))) (tVar 4) rSetL))
      (tRet (tVar 5)))) tNext)
  (t_tail K)
def t_next (K : PySem.W.Frag) : TS :=
  tSeq (tAsg (tDGet (tVar 0) (tC (.str "at"))) (gName 2))
  (tSeq (sDPut (tVar 0) (tC (.str "at")) (tOp (rI0 fun i j => .int (i + j)) (tVar 2) (tC (.int 1))))
  (tSeq (tAsg (tDGet (tVar 0) (tC (.str "cells"))) (gName 3))
  (tSeq (tAsg (tOp (rI (fun _ j => 0 < j) fun i j => .int (i % j)) (tVar 2) (tCB (fun xs H Q => ∃ i j, xs = [.int i, .int j] ∧ Q (.int (if j > i then j else i)) H) (tCons (tC (.int 1)) (tCons (tCB (fun xs H Q => ∃ p ys, xs = [.ref p] ∧ (SqL K H p ys ∨ SqT K H p ys) ∧ Q (.int ys.length) H) (tCons (tVar 3) tNil)) tNil)))) (gName 4))
  (t_rest K))))
def nextN : List Str := ["_law_m", "_law_many", "_law_k", "_law_cells", "_law_at", "_law_found", "_law_cell", "_law_number"]
theorem eqvAll_ints : ∀ ns : List Int, PyData.eqvAll (ns.map PyData.int) [] = ns.isEmpty
  | [] => by rw [List.map_nil, PyData.eqvAll]; rfl
  | n :: r => by rw [List.map_cons, PyData.eqvAll]; rfl
theorem eqv_ints (ns : List Int) : PyData.eqv (.list (ns.map PyData.int)) (.list []) = ns.isEmpty := by
  rw [PyData.eqv]
  exact eqvAll_ints ns
theorem shaped_nil : SeqAt.shaped (.list []) = true := by decide +kernel
theorem shaped_ints (ns : List Int) : SeqAt.shaped (.list (ns.map PyData.int)) = true := by
  have a : ∀ ns : List Int, PyData.canLayAll0 (ns.map PyData.int) = true := fun ns => by
    induction ns with
    | nil => rfl
    | cons n r ih =>
      rw [List.map_cons, PyData.canLayAll0, ih, PyData.canLay0]
      rfl
  have b : ∀ ns : List Int, PyData.depthAll (ns.map PyData.int) ≤ 2 := fun ns => by
    induction ns with
    | nil => simp [PyData.depthAll]
    | cons n r ih =>
      rw [List.map_cons, PyData.depthAll, PyData.depth]
      omega
  unfold SeqAt.shaped
  rw [PyData.canLay0, a, PyData.depth]
  have := b ns
  simp
  omega
theorem max1 (n : Nat) : (if ((n : Nat) : Int) > 1 then ((n : Nat) : Int) else 1) = ((max 1 n : Nat) : Int) := by
  split <;> omega
theorem atOf_lt {t : Mach} (h : t.cells ≠ []) : atOf t < t.cells.length := by
  have : 0 < t.cells.length := List.length_pos_iff.mpr h
  unfold atOf
  have := Nat.mod_lt t.at_ (show 0 < max 1 t.cells.length by omega)
  omega
theorem getI {ns : List Int} {i : Nat} (h : i < ns.length) : atI (ns.map V.int) ((i : Nat) : Int) = some (.int (ns.getD i 0)) := by
  refine atI_nat ?_
  rw [List.getElem?_map, List.getElem?_eq_getElem h, List.getD_eq_getElem?_getD, List.getElem?_eq_getElem h]
  rfl
theorem set_ints (ns : List Int) (i : Nat) (n : Int) : (ns.map V.int).set i (.int n) = (ns.set i n).map V.int := (List.map_set).symm
theorem ce_ne {H : Hp} {a b : Addr} {o u : HO} (h : H a = some o) (h' : H b = some u) (d : o ≠ u) : a ≠ b := ne_of h h' d
theorem run_fin {D : Ends} {many k cv : Int} {a0 a3 a4 a5 : Option V} {H : Hp} (hp : 0 < many) (h0 : 0 ≤ k) (hk : k < 2 ^ 60) (h : D.rt (.int (rawNum cv k % many)) H) : t_fin D [a0, some (.int many), some (.int k), a3, a4, a5, some (.int cv), none] H := by
  refine ⟨_, rfl, _, rfl, _, _, rfl, rfl, .inl ⟨by decide, by decide⟩, _, rfl, _, k, rfl, rfl, .inr ⟨by omega, by omega⟩, _, _, rfl, rfl, _, rfl, _, _, rfl, rfl, .inl ⟨by decide, by decide⟩, _, _, rfl, rfl, _, _, rfl, rfl, .inr ⟨by decide, by decide⟩, _, _, rfl, rfl, (by show (0 : Int) < 2147483647; decide), _, _, rfl, rfl, .inr ⟨by decide, by decide⟩, _, _, rfl, rfl, (by show (0 : Int) < 2147483629; decide), ?_⟩
  refine ⟨_, rfl, _, _, rfl, rfl, ⟨by decide, by decide⟩, _, _, rfl, rfl, .inr ⟨by decide, by decide⟩, _, _, rfl, rfl, (by show (0 : Int) < 2147483647; decide), _, _, rfl, rfl, ⟨by decide, by decide⟩, _, rfl, _, _, rfl, rfl, hp, ?_⟩
  exact h
theorem ne_nil_ints (K : PySem.W.Frag) {H : Hp} {c p : Addr} {ns : List Int} {Q : VK} (hc : H c = some (.lst (ns.map V.int))) (hp : H p = some (.lst [])) (q : Q (.bl (!ns.isEmpty)) H) : rNeD K (.ref c) (.ref p) H Q := by
  refine ⟨.list (ns.map PyData.int), .list [], .lst (SqL.of hc) (dp_ints _), .lst (SqL.of hp) .nil, shaped_ints _, shaped_nil, ?_⟩
  rw [eqv_ints]
  exact q
theorem run_tail {K : PySem.W.Frag} {D : Ends} {many k : Int} {c : Addr} {ns : List Int} {a : Nat} {a0 a5 : Option V} {H : Hp} (hp : 0 < many) (h0 : 0 ≤ k) (hk : k < 2 ^ 60) (hc : H c = some (.lst (ns.map V.int))) (ha : ns ≠ [] → a < ns.length)
    (h : ∀ p, H p = none → D.rt (.int (rawNum (if ns ≠ [] then ns.getD a 0 % 2147483647 else 17) k % many)) (upd H p (.lst []))) : t_tail K D [a0, some (.int many), some (.int k), some (.ref c), some (.int ((a : Nat) : Int)), a5, none, none] H := by
  refine ⟨_, rfl, Nat.zero_le _, fun p hpn => ?_⟩
  have hc2 : (upd H p (.lst [])) c = some (.lst (ns.map V.int)) := by rw [upd_ne (ne_of_none hc hpn)]; exact hc
  have h' := h p hpn
  refine ne_nil_ints K hc2 upd_same ⟨_, rfl, ?_⟩
  cases ns with
  | nil =>
    refine iteF ?_
    exact run_fin hp h0 hk h'
  | cons n r =>
    refine iteT ?_
    refine ⟨_, rfl, _, rfl, c, _, _, _, rfl, rfl, SqL.of hc2, getI (ha (by intro e; cases e)), _, _, rfl, rfl, (by show (0 : Int) < 2147483647; decide), ?_⟩
    exact run_fin hp h0 hk h'
theorem nextS_inv {args : List S} {t : Mach} (h : nextS args t ≠ .bad) : ∃ many, args = [.m 0, .d (.int many)] ∧ 0 < many ∧ many < 1073741824 ∧ t.at_ < drawLim ∧ nextS args t = .ok (.d (.int (nextM t many).1)) (nextM t many).2 := by
  unfold nextS at h ⊢
  split at h
  · rename_i many
    by_cases hc : 0 < many ∧ many < 1073741824 ∧ t.at_ < drawLim
    · exact ⟨many, rfl, hc.1, hc.2.1, hc.2.2, if_pos hc⟩
    · rw [if_neg hc] at h; exact (h rfl).elim
  · exact (h rfl).elim
theorem run_next {K : PySem.W.Frag} {xr : Str → Option Value} {vs : List V} {H : Hp} {Q : VK} {E : XK} (h : spM M1 K xr 2 nextS vs H Q E) : t_next K { nx := fun _ H' => Q .non H', rt := Q } (L2.start nextN vs) H := by
  obtain ⟨hl, ms, F, args, t, sub, mach, msx, tgx, hv, h⟩ := h
  obtain ⟨m, lf, c, rfl, hne, h1, h2, h3, h4⟩ := mach
  have hb : nextS args t ≠ .bad := fun e => by rw [e] at h; exact h
  obtain ⟨many, rfl, hp, hq, hd, en⟩ := nextS_inv hb
  rw [en] at h
  obtain ⟨v0, v1, rfl, ra, rb⟩ : ∃ v0 v1, vs = [v0, v1] ∧ AV K F [m, lf] v0 (.m 0) ∧ AV K F [m, lf] v1 (.d (.int many)) := by
    cases hv with
    | cons a b => cases b with
      | cons b c => cases c; exact ⟨_, _, rfl, a, b⟩
  obtain ⟨m', hm', rfl⟩ := ra
  have em : m = m' := Option.some.inj hm'
  subst em
  cases (show Da K F v1 (.int many) from rb)
  have hcH : H c = some (.lst (t.cells.map V.int)) := sub.lst h3
  have hmF : F m = none := (msx m (by simp)).1
  have hlF : F lf = none := (msx lf (by simp)).1
  have ncm : c ≠ m := fun e => by rw [e, hmF] at h3; cases h3
  have ncl : c ≠ lf := fun e => by rw [e, hlF] at h3; cases h3
  -- k = m['at']; m['at'] = k + 1
  refine ⟨.ref m, rfl, m, .int (t.at_ : Int), rfl, by rw [← mk_at c lf]; exact DGet.k (k := Sum.inr ("at" : Str)) h1, ?_⟩
  have dp := DPut.k (k := Sum.inr ("at" : Str)) (v := .int ((t.at_ : Int) + 1)) h1 (small1000 (by show 3 ≤ 1000; decide))
  rw [mk_put] at dp
  refine ⟨.int (t.at_ : Int), rfl, (t.at_ : Int), 1, rfl, rfl, .ref m, rfl, m, _, rfl, dp, ?_⟩
  generalize hH1 : upd H m (.dK (mkvs c lf ((t.at_ : Int) + 1))) = H1
  have e1 : H1 m = some (.dK (mkvs c lf ((t.at_ : Int) + 1))) := by rw [← hH1]; exact upd_same
  have e2 : H1 lf = some (.lst (t.left.map V.int)) := by rw [← hH1, upd_ne hne.symm]; exact h2
  have e3 : H1 c = some (.lst (t.cells.map V.int)) := by rw [← hH1, upd_ne ncm]; exact hcH
  have s1 : SameX F H1 := by rw [← hH1]; exact same_updR sub hmF
  have fr1 : ∀ b o, H b = some o → b ∉ [m, lf] → H1 b = some o := fun b o e n => by
    rw [← hH1, upd_ne (fun z => n (by rw [z]; simp))]
    exact e
  have tg1 : ∀ a ps, F a = some (.tbl ps) → H1 a ≠ none := tgOn tgx (fun b o ps e1 e2 => fr1 b o e2 (fun q => by rw [(msx b q).1] at e1; cases e1))
  -- cells = m['cells']; at = k % max(1, len(cells))
  refine ⟨.ref m, rfl, m, .ref c, rfl, by rw [← mk_cells c lf]; exact DGet.k (k := Sum.inr ("cells" : Str)) e1, ?_⟩
  refine ⟨.int (t.at_ : Int), rfl, .ref c, rfl, c, _, rfl, .inl (SqL.of e3), 1, _, rfl, (t.at_ : Int), _, rfl, rfl, ?_, ?_⟩
  · split <;> omega
  have ea : (t.at_ : Int) % (if (((t.cells.map V.int).length : Nat) : Int) > 1 then (((t.cells.map V.int).length : Nat) : Int) else 1) = ((atOf t : Nat) : Int) := by
    rw [max1, List.length_map]
    exact (Int.natCast_emod _ _).symm
  show t_rest K _ [some (.ref m), some (.int many), some (.int (t.at_ : Int)), some (.ref c), some (.int ((t.at_ : Int) % (if (((t.cells.map V.int).length : Nat) : Int) > 1 then (((t.cells.map V.int).length : Nat) : Int) else 1))), none, none, none] H1
  rw [ea]
  have dpc : ∀ {G : Hp}, G c = some (.lst (t.cells.map V.int)) → Dp K G (.ref c) (.list (t.cells.map PyData.int)) := fun e => .lst (SqL.of e) (dp_ints _)
  have tail : t.cells ≠ [] ∧ t.left.getD (atOf t) 0 > 0 → False → False := fun _ z => z
  -- the way out of the first if
  have rest2 : ∀ H2 : Hp, SameX F H2 → H2 m = H1 m → H2 lf = H1 lf → H2 c = some (.lst (t.cells.map V.int)) → (∀ b o, H1 b = some o → H2 b = some o) → ¬ (t.cells ≠ [] ∧ t.left.getD (atOf t) 0 > 0) →
      Q (.int (nextM t many).1) H2 := fun H2 g1 g2 g3 g4 g5 hn => by
    have en : nextM t many = (rawNum (if t.cells ≠ [] then t.cells.getD (atOf t) 0 % 2147483647 else 17) t.at_ % many, { t with at_ := t.at_ + 1 }) := if_neg hn
    refine h _ H2 F (Same.refl _) ⟨g1, ⟨m, lf, c, rfl, hne, ?_, ?_, ?_, ?_⟩, fun a ha => ?_, fun b o e n _ => ⟨g5 _ _ (fr1 b o e n), rfl⟩, fun a ps e => ⟨tgOn tg1 (fun b o _ _ q => g5 b o q) a ps e, .inl e⟩⟩ (Da.int _)
    · rw [g2, e1, en]
      rfl
    · rw [g3, e2, en]
    · rw [en]; exact h3
    · rw [en]; exact h4
    · refine ⟨(msx a ha).1, fun z => ?_⟩
      rcases List.mem_cons.mp ha with rfl | ha
      · rw [g2, e1] at z; cases z
      · have ea2 : a = lf := by simpa using ha
        rw [ea2, g3, e2] at z; cases z
  have hk0 : (0 : Int) ≤ (t.at_ : Int) := Int.natCast_nonneg _
  have hk : (t.at_ : Int) < 2 ^ 60 := by
    have : t.at_ < 2 ^ 60 := hd
    omega
  have hal : t.cells ≠ [] → atOf t < t.cells.length := atOf_lt
  -- if cells != [] and m['left'][at] > 0
  refine ⟨_, rfl, Nat.zero_le _, fun p hpn => ?_⟩
  have nmp : m ≠ p := ne_of_none e1 hpn
  have nlp : lf ≠ p := ne_of_none e2 hpn
  have ncp : c ≠ p := ne_of_none e3 hpn
  have f1 : (upd H1 p (.lst [])) m = some (.dK (mkvs c lf ((t.at_ : Int) + 1))) := (upd_ne nmp).trans e1
  have f2 : (upd H1 p (.lst [])) lf = some (.lst (t.left.map V.int)) := (upd_ne nlp).trans e2
  have f3 : (upd H1 p (.lst [])) c = some (.lst (t.cells.map V.int)) := (upd_ne ncp).trans e3
  have f4 : SameX F (upd H1 p (.lst [])) := same_updR s1 (freeX s1 tg1 hpn)
  have tg2 : ∀ a ps, F a = some (.tbl ps) → (upd H1 p (.lst [])) a ≠ none := tgOn tg1 (fun b o _ _ q => (upd_ne (ne_of_none q hpn)).trans q)
  have f5 : ∀ b o, H1 b = some o → (upd H1 p (.lst [])) b = some o := fun b o e => (upd_ne (ne_of_none e hpn)).trans e
  have final : ¬ (t.cells ≠ [] ∧ t.left.getD (atOf t) 0 > 0) → ∀ q, (upd H1 p (.lst [])) q = none → Q (.int (rawNum (if t.cells ≠ [] then t.cells.getD (atOf t) 0 % 2147483647 else 17) t.at_ % many)) (upd (upd H1 p (.lst [])) q (.lst [])) := fun hn q hqn => by
    have en : nextM t many = (rawNum (if t.cells ≠ [] then t.cells.getD (atOf t) 0 % 2147483647 else 17) t.at_ % many, { t with at_ := t.at_ + 1 }) := if_neg hn
    have z := rest2 (upd (upd H1 p (.lst [])) q (.lst [])) (same_updR f4 (freeX f4 tg2 hqn)) ((upd_ne (ne_of_none f1 hqn)).trans (f1.trans e1.symm)) ((upd_ne (ne_of_none f2 hqn)).trans (f2.trans e2.symm)) ((upd_ne (ne_of_none f3 hqn)).trans f3)
      (fun b o e => (upd_ne (ne_of_none (f5 b o e) hqn)).trans (f5 b o e)) hn
    rw [en] at z
    exact z
  refine ne_nil_ints K f3 upd_same ⟨_, rfl, ?_⟩
  by_cases hcs : t.cells = []
  · have eb : (!t.cells.isEmpty) = false := by rw [hcs]; rfl
    rw [eb]
    refine iteF ?_
    refine iteF ?_
    exact run_tail hp hk0 hk f3 hal (final (fun z => z.1 hcs))
  · have eb : (!t.cells.isEmpty) = true := by
      cases q : t.cells with
      | nil => exact (hcs q).elim
      | cons _ _ => rfl
    rw [eb]
    refine iteT ?_
    have hla : atOf t < t.left.length := by rw [h4]; exact hal hcs
    have gl : ∀ {G : Hp}, G m = some (.dK (mkvs c lf ((t.at_ : Int) + 1))) → DGet G m (.str "left") (some (.ref lf)) := fun e => by
      rw [← mk_left c lf ((t.at_ : Int) + 1)]
      exact DGet.k (k := Sum.inr ("left" : Str)) e
    refine ⟨_, rfl, m, _, rfl, gl f1, _, rfl, lf, _, _, _, rfl, rfl, SqL.of f2, getI hla, _, _, rfl, rfl, _, rfl, ?_⟩
    refine ite2 (fun hgt => ?_) (fun hgt => ?_)
    · have hg : t.left.getD (atOf t) 0 > 0 := of_decide_eq_true hgt
      have en : nextM t many = (t.left.getD (atOf t) 0 % many, { t with at_ := t.at_ + 1, left := t.left.set (atOf t) (t.left.getD (atOf t) 0 / many) }) := if_pos ⟨hcs, hg⟩
      refine ⟨_, rfl, m, _, rfl, gl f1, _, rfl, lf, _, _, _, rfl, rfl, SqL.of f2, getI hla, _, rfl, _, _, rfl, rfl, hp, ?_⟩
      refine ⟨_, rfl, m, _, rfl, gl f1, _, rfl, lf, _, _, _, rfl, rfl, SqL.of f2, getI hla, _, rfl, _, _, rfl, rfl, ⟨hp, hq⟩, ?_⟩
      refine ⟨_, rfl, m, _, rfl, gl f1, _, rfl, lf, _, _, atOf t, rfl, rfl, f2, ?_, ?_⟩
      · unfold ixN
        rw [List.length_map, if_pos (by omega), if_pos (by omega), Int.toNat_natCast]
      · refine ⟨_, rfl, ?_⟩
        rw [set_ints]
        have z := h (.int (t.left.getD (atOf t) 0 % many)) (upd (upd H1 p (.lst [])) lf (.lst ((t.left.set (atOf t) (t.left.getD (atOf t) 0 / many)).map V.int))) F (Same.refl _)
        rw [en] at z
        refine z ⟨same_updR f4 hlF, ⟨m, lf, c, rfl, hne, (upd_ne hne).trans f1, upd_same, h3, by simp [h4]⟩, fun a ha => ⟨(msx a ha).1, fun y => ?_⟩, fun b o e n _ => ⟨?_, rfl⟩, fun a ps e => ⟨tgOn tg2 (fun b o ps2 e1 q => (upd_ne (fun y => by rw [y, hlF] at e1; cases e1)).trans q) a ps e, .inl e⟩⟩ (Da.int _)
        · rcases List.mem_cons.mp ha with rfl | ha
          · rw [upd_ne hne, f1] at y; cases y
          · have ea2 : a = lf := by simpa using ha
            rw [ea2, upd_same] at y; cases y
        · rw [upd_ne (fun y => n (by rw [y]; simp))]
          exact f5 _ _ (fr1 b o e n)
    · have hg : ¬ t.left.getD (atOf t) 0 > 0 := fun z => hgt (decide_eq_true z)
      exact run_tail hp hk0 hk f3 hal (final (fun z => hg z.2))
end G
namespace G
open PySem L2
/-! ### _law_begun -/
def leftF (c : Int) : Int := c * (if decide ((10 : Int) ^ 18 ≤ c) then 1 else 0)
def leftOf (ns : List Int) : List Int := ns.map leftF
def t_begun (K : PySem.W.Frag) : TS :=
  tSeq (tAsg (tSl (rSlL K) (tVar 0) tNoPart (tPart (tC (.int 63)))) (gName 1))
  (tRet (tDisp [(tC (.str "cells"), tVar 1), (tC (.str "at"), tC (.int 0)), (tC (.str "left"), tLc (iList K (tVar 1)) (gName 2) tYes
    (tOp (rI CMul fun i j => .int (i * j)) (tVar 2) (tCB rInt1 (tCons (tOp (rI0 fun i j => .bl (decide (j ≤ i))) (tVar 2) (tOp (rI CPow fun i j => .int (i ^ j.toNat)) (tC (.int 10)) (tC (.int 18)))) tNil))) [2])]))
def begunN : List Str := ["_law_script", "_law_cells", "_law_cell"]
def spBegun (K : PySem.W.Frag) : Sp := fun vs H Q _ => ∃ (a : Addr) (ns : List Int), vs = [.ref a] ∧ SqL K H a (ns.map V.int) ∧ ns.length ≤ 63 ∧
  ∀ H' m c lf, Same H H' → H m = none → H c = none → H lf = none → m ≠ lf → m ≠ c → c ≠ lf → H' m = some (.dK (mkvs c lf 0)) → H' lf = some (.lst ((leftOf ns).map V.int)) → H' c = some (.lst (ns.map V.int)) → Q (.ref m) H'
theorem cut63 {ns : List Int} (h : ns.length ≤ 63) : cutV (ns.map V.int) none (some 63) = ns.map V.int := by
  unfold cutV
  rw [HT.sIx_none, show HT.sIx (ns.map V.int).length (ns.map V.int).length (some 63) = min 63 (ns.map V.int).length from HT.sIx_nat _ _ 63, List.drop_zero, Nat.sub_zero]
  refine List.take_of_length_le ?_
  rw [List.length_map]
  omega
theorem merge3 (c lf : Addr) : mergeK [] [((Sum.inr ("cells" : Str) : Key), V.ref c), (Sum.inr ("at" : Str), V.int 0), (Sum.inr ("left" : Str), V.ref lf)] = mkvs c lf 0 := by
  show putK (putK (putK [] (Sum.inr ("cells" : Str) : Key) (V.ref c)) (Sum.inr ("at" : Str)) (V.int 0)) (Sum.inr ("left" : Str)) (V.ref lf) = mkvs c lf 0
  rw [putK_new (kvs := []) _ rfl, putK_new (k := (Sum.inr ("at" : Str) : Key)) _ (by rw [List.nil_append, valV_neg k_ca]; rfl), putK_new (k := (Sum.inr ("left" : Str) : Key)) _ (by
    rw [List.nil_append]
    show valV [((Sum.inr ("cells" : Str) : Key), V.ref c), (Sum.inr ("at" : Str), V.int 0)] _ = none
    rw [valV_neg k_cl, valV_neg k_al]
    rfl)]
  rfl
theorem run_begun {K : PySem.W.Frag} {vs : List V} {H : Hp} {Q : VK} {E : XK} (h : spBegun K vs H Q E) : t_begun K { nx := fun _ H' => Q .non H', rt := Q } (L2.start begunN vs) H := by
  obtain ⟨a, ns, rfl, hs, hl, h⟩ := h
  refine ⟨_, rfl, 63, rfl, a, _, rfl, hs, fun c hc => ?_⟩
  rw [cut63 hl]
  have s1 : Same H (upd H c (.lst (ns.map V.int))) := same_upd hc
  intro m hm
  have ncm : c ≠ m := fun e => by rw [e, upd_same] at hm; cases hm
  have hmH : H m = none := by rw [upd_ne ncm.symm] at hm; exact hm
  refine ⟨_, rfl, _, rfl, c, rfl, ⟨_, SqL.of ((upd_ne ncm).trans upd_same)⟩, fun lf hlf => ?_⟩
  have nlm : lf ≠ m := fun e => by rw [e, upd_same] at hlf; cases hlf
  have nlc : lf ≠ c := fun e => by rw [e, upd_ne ncm, upd_same] at hlf; cases hlf
  have hlH : H lf = none := by rw [upd_ne nlm, upd_ne nlc] at hlf; exact hlf
  refine lc_list (K := K) (a := c) (xs := ns.map V.int) (fun i H' => H' = upd (upd (upd H c (.lst (ns.map V.int))) m (.dK [])) lf (.lst ((leftOf (ns.take i)).map V.int))) rfl (fun i H' _ e => by
      rw [e]
      exact SqL.of ((upd_ne nlc.symm).trans ((upd_ne ncm).trans upd_same))) ?_ ?_
  · rintro i x H' hi rfl
    obtain ⟨z, hz, rfl⟩ : ∃ z, ns[i]? = some z ∧ x = .int z := by
      rw [List.getElem?_map] at hi
      cases e : ns[i]? with
      | none => rw [e] at hi; cases hi
      | some z => rw [e] at hi; cases hi; exact ⟨z, rfl, rfl⟩
    refine ⟨rfl, ?_⟩
    simp only [tYes, if_true]
    refine ⟨_, rfl, _, rfl, _, _, rfl, rfl, ⟨by decide, by decide, by decide⟩, _, _, rfl, rfl, ?_⟩
    refine .inr ⟨_, rfl, _, _, rfl, rfl, .inr ?_, ?_⟩
    · split <;> exact ⟨by decide, by decide⟩
    · refine ⟨_, upd_same, ?_, ?_⟩
      · rw [List.length_map]
        unfold leftOf
        rw [List.length_map, List.length_take]
        exact small1000 (by omega)
      · rw [upd_upd]
        have hil : i < ns.length := (List.getElem?_eq_some_iff.mp hz).1
        have ez : ns[i] = z := (List.getElem?_eq_some_iff.mp hz).2
        rw [List.take_succ_eq_append_getElem hil, ez]
        unfold leftOf
        rw [List.map_append, List.map_append]
        rfl
  · rintro H' rfl
    rw [List.length_map, List.take_length]
    refine ⟨(upd_ne nlm.symm).trans upd_same, [((Sum.inr ("cells" : Str) : Key), V.ref c), (Sum.inr ("at" : Str), V.int 0), (Sum.inr ("left" : Str), V.ref lf)], rfl, (by show 3 ≤ 15; decide), ?_⟩
    rw [merge3]
    refine h _ m c lf (fun b o e => ?_) hmH hc hlH nlm.symm ncm.symm nlc.symm upd_same ?_ ?_
    · rw [upd_ne (ne_of_none e hmH), upd_ne (ne_of_none e hlH), upd_ne (ne_of_none e hmH), upd_ne (ne_of_none e hc)]
      exact e
    · rw [upd_ne nlm, upd_same]
    · rw [upd_ne ncm, upd_ne nlc.symm, upd_ne ncm, upd_same]
/-! ### law: the machine made, then the mirror -/
def spLaw (K : PySem.W.Frag) : Sp := fun vs H Q _ => ∃ (a : Addr) (ns : List Int), vs = [.ref a] ∧ SqL K H a (ns.map V.int) ∧ ns.length ≤ 63 ∧ (∀ z ∈ ns, Builtin.Int.intBits z ≤ 1048576) ∧ ∀ H', Q (.bl true) H'
def z0 (n : Nat) (ns : List Int) : Z Mach := { rho := some (.d (.scr ns)) :: some (.m 0) :: List.replicate n none, m := ⟨ns, 0, leftOf ns⟩ }
theorem law_run {K : PySem.W.Frag} {xr : Str → Option Value} {E : XK} {N : List Str} {t : TS} {f : Sm M1 Out} {vs : List V} {H : Hp} {Q : VK} (hN : 2 ≤ N.length) (hf : ∀ ns : List Int, ns.length ≤ 63 → (∀ z ∈ ns, Builtin.Int.intBits z ≤ 1048576) → ∃ z', f (z0 (N.length - 2) ns) = .ok (.rt (.d (.bl true))) z')
    (c : SR M1 K xr (fun cls d _ H => E cls d H) t f) (h : spLaw K vs H Q E) : tSeq (tAsg (tCallS (spBegun K) (WE fun cls d _ H => E cls d H) (tCons (tVar 0) tNil)) (gName 1)) t { nx := fun _ H' => Q .non H', rt := Q } (L2.start N vs) H := by
  obtain ⟨a, ns, rfl, hs, hl, hbits, hq⟩ := h
  obtain ⟨z', hz⟩ := hf ns hl hbits
  have st : L2.start N [.ref a] = some (.ref a) :: List.replicate (N.length - 1) none := rfl
  rw [st]
  refine ⟨_, rfl, a, ns, rfl, hs, hl, fun H' m cc lf sm hm hc hlf n1 n2 n3 e1 e2 e3 => ?_⟩
  have es : (some (V.ref a) :: List.replicate (N.length - 1) none).set 1 (some (.ref m)) = some (V.ref a) :: some (.ref m) :: List.replicate (N.length - 2) none := by
    obtain ⟨k, hk⟩ : ∃ k, N.length = k + 2 := ⟨N.length - 2, by omega⟩
    rw [hk]
    rfl
  show t _ ((some (V.ref a) :: List.replicate (N.length - 1) none).set 1 (some (.ref m))) H'
  rw [es]
  let F : Hp := fun b => if b = cc then some (.lst (ns.map V.int)) else if b = a then H a else none
  have Fm : F m = none := by
    show (if m = cc then _ else if m = a then H a else none) = none
    rw [if_neg n2]
    by_cases e : m = a
    · rw [if_pos e, ← e]; exact hm
    · rw [if_neg e]
  have Fl : F lf = none := by
    show (if lf = cc then _ else if lf = a then H a else none) = none
    rw [if_neg n3.symm]
    by_cases e : lf = a
    · rw [if_pos e, ← e]; exact hlf
    · rw [if_neg e]
  have Fc : F cc = some (.lst (ns.map V.int)) := if_pos rfl
  have sF : Same F H' := fun b o q => by
    have q' : (if b = cc then some (HO.lst (ns.map V.int)) else if b = a then H a else none) = some o := q
    by_cases e : b = cc
    · rw [if_pos e] at q'; rw [e, e3]; exact q'
    · rw [if_neg e] at q'
      by_cases e' : b = a
      · rw [if_pos e'] at q'; rw [e']; exact sm a o q'
      · rw [if_neg e'] at q'; cases q'
  have hsF : SqL K F a (ns.map V.int) := by
    have Fa : ∀ o, H a = some o → F a = some o := fun o q => by
      have n : a ≠ cc := ne_of_none q hc
      show (if a = cc then _ else if a = a then H a else none) = some o
      rw [if_neg n, if_pos rfl]
      exact q
    rcases hs with (q | ⟨o, q⟩) | q
    · exact .inl (.inl (Fa _ q))
    · exact .inl (.inr ⟨o, Fa _ q⟩)
    · exact .inr q
  have key : ∀ (i : Nat) (s : S), (z0 (N.length - 2) ns).rho[i]? = some (some s) → (i = 0 ∧ s = .d (.scr ns)) ∨ (i = 1 ∧ s = .m 0) := fun i s e => by
    have e' : (some (S.d (.scr ns)) :: some (S.m 0) :: List.replicate (N.length - 2) none)[i]? = some (some s) := e
    match i, e' with
    | 0, e' => cases e'; exact .inl ⟨rfl, rfl⟩
    | 1, e' => cases e'; exact .inr ⟨rfl, rfl⟩
    | i + 2, e' =>
      rw [List.getElem?_cons_succ, List.getElem?_cons_succ, List.getElem?_replicate] at e'
      split at e' <;> cases e'
  refine c ⟨K, xr, [m, lf], fun _ => none, F⟩ _ H' F (z0 (N.length - 2) ns) _ rfl rfl ⟨samX sF, ?_, fun i s e => ?_, fun i j xs ys v q1 _ _ _ => ?_, ⟨m, lf, cc, rfl, n1, e1, e2, Fc, by simp [z0, leftOf]⟩, fun b hb => ?_, fun _ _ => rfl, fun b hb => ?_, fun b o q => (by cases q), fun b ps e => ⟨(by rw [sF b _ e]; intro z; cases z), rfl⟩⟩ ?_
  · simp [z0]
  · rcases key i s e with ⟨rfl, rfl⟩ | ⟨rfl, rfl⟩
    · exact ⟨_, rfl, Da.scr hsF⟩
    · exact ⟨_, rfl, m, rfl, rfl⟩
  · rcases key i _ q1 with ⟨_, q⟩ | ⟨_, q⟩ <;> cases q
  · rcases List.mem_cons.mp hb with rfl | hb
    · exact Fm
    · have e : b = lf := by simpa using hb
      rw [e]; exact Fl
  · rcases List.mem_cons.mp hb with rfl | hb
    · intro z; rw [e1] at z; cases z
    · have e : b = lf := by simpa using hb
      rw [e]
      intro z; rw [e2] at z; cases z
  · rw [hz]
    intro v H2 F2 s2 r
    cases (show Da K F2 v (.bl true) from r.val)
    exact hq H2
end G
namespace G
open PySem L2
/-- a place of a def's text: all that the rules ask of it -/
structure Pc {ι : Type} (P : Program) (w : World) (K : PySem.W.Frag) (mg : Str → Option Value) (base : Heap) (N : List Str) (W : WX) (lv : Nat) (X : ι → Cx) : Prop extends Pl K X N mg where
  pr : ∀ j, (X j).prog = P
  pw : ∀ j, (X j).w = w
  pb : ∀ j, (X j).base = base
  room : ∀ j, Room (lv + 8) (X j).A
  pass : ∀ j σ, PassesAt (L2.CX P w) (X j) σ (WE W σ)
  gd : ∀ j, (X j).A.guards = some []
section
variable {ι : Type} {M : MI} {P : Program} {w : World} {K : PySem.W.Frag} {mg : Str → Option Value} {base : Heap} {N : List Str} {W : WX} {n : Nat} {X : ι → Cx} {xr : Str → Option Value}
theorem pass0W {Y : Cx} (σ : St) : PassesAt (L2.CX P w) Y σ (WE W0 σ) := fun _ _ _ _ _ _ h => by
  obtain ⟨_, _, _, _, _, _, _, _, _, _, _, _, z⟩ := h
  exact z.elim
theorem Pc.blk (p : Pc P w K mg base N W n X) (scope : Scope) : Pc P w K mg base N W0 n (Blk X scope) :=
  ⟨p.toPl.blk scope, fun q => p.pr q.1, fun q => p.pw q.1, fun q => p.pb q.1, fun q => p.room q.1, fun q σ => pass0W σ, fun q => p.gd q.1⟩
theorem pc_def {qual : Str} {st : Stmt} {f : Addr} {ps : List Str} {cdv : Value} {A : Around} {outer : List Env} {s : Shared} {H : Hp} {E : XK} (Sc : FnScope N ps (defScope st)) (hr : Room (n + 8) (A.deeper (PyProof.Rows.envOfC qual (defScope st) s.heap.objs.size f cdv))) (hgu : A.guards = some []) :
    Pc P w K mg base N (fun cls d _ H => E cls d H) n (fun _ : Unit => cxOf (L2.CX P w) P w K mg base N qual (defScope st) f cdv A outer s H E) :=
  ⟨⟨fun _ => rfl, fun _ => rfl, fun _ => rfl, Sc.nd, fun _ => rfl, fun _ => by have := hr.un; show (A.deeper _).units + 300 < cLine; omega⟩, fun _ => rfl, fun _ => rfl, fun _ => rfl, fun _ => hr, fun _ σ => passAt (takes_of rfl rfl rfl rfl) σ, fun _ => hgu⟩
theorem own_def {qual : Str} {st : Stmt} {f : Addr} {cdv : Value} {A : Around} {outer : List Env} {s : Shared} {H : Hp} {E : XK} :
    ∀ j : Unit, PassesOwn (model ((fun _ : Unit => cxOf (L2.CX P w) P w K mg base N qual (defScope st) f cdv A outer s H E) j).prog ((fun _ : Unit => cxOf (L2.CX P w) P w K mg base N qual (defScope st) f cdv A outer s H E) j).w) ((fun _ : Unit => cxOf (L2.CX P w) P w K mg base N qual (defScope st) f cdv A outer s H E) j).A ((fun _ : Unit => cxOf (L2.CX P w) P w K mg base N qual (defScope st) f cdv A outer s H E) j).env ((fun _ : Unit => cxOf (L2.CX P w) P w K mg base N qual (defScope st) f cdv A outer s H E) j).xe := fun _ => passes_of rfl
/-- a def of the text keeps the mirror c at level n -/
def FnAt (M : MI) (P : Program) (w : World) (K : PySem.W.Frag) (mg : Str → Option Value) (base : Heap) (xr : Str → Option Value) (n : Nat) (x : Str) (ps : List Str) (dvs : List V) (c : List S → M.T → Rs S M.T) : Prop :=
  ∃ f fd, FnG P w K mg base (L2.CX P w) (n + 8) f fd ps (spM M K xr ps.length c) ∧ Binds K fd ps [] ∧ (∃ ds, Vals dvs ds ∧ Binds K fd ps ds) ∧ PySem.W.keepIn K (.ref f) = true ∧ mg x = some (.ref f)
theorem de_fn {x : Str} {ps : List Str} {dvs : List V} {e : Expr} {es : List Expr} {g : Sm M (List S)} {c : List S → M.T → Rs S M.T} {pp pos : Pos} (p : Pc P w K mg base N W n X) (h : FnAt M P w K mg base xr n x ps dvs c) (ha : DA M xr K X W (e :: es) g) (hn : ∀ z ss z1, g z = .ok ss z1 → ss.length = ps.length) (hg : ∀ j, Gl (X j) x := by intro _; rfl)
    (hdb : (x == ("__debug__" : Str)) = false := by decide) (he : ∀ j, starEach (e :: es) (X j).env = (false, eval e (X j).env) :: starEach es (X j).env := by intro _; rfl) (hpl : ∀ j, (backTo pos (starEach es (X j).env)).any (·.1) = false := by intro _; rfl) :
    DE M xr K X W (.Call (.Name x pp) (e :: es) [] pos) (eCall c g) := by
  obtain ⟨f, fd, hF, hb, _, hk, hm⟩ := h
  exact de_call (CX := L2.CX P w) (f := f) (fd := fd) (ps := ps) (k := n + 8) (fun j => by rw [p.pr j, p.pw j, p.k j, p.g j, p.pb j]; exact hF) p.room p.gd hg (fun j => by rw [p.g j]; exact hm) (fun j => by rw [p.k j]; exact hk) (fun j => by rw [p.k j]; exact hb) p.pass ha hn hdb he hpl
/-- the last parameter is filled by its default -/
theorem de_fnD {x : Str} {ps : List Str} {dv : V} {dd : D} {e : Expr} {es : List Expr} {g : Sm M (List S)} {c : List S → M.T → Rs S M.T} {pp pos : Pos} (p : Pc P w K mg base N W n X) (h : FnAt M P w K mg base xr n x ps [dv] c) (hdd : ∀ F, Da K F dv dd) (ha : DA M xr K X W (e :: es) g) (hn : ∀ z ss z1, g z = .ok ss z1 → ss.length + 1 = ps.length) (hg : ∀ j, Gl (X j) x := by intro _; rfl)
    (hdb : (x == ("__debug__" : Str)) = false := by decide) (he : ∀ j, starEach (e :: es) (X j).env = (false, eval e (X j).env) :: starEach es (X j).env := by intro _; rfl) (hpl : ∀ j, (backTo pos (starEach es (X j).env)).any (·.1) = false := by intro _; rfl) :
    DE M xr K X W (.Call (.Name x pp) (e :: es) [] pos) (eCall c (aDef [dd] g)) := by
  obtain ⟨f, fd, hF, _, ⟨ds, hv, hb⟩, hk, hm⟩ := h
  exact de_callD (CX := L2.CX P w) (f := f) (fd := fd) (ps := ps) (k := n + 8) hdd hv (fun j => by rw [p.pr j, p.pw j, p.k j, p.g j, p.pb j]; exact hF) p.room p.gd hg (fun j => by rw [p.g j]; exact hm) (fun j => by rw [p.k j]; exact hk) (fun j => by rw [p.k j]; exact hb) p.pass ha hn hdb he hpl
theorem de_fn0 {x : Str} {dvs : List V} {c : List S → M.T → Rs S M.T} {pp pos : Pos} (p : Pc P w K mg base N W n X) (h : FnAt M P w K mg base xr n x [] dvs c) (hg : ∀ j, Gl (X j) x := by intro _; rfl) (hdb : (x == ("__debug__" : Str)) = false := by decide) :
    DE M xr K X W (.Call (.Name x pp) [] [] pos) (eCall c aNil) := by
  obtain ⟨f, fd, hF, hb, _, hk, hm⟩ := h
  exact de_call0 (CX := L2.CX P w) (f := f) (fd := fd) (ps := []) (k := n + 8) (fun j => by rw [p.pr j, p.pw j, p.k j, p.g j, p.pb j]; exact hF) p.room p.gd hg (fun j => by rw [p.g j]; exact hm) (fun j => by rw [p.k j]; exact hk) (fun j => by rw [p.k j]; exact hb) p.pass hdb
/-- where a def stands in the text -/
def FnIn (K : PySem.W.Frag) (mg : Str → Option Value) (x : Str) (st : Stmt) (ps : List Str) (dvs : List V) : Prop := ∃ f fd, FunD K x x (defArgs st) (defBody st) (defScope st) dvs [] f fd ∧ Binds K fd ps [] ∧ (∃ ds, Vals dvs ds ∧ Binds K fd ps ds) ∧ mg x = some (.ref f)
theorem fnAt_zero {x : Str} {st : Stmt} {ps : List Str} {dvs : List V} (h : FnIn K mg x st ps dvs) : FnAt M P w K mg base xr 0 x ps dvs (fun _ _ => .bad) := by
  obtain ⟨f, fd, hF, hb, hd, hm⟩ := h
  have no : ∀ vs H Q E, ¬ spM M K xr ps.length (fun _ _ => .bad) vs H Q E := fun vs H Q E h => by
    obtain ⟨_, _, _, _, _, _, _, _, _, _, z⟩ := h
    exact z
  exact ⟨f, fd, ⟨fun vs H Q E h => absurd h (no vs H Q E), fun A outer s H args us vs Q E _ _ _ _ _ h => absurd h (no vs H Q E)⟩, hb, hd, hF.kp, hm⟩
theorem fnAt_succ {x : Str} {st : Stmt} {ps : List Str} {dvs : List V} {b : Sm M Out} (h : FnIn K mg x st ps dvs) (Sc : FnScope N ps (defScope st))
    (hb : ∀ (f : Addr) (cdv : Value) (A : Around) (outer : List Env) (s : Shared) (H : Hp) (E : XK), Room (n + 8) (A.deeper (PyProof.Rows.envOfC x (defScope st) s.heap.objs.size f cdv)) → A.guards = some [] →
      DSs M xr K (fun _ : Unit => cxOf (L2.CX P w) P w K mg base N x (defScope st) f cdv A outer s H E) (fun cls d _ H => E cls d H) (defBody st) b) : FnAt M P w K mg base xr (n + 1) x ps dvs (fnM N.length b) := by
  obtain ⟨f, fd, hF, hbd, hd, hm⟩ := h
  exact ⟨f, fd, okM hF Sc (hb f), hbd, hd, hF.kp, hm⟩
end
/-- a module's constant that is data -/
def GlD (K : PySem.W.Frag) (mg : Str → Option Value) (x : Str) (d : D) : Prop := ∃ v u, mg x = some u ∧ RelV v u ∧ ∀ F, Da K F v d
section
variable {ι : Type} {M : MI} {xr : Str → Option Value} {K : PySem.W.Frag} {X : ι → Cx} {W : WX} {N : List Str} {mg : Str → Option Value}
theorem de_const {x : Str} {d : D} {pos : Pos} (p : Pl K X N mg) (h : GlD K mg x d) (hg : ∀ j, Gl (X j) x := by intro _; rfl) (hb : (x == ("__debug__" : Str)) = false := by decide) : DE M xr K X W (.Name x pos) (eC d) := by
  obtain ⟨v, u, hm, r, hd⟩ := h
  exact de_glob hg (fun j => by rw [p.g j]; exact hm) r hd hb
theorem cmp_chain {r r' : R2} {g g' : D → D → Option R} {ta tb tc : TE} {f f' f'' : Sm M S} (hd : Op2 K r g) (hd' : Op2 K r' g') (ha : Cmp M K xr W ta RelE f) (hb : Cmp M K xr W tb RelE f') (hc : Cmp M K xr W tc RelE f'') : Cmp M K xr W (tChain r r' ta tb tc) RelE (eChain g g' f f' f'') := by
  intro G σ H F z Q hK hx ok h
  refine cmp_opd ha G σ H F z _ hK hx ok (hit_bind h fun s z1 v H1 F1 _ sm1 ok1 e1 h1 => ?_)
  refine cmp_opd hb G σ H1 F1 z1 _ hK hx ok1 (hit_bind h1 fun s' z2 v' H2 F2 _ sm2 ok2 e2 h2 => ?_)
  have h3 : HitG M G W σ F2 (RelE G σ) (fin ((rd z2 s).bind fun x => (rd z2 s').bind fun y => g x y) z2) (fun z H3 => ∃ k, z = .bl k ∧ if k = true then tc σ H3 fun w H4 => r' v' w H4 Q else Q (.bl false) H3) := by
    refine hit_bind h2 fun s3 z3 v3 H3 F3 e3 sm3 ok3 ev3 h3 => ?_
    have ez : z3 = z2 := by
      unfold fin at e3
      split at e3
      · cases e3; rfl
      · cases e3
    subst ez
    cases s3 with
    | d x =>
      cases x with
      | bl b =>
        cases (show Da G.K F3 v3 (.bl b) from ev3)
        refine ⟨b, rfl, ?_⟩
        cases b with
        | false =>
          rw [if_neg Bool.false_ne_true]
          exact h3 (.bl false) H3 F3 (Same.refl _) ok3 (Da.bl false)
        | true =>
          rw [if_pos rfl]
          refine cmp_opd hc G σ H3 F3 z3 _ hK hx ok3 (hit_bind h3 fun s4 z4 v4 H4 F4 _ sm4 ok4 e4 h4 => ?_)
          have q := fin_hit ok4 h4
          subst hK
          cases ea : rd z4 s' with
          | none => rw [ea] at q; exact q.elim
          | some x =>
            cases eb : rd z4 s4 with
            | none => rw [ea, eb] at q; exact q.elim
            | some y =>
              rw [ea, eb] at q
              exact hd' F4 H4 v' v4 x y Q ok4.sub (EO.rv ok4 (EO.mono (sm3.trans sm4) e2) ea) (EO.rv ok4 e4 eb) q
      | _ => exact h3.elim
    | _ => exact h3.elim
  have q := fin_hit ok2 h3
  subst hK
  cases ea : rd z2 s with
  | none => rw [ea] at q; exact q.elim
  | some x =>
    cases eb : rd z2 s' with
    | none => rw [ea, eb] at q; exact q.elim
    | some y =>
      rw [ea, eb] at q
      exact hd F2 H2 v v' x y _ ok2.sub (EO.rv ok2 (EO.mono sm2 e1) ea) (EO.rv ok2 e2 eb) q
theorem Cp.chain {op op' : CmpOp} {g g' : D → D → Option R} {a b c : Expr} {f f' f'' : Sm M S} {pos : Pos} (c1 : Cp K X op g) (c2 : Cp K X op' g') (ha : DE M xr K X W a f) (hb : DE M xr K X W b f') (hc : DE M xr K X W c f'') (hm : lastMarks [op, op'] [b, c] = false := by with_unfolding_all rfl) : DE M xr K X W (.Compare a [op, op'] [b, c] pos) (eChain g g' f f' f'') := by
  cases c1 with
  | mk r ho hd =>
    cases c2 with
    | mk r' ho' hd' =>
      obtain ⟨ta, pa, ca⟩ := ha
      obtain ⟨tb, pb, cb⟩ := hb
      obtain ⟨tc, pc, cc⟩ := hc
      exact ⟨_, fun j => pe_chain (ho j) (ho' j) (pa j) (pb j) (pc j) hm, cmp_chain hd hd' ca cb cc⟩
theorem Cp.chainT {op op' : CmpOp} {g g' : D → D → Option R} {a b c : Expr} {f f' f'' : Sm M S} {pos : Pos} (c1 : Cp K X op g) (c2 : Cp K X op' g') (ha : DE M xr K X W a f) (hb : DE M xr K X W b f') (hc : DE M xr K X W c f'') (hm : lastMarks [op, op'] [b, c] = false := by with_unfolding_all rfl) : DT M xr K X W (.Compare a [op, op'] [b, c] pos) (tOf (eChain g g' f f' f'')) := by
  cases c1 with
  | mk r ho hd =>
    cases c2 with
    | mk r' ho' hd' =>
      obtain ⟨ta, pa, ca⟩ := ha
      obtain ⟨tb, pb, cb⟩ := hb
      obtain ⟨tc, pc, cc⟩ := hc
      exact ⟨_, fun j => pt_chain (ho j) (ho' j) (pa j) (pb j) (pc j) hm, cmp_tOf (cmp_chain hd hd' ca cb cc)⟩
end
theorem daAll_strs {K : PySem.W.Frag} {F : Hp} : ∀ ss : List Str, DaAll K F (ss.map V.str) (ss.map D.str)
  | [] => .nil
  | s :: r => .cons (.str s) (daAll_strs r)
theorem glD_strs {K : PySem.W.Frag} {mg : Str → Option Value} {x : Str} (ss : List Str) {a : Addr} {o : Obj} {its : List Value} {n : Nat} (g : mg x = some (.ref a)) (gl : K.lookup a = some o) (gc : o.cls = .type "tuple") (gd : o.data = .seq its.toArray n) (hv : Vals (ss.map V.str) its) (hl : ss.length ≤ 1000) : GlD K mg x (.tup (ss.map D.str)) :=
  ⟨.ref a, _, g, rfl, fun F => .tup (.inr ⟨o, _, n, gl, gc, gd, by
    have e := hv.length
    rw [List.length_map] at e
    rw [List.size_toArray, ← e]
    exact Nat.le_of_lt (small1000 hl), hv⟩) (daAll_strs ss)⟩
theorem funD_mk {K : PySem.W.Frag} {x : Str} {st : Stmt} {f : Addr} {oc : Value} {od an : Option Addr} {osl : Array (Option Value)} {kV doc pm cdv ct : Value} (l : K.lookup f = some ⟨oc, od, .func (PySem.W.fnOf x x (defArgs st) (defBody st) (defScope st) .none kV doc pm an cdv ct), osl⟩) (c : PySem.W.codeIn K cdv x = true) (k : PySem.W.keepIn K (.ref f) = true) :
    FunD K x x (defArgs st) (defBody st) (defScope st) [] [] f (PySem.W.fnOf x x (defArgs st) (defBody st) (defScope st) .none kV doc pm an cdv ct) := ⟨⟨oc, od, .none, kV, doc, pm, an, cdv, ct, osl, rfl, l, c, .inl ⟨rfl, rfl⟩, .inl rfl⟩, k⟩
theorem fnIn_mk {K : PySem.W.Frag} {h : Heap} {mg : Str → Option Value} {x : Str} {st : Stmt} {ps : List Str} {f : Addr} {oc : Value} {od an : Option Addr} {osl : Array (Option Value)} {kV doc pm cdv ct : Value} (X : K.In h) (G : h.Ns mainGlobals mg) (a : PySem.W.nsIn K mainGlobals x = some (some (.ref f)))
    (l : K.lookup f = some ⟨oc, od, .func (PySem.W.fnOf x x (defArgs st) (defBody st) (defScope st) .none kV doc pm an cdv ct), osl⟩) (c : PySem.W.codeIn K cdv x = true) (k : PySem.W.keepIn K (.ref f) = true)
    (hb : ∀ (kV doc pm : Value) (an : Option Addr) (cdv ct : Value) (us : List Value), us.length = ps.length → bindArgs (PySem.W.fnOf x x (defArgs st) (defBody st) (defScope st) .none kV doc pm an cdv ct) ⟨us, []⟩ = pure (ps.zip us)) : FnIn K mg x st ps [] :=
  ⟨f, _, funD_mk (st := st) l c k, (fun_mk (st := st) l c k).binds hb, ⟨[], .nil, (fun_mk (st := st) l c k).binds hb⟩, PySem.W.mg_of X G a⟩
theorem seq_bindS {α β : Type} {m : Sem α} {k k' : α → Sem β} (h : k = k') : m >>= k = m >>= k' := by rw [h]
/-- a def whose last parameter has an int for a default -/
theorem fnIn_mkD {K : PySem.W.Frag} {h : Heap} {mg : Str → Option Value} {x : Str} {st : Stmt} {ps : List Str} {f T : Addr} {oc ocT : Value} {od an odT : Option Addr} {osl oslT : Array (Option Value)} {kV doc pm cdv ct : Value} {i : Int} {tk : Tok} {nT : Nat} (X : K.In h) (G : h.Ns mainGlobals mg) (a : PySem.W.nsIn K mainGlobals x = some (some (.ref f)))
    (l : K.lookup f = some ⟨oc, od, .func (PySem.W.fnOf x x (defArgs st) (defBody st) (defScope st) (.ref T) kV doc pm an cdv ct), osl⟩) (c : PySem.W.codeIn K cdv x = true) (k : PySem.W.keepIn K (.ref f) = true) (lT : K.lookup T = some ⟨ocT, odT, .seq #[.int i tk] nT, oslT⟩)
    (hb0 : ∀ (kV doc pm : Value) (an : Option Addr) (cdv ct : Value) (us its : List Value), us.length = ps.length → its.length = 1 → ∃ k, bindArgs (PySem.W.fnOf x x (defArgs st) (defBody st) (defScope st) (.ref T) kV doc pm an cdv ct) ⟨us, []⟩ = seqItems? (.ref T) >>= k ∧ k (some its.toArray) = pure (ps.zip (us ++ its.drop 1)))
    (hb1 : ∀ (kV doc pm : Value) (an : Option Addr) (cdv ct : Value) (us its : List Value), us.length + 1 = ps.length → its.length = 1 → ∃ k, bindArgs (PySem.W.fnOf x x (defArgs st) (defBody st) (defScope st) (.ref T) kV doc pm an cdv ct) ⟨us, []⟩ = seqItems? (.ref T) >>= k ∧ k (some its.toArray) = pure (ps.zip (us ++ its.drop 0))) (hp : 1 ≤ ps.length) : FnIn K mg x st ps [V.int i] := by
  have F : FunD K x x (defArgs st) (defBody st) (defScope st) [V.int i] [] f (PySem.W.fnOf x x (defArgs st) (defBody st) (defScope st) (.ref T) kV doc pm an cdv ct) := ⟨⟨oc, od, .ref T, kV, doc, pm, an, cdv, ct, osl, rfl, l, c, .inr ⟨by simp, T, _, [.int i tk], nT, rfl, lT, rfl, .cons ⟨tk, rfl⟩ .nil⟩, .inl rfl⟩, k⟩
  have mk : ∀ (us : List Value) (s : Shared), K.In s.heap → us.length = ps.length → BindsTo s (PySem.W.fnOf x x (defArgs st) (defBody st) (defScope st) (.ref T) kV doc pm an cdv ct) ⟨us, []⟩ (ps.zip us) := fun us s hK hl => by
    obtain ⟨kk, e1, e2⟩ := hb0 kV doc pm an cdv ct us [.int i tk] hl rfl
    refine BindsTo.of_looks fun M => ?_
    rw [e1]
    exact looks_items (its := [Value.int i tk].toArray) hK lT rfl (.of_pure (by rw [e2]; simp))
  have mk1 : ∀ (us : List Value) (s : Shared), K.In s.heap → us.length + 1 = ps.length → BindsTo s (PySem.W.fnOf x x (defArgs st) (defBody st) (defScope st) (.ref T) kV doc pm an cdv ct) ⟨us, []⟩ (ps.zip (us ++ [.int i tk])) := fun us s hK hl => by
    obtain ⟨kk, e1, e2⟩ := hb1 kV doc pm an cdv ct us [.int i tk] hl rfl
    refine BindsTo.of_looks fun M => ?_
    rw [e1]
    exact looks_items (its := [Value.int i tk].toArray) hK lT rfl (.of_pure e2)
  refine ⟨f, _, F, fun s us hK hl => ?_, ⟨[.int i tk], .cons ⟨tk, rfl⟩ .nil, fun s us hK hl => mk1 us s hK (by rw [List.length_append] at hl; exact hl)⟩, PySem.W.mg_of X G a⟩
  rw [List.append_nil] at hl ⊢
  exact mk us s hK hl
end G
namespace G
open PySem L2
/-! ### what is never reached needs no rule -/
section
variable {ι : Type} {M : MI} {xr : Str → Option Value} {K : PySem.W.Frag} {X : ι → Cx} {W : WX}
def sBad : Sm M Out := fun _ => .bad
def eBad : Sm M S := fun _ => .bad
theorem ds_bad {st : Stmt} : DS M xr K X W st sBad := ⟨fun _ _ _ => False, fun _ => ⟨fun _ _ _ _ _ _ h => h.elim⟩, fun _ _ _ _ _ _ _ _ _ h => h⟩
theorem de_bad {e : Expr} : DE M xr K X W e eBad := ⟨fun _ _ _ => False, fun _ => ⟨fun _ _ _ _ _ _ h => h.elim⟩, fun _ _ _ _ _ _ _ _ _ h => h⟩
end
/-! ### repr of tuples and lists -/
def rRepr (K : PySem.W.Frag) : List V → Hp → VK → Prop := fun xs H Q => (xs = [.non] ∧ Q (.str "None") H) ∨ ∃ a d, xs = [.ref a] ∧ Dp K H (.ref a) d ∧ d.canLay0 = true ∧ d.showable = true ∧ d.depth ≤ 290 ∧ d.shown.length ≤ sizeLine ∧ Q (.str d.shown) H
theorem call_repr {X : Cx} (hg : X.A.guards = some []) (hu : X.A.units + 300 < cLine) : CallR X (.builtin "repr") (rRepr X.K) := by
  intro pins s σ H xs us Q I r h
  rcases h with ⟨rfl, q⟩ | ⟨a, d, rfl, hd, h1, h2, h3, h4, q⟩
  · cases r with
    | cons ru rt =>
      cases rt
      cases ru
      exact PySem.P.repr_of_none ⟨.str _, H, I.tok _, ⟨_, rfl⟩, q⟩
  cases r with
  | cons ru rt =>
    cases rt
    cases ru
    obtain ⟨as, rr⟩ := Dp.reads I d (.ref a) (.ref a) hd rfl
    exact repr_of_reads' rr h2 (PyData.noDict_hsm (PyData.hasDict_of_canLay d h1)) hg (by omega) (fun b o e => e) (fun h' u tk hk => ⟨.str d.shown, H, I.kept hk, ⟨u, rfl⟩, q⟩) h4
def shw (d : D) : Str := (toPy d).shown
def showOk (d : D) : Bool := lay d && ((toPy d).showable && (decide (dep d ≤ 290) && decide ((shw d).length ≤ 15000000)))
def fRepr : List D → Option R := fun as => match as with
  | [.non] => some (.d (.str "None"))
  | [.tup xs] => if showOk (.tup xs) = true then some (.d (.str (shw (.tup xs)))) else none
  | [.lst xs] => if showOk (.lst xs) = true then some (.d (.str (shw (.lst xs)))) else none
  | _ => none
theorem repr_hit {K : PySem.W.Frag} {F H : Hp} {v : V} {d : D} {Q : VK} (s : SameX F H) (r : Rv K F H v d) (hv : ∃ a, v = .ref a) (h : Hit0 K F H (if showOk d = true then some (.d (.str (shw d))) else none) Q) : rRepr K [v] H Q := by
  obtain ⟨a, rfl⟩ := hv
  by_cases hs : showOk d = true
  · rw [if_pos hs] at h
    unfold showOk at hs
    rw [Bool.and_eq_true, Bool.and_eq_true, Bool.and_eq_true] at hs
    exact .inr ⟨a, toPy d, rfl, r.dp s hs.1, by rw [canLay_toPy]; exact hs.1, hs.2.1, by rw [depth_toPy]; exact of_decide_eq_true hs.2.2.1, (by have q : (toPy d).shown.length ≤ 15000000 := of_decide_eq_true hs.2.2.2; rw [sizeLine_eq]; omega), h _ (.str _)⟩
  · rw [if_neg hs] at h
    exact h.elim
theorem opn_repr {K : PySem.W.Frag} : OpN K (rRepr K) fRepr := by
  intro F H xs as Q s hp h
  match as, hp, h with
  | [.tup ds], hp, h =>
    obtain ⟨x, rfl, r⟩ := p1 hp
    obtain ⟨a, vs, rfl, _, _⟩ := r.tup s
    exact repr_hit s r ⟨a, rfl⟩ h
  | [.lst ds], hp, h =>
    obtain ⟨x, rfl, r⟩ := p1 hp
    obtain ⟨a, vs, rfl, _, _⟩ := r.lst s
    exact repr_hit s r ⟨a, rfl⟩ h
  | [], _, h => exact h.elim
  | [.non], hp, h =>
    obtain ⟨x, rfl, r⟩ := p1 hp
    have := r.da (fun _ q => by cases q)
    cases this
    exact .inl ⟨rfl, h _ (.str _)⟩
  | [.bl _], _, h => exact h.elim
  | [.int _], _, h => exact h.elim
  | [.str _], _, h => exact h.elim
  | [.scr _], _, h => exact h.elim
  | [.emp], _, h => exact h.elim
  | [.exc _ _], _, h => exact h.elim
  | [.o _], _, h => exact h.elim
  | .non :: _ :: _, _, h => exact h.elim
  | .bl _ :: _ :: _, _, h => exact h.elim
  | .int _ :: _ :: _, _, h => exact h.elim
  | .str _ :: _ :: _, _, h => exact h.elim
  | .tup _ :: _ :: _, _, h => exact h.elim
  | .lst _ :: _ :: _, _, h => exact h.elim
  | .scr _ :: _ :: _, _, h => exact h.elim
  | .emp :: _ :: _, _, h => exact h.elim
  | .exc _ _ :: _ :: _, _, h => exact h.elim
  | .o _ :: _ :: _, _, h => exact h.elim
section
variable {ι : Type} {P : Program} {w : World} {K : PySem.W.Frag} {mg : Str → Option Value} {base : Heap} {N : List Str} {W : WX} {n : Nat} {X : ι → Cx}
theorem fb_repr (p : Pc P w K mg base N W n X) : Fb K X "repr" fRepr := .fn "repr" (rRepr K) (fun j => by rw [← p.k j]; exact call_repr (p.gd j) (p.u j)) opn_repr PyProof.Rows.boot_repr (by decide) (by decide)
end
end G
namespace G
open PySem L2
section
variable {ι : Type} {M : MI} {xr : Str → Option Value} {K : PySem.W.Frag} {X : ι → Cx} {W : WX} {N : List Str} {mg : Str → Option Value} {pos : Pos}
/-! ### range of two, and downwards -/
def intsS : List S → Option (List Int)
  | [] => some []
  | .d (.int i) :: r => (intsS r).map (i :: ·)
  | _ => none
theorem intsS_eq {G : Gx} {σ : St} {F : Hp} : ∀ {ss : List S} {vs : List V} {is : List Int}, Paired (fun v s => EO G σ F v s) vs ss → intsS ss = some is → vs = is.map V.int
  | [], _, _, .nil, e => by cases e; rfl
  | .d (.int i) :: r, _, is, .cons a t, e => by
    unfold intsS at e
    cases h : intsS r with
    | none => rw [h] at e; cases e
    | some js =>
      rw [h] at e
      cases e
      rw [List.map_cons, intsS_eq t h]
      cases (show Da G.K F _ (.int i) from a)
      rfl
  | .d .non :: _, _, _, _, e => by cases e
  | .d (.bl _) :: _, _, _, _, e => by cases e
  | .d (.str _) :: _, _, _, _, e => by cases e
  | .d (.tup _) :: _, _, _, _, e => by cases e
  | .d (.lst _) :: _, _, _, _, e => by cases e
  | .d (.scr _) :: _, _, _, _, e => by cases e
  | .d .emp :: _, _, _, _, e => by cases e
  | .d (.exc _ _) :: _, _, _, _, e => by cases e
  | .d (.o _) :: _, _, _, _, e => by cases e
  | .l _ :: _, _, _, _, e => by cases e
  | .v _ :: _, _, _, _, e => by cases e
  | .m _ :: _, _, _, _, e => by cases e
def inR (j : Int) : Bool := decide (-(2 ^ 62) ≤ j ∧ j < 2 ^ 62)
def rg2D : Option (List Int) → Option (List D)
  | some [i, j] => if (inR i && inR j) = true then some (rangeD i (j - i).toNat) else none
  | _ => none
def downD (i : Int) (n : Nat) : List D := (List.range n).map fun (k : Nat) => D.int (i + (k : Int) * (-1))
def rg3D : Option (List Int) → Option (List D)
  | some [i, j, -1] => if (inR i && inR j) = true then some (downD i (i - j).toNat) else none
  | _ => none
def iRg2M (g : Sm M (List S)) : Sm M (List D) := fun z => (g z).bind fun ss z1 => Rs.opt (rg2D (intsS ss)) z1
def iRg3M (g : Sm M (List S)) : Sm M (List D) := fun z => (g z).bind fun ss z1 => Rs.opt (rg3D (intsS ss)) z1
theorem wk_down {F : Hp} (lo : Int) (n : Nat) : Wk K F (Itc lo (-1) n) (downD lo n) := by
  have w := (walk_rangeC (lo := lo) (c := -1) (n := n)).mono (G' := fun H => SameX F H) (Y' := YD K F (downD lo n)) (fun H s => trivial) (fun i H x H' hi _ ⟨e1, e2⟩ => by
    rw [e1, e2]
    refine yd_old (d := .int (lo + (i : Int) * (-1))) ?_ (.int _)
    unfold downD
    rw [List.getElem?_map, List.getElem?_range hi]
    rfl)
  have e : (downD lo n).length = n := by unfold downD; rw [List.length_map, List.length_range]
  unfold Wk
  rw [e]
  exact w
theorem inR_of {j : Int} (h : inR j = true) : -(2 ^ 62) ≤ j ∧ j < 2 ^ 62 := of_decide_eq_true h
theorem di_range3 {tg a b c : Expr} {g : Sm M (List S)} {pp : Pos} (p : Pl K X N mg) (hm : mg "range" = none) (ha : DA M xr K X W [a, b, c] g) (hg : ∀ j, Gl (X j) "range" := by intro _; rfl) (hs : ∀ j, starEach [a, b, c] (X j).env = (false, eval a (X j).env) :: starEach [b, c] (X j).env := by intro _; rfl) (hpl : ∀ j, (backTo pos (starEach [b, c] (X j).env)).any (·.1) = false := by intro _; rfl) :
    DI M xr K X W tg (.Call (.Name "range" pp) [a, b, c] [] pos) (iRg3M g) := by
  obtain ⟨t, pa, ca⟩ := ha
  refine ⟨_, fun j => pi_range3 (hg j) (by rw [p.g j]; exact hm) (pa j) (hs j) (hpl j), fun G σ H F z Q hK hx ok hh => ?_⟩
  refine ca G σ H F z _ hK hx ok (hit_bind hh fun ss z1 vs H1 F1 _ sm ok1 ea h1 => ?_)
  cases e : intsS ss with
  | none => rw [e] at h1; exact h1.elim
  | some is =>
    have ev := intsS_eq ea e
    rw [e] at h1
    unfold rg3D at h1
    split at h1
    · rename_i i j q
      cases q
      by_cases hb : (inR i && inR j) = true
      · rw [if_pos hb] at h1
        rw [Bool.and_eq_true] at hb
        have b1 := inR_of hb.1
        have b2 := inR_of hb.2
        exact ⟨i, j, -1, (i - j).toNat, ev, RgC.neg b1.1 b1.2 b2.1 b2.2, h1 _ H1 F1 (Same.refl _) ok1 (wk_down i _)⟩
      · rw [if_neg hb] at h1
        exact h1.elim
    · exact h1.elim
end
end G
namespace G
open PySem L2
theorem okG {P : Program} {w : World} {K : PySem.W.Frag} {mg : Str → Option Value} {base : Heap} {x qual : Str} {st : Stmt} {f : Addr} {fd : FuncData} {dvs : List V} {N ps : List Str} {k : Nat} {sp : Sp} (F : FunD K x qual (defArgs st) (defBody st) (defScope st) dvs [] f fd) (Sc : FnScope N ps (defScope st)) (len : ∀ vs H Q E, sp vs H Q E → vs.length = ps.length)
    (hb : ∀ (cdv : Value) (A : Around) (outer : List Env) (s : Shared) (H : Hp) (vs : List V) (Q : VK) (E : XK), Room k (A.deeper (PyProof.Rows.envOfC qual (defScope st) s.heap.objs.size f cdv)) → A.guards = some [] → sp vs H Q E →
      ∃ t, PSs (cxOf (L2.CX P w) P w K mg base N qual (defScope st) f cdv A outer s H E) (defBody st) t ∧ t { nx := fun _ H' => Q .non H', rt := Q } (start N vs) H) : FnG P w K mg base (L2.CX P w) (k + 1) f fd ps sp := by
  obtain ⟨oc, od, dV, kV, doc, pm, an, cdv, ct, osl, rfl, lk, hcd, _, _⟩ := F.ex
  exact fnG lk hcd Sc len (fun A outer s H vs Q E hr hg h => hb cdv A outer s H vs Q E hr hg h)
end G
namespace G
open PySem L2
section
variable {ι : Type} {M : MI} {xr : Str → Option Value} {K : PySem.W.Frag} {X : ι → Cx} {W : WX}
/-- a, b = x, y -/
def sPar (i j : Nat) (g : Sm M (List S)) : Sm M Out := fun z => (g z).bind fun ss z1 => match ss with
  | [.d x, .d y] => .ok .nx { z1 with rho := (z1.rho.set i (some (.d x))).set j (some (.d y)) }
  | _ => .bad
theorem ds_par {i j : Nat} {x y : Str} {a b : Expr} {g : Sm M (List S)} {px py pt pos : Pos} {kt k2 pt2} (hc : ∀ q, (X q).calm = true) (hN : ∀ q, (X q).N.Nodup) (hi : ∀ q, (X q).N[i]? = some x) (hj : ∀ q, (X q).N[j]? = some y) (hij : i ≠ j) (hx : ∀ q, (X q).env.scope.names.lookup x = some .local) (hy : ∀ q, (X q).env.scope.names.lookup y = some .local) (ha : DA M xr K X W [a, b] g)
    (hw : ∀ q, swappedStores [.Tuple [.Name x px, .Name y py] kt pt] (.Tuple [a, b] k2 pt2) (X q).env = pure (some [x, y]) := by intro _; rfl) (hs : ∀ q, swapsWithSole [.Tuple [.Name x px, .Name y py] kt pt] (.Tuple [a, b] k2 pt2) pos.line (X q).env = pure false := by intro _; rfl) :
    DS M xr K X W (.Assign [.Tuple [.Name x px, .Name y py] kt pt] (.Tuple [a, b] k2 pt2) pos) (sPar i j g) := by
  obtain ⟨t, p, c⟩ := ha
  refine ⟨_, fun q => ps_par (hc q) (hN q) (hi q) (hj q) hij (hx q) (hy q) (p q) (hw q) (hs q), fun G σ H F z D hK hx ok hh => ?_⟩
  refine c G σ H F z _ hK hx ok (hits_bind hh fun ss z1 vs H1 F1 _ sm ok1 ea h2 => ?_)
  match ss, vs, ea, h2 with
  | [.d x, .d y], _, .cons a (.cons b .nil), h2 =>
    refine ⟨_, _, rfl, h2 _ H1 F1 (Same.refl _) ?_⟩
    have ok2 := ok1.set (i := i) (s := .d x) (show Da G.K F1 _ x from a) (fun _ e => by cases e)
    exact ok2.set (i := j) (s := .d y) (show Da G.K F1 _ y from b) (fun _ e => by cases e)
  | [], _, _, h2 => exact h2.elim
  | [.d _], _, _, h2 => exact h2.elim
  | .l _ :: _, _, _, h2 => exact h2.elim
  | .v _ :: _, _, _, h2 => exact h2.elim
  | .m _ :: _, _, _, h2 => exact h2.elim
  | .d _ :: .l _ :: _, _, _, h2 => exact h2.elim
  | .d _ :: .v _ :: _, _, _, h2 => exact h2.elim
  | .d _ :: .m _ :: _, _, _, h2 => exact h2.elim
  | .d _ :: .d _ :: _ :: _, _, _, h2 => exact h2.elim
end
end G
/-! An exception that is caught and kept by a name. -/
namespace G
open PySem L2 PySem.Spec PyProof.Rows
theorem xo_ok {P : Program} {w : World} {H : Hp} {h : Heap} {a : Addr} {cls : Value} {d : Option Addr} {ox : Obj} {fs : Array Value} (e : h.get? a = some ox) (z : Zc cls d ox) (q : ox.data = .fields fs) : ObjOk P w H h a (XO cls d a) :=
  ⟨⟨ox, fs, e, z, q⟩, ⟨ox, e⟩, fun h1 h2 ⟨o1, f1, a1, b1, c1⟩ st => ⟨o1, f1, st _ a1, b1, c1⟩⟩
section
variable {Y : Cx} {ps : List (Addr × Obj)} {τ : L2.St} {H : Hp} {t : Shared}
theorem inv_keepX {a : Addr} {ox : Obj} {fs : Array Value} {cls : Value} {d : Option Addr} (J : Inv Y ((a, ox) :: ps) τ H t) (hz : Zc cls d ox) (hd : ox.data = .fields fs) (h0 : Y.s_0.heap.get? a = none) (hne : ∀ p ∈ Y.pn ++ ps, p.1 ≠ a) : Inv Y ps τ (upd H a (XO cls d a)) t := by
  obtain ⟨g1, g2, g3, g4, g5⟩ := J.pin (a, ox) (List.mem_append_right _ List.mem_cons_self)
  have nb : ∀ {b : Addr} {o : HO}, H b = some o → b ≠ a := fun {b o} e => ne_of_none e g2
  refine ⟨J.ok, J.os, J.bare, ⟨J.base.keep, J.base.slot, fun b o e n hx => ?_, J.base.there, fun b xs e => ?_, fun b o u e => ?_, fun b ys e => ?_⟩, J.loc, J.cell, ?_, fun x c e => ?_, fun p hp => ?_, fun b u e => ?_, J.len⟩
  · have z : b ≠ a := fun q => by rw [q, h0] at e; cases e
    rw [upd_ne z]
    exact J.base.free b o e n hx
  · have q := J.base.tups b xs e
    rw [upd_ne (nb q)]
    exact q
  · have q := J.base.frzs b o u e
    rw [upd_ne (nb q)]
    exact q
  · obtain ⟨more, q⟩ := J.base.tbls b ys e
    exact ⟨more, by rw [upd_ne (nb q)]; exact q⟩
  · rw [upd_ne (Ne.symm g3)]
    exact J.free
  · obtain ⟨v, o, ho, hc⟩ := J.cell x c e
    have z : c ≠ a := fun q => by
      rw [q, g1] at ho
      cases ho
      exact g5 v hc
    rw [upd_ne z]
    exact J.freeC x c e
  · have hp' : p ∈ Y.pn ++ (a, ox) :: ps := by
      rcases List.mem_append.mp hp with q | q
      · exact List.mem_append_left _ q
      · exact List.mem_append_right _ (List.mem_cons_of_mem _ q)
    obtain ⟨r1, r2, r3, r4, r5⟩ := J.pin p hp'
    exact ⟨r1, by rw [upd_ne (hne p hp)]; exact r2, r3, r4, r5⟩
  · by_cases hb : b = a
    · subst hb
      rw [upd_same] at e
      cases e
      exact xo_ok g1 hz hd
    · rw [upd_ne hb] at e
      refine (J.hok b u e).stay (fun _ _ _ q => q) (fun c q => ?_) fun c xs q => ?_
      · rw [upd_ne (nb q)]; exact q
      · rw [upd_ne (nb q)]; exact q
theorem sky_new {B : Heap} {l : List Env} {a L : Addr} {Z : Obj → Prop} {h : Heap} (k : Sky B l a Z L h) : B.get? a = none := by
  rcases k with ⟨_, k, _⟩ | ⟨_, k, _⟩ | ⟨_, k, _⟩
  · exact k
  · exact k
  · exact k
/-- the wish of «except x as n: suite» whose exception is known from then on -/
def wKeep (K : PySem.W.Frag) (c : Value) (i : Nat) (ts : Addr → Value → Option Addr → TS) (Wo : WX) (D : Ends) : WX := fun cls d τ H =>
  ∃ b, PySem.W.exmOne K cls c = some b ∧ (b = true → ∀ a, H a = none → ts a cls d { nx := fun τ1 H1 => H1 a = none → D.nx (τ1.set i none) (upd H1 a (XO cls d a)), rt := fun _ _ => False, bk := fun _ _ => False, ct := fun _ _ => False } (τ.set i (some (.ref a))) H) ∧ (b = false → Wo cls d τ H)
theorem ps_keep {x n : Str} {c : Value} {i : Nat} {body sut : List Stmt} {s0 : Stmt} {q1 q2 q3 : Pos} {tb : WX → TS} {ts : Addr → Value → Option Addr → TS} {Wo : WX} (hst : Y.stack = Y.env :: Y.outer) (hfr : Y.env.frame = some Y.env.locals) (hex : Y.ex = []) (nd : Y.N.Nodup) (hi : Y.N[i]? = some n) (hkn : Y.env.kindOf n = some .local) (hcl : Names Y x c) (tk : Takes Y Wo)
    (hbo : ∀ (V : WX) (pl : List (Addr × Obj)) (xw : Value → Shared → Prop), Takes (Y.tr pl xw) V → PassesOwn (model Y.prog Y.w) Y.A Y.env xw → PSs (Y.tr pl xw) body (tb V))
    (hsu : ∀ (a : Addr) (ox : Obj) (cls : Value) (d : Option Addr) (pl : List (Addr × Obj)), Zc cls d ox → (∃ fs, ox.data = .fields fs) → PSs (Y.suite a ((a, ox) :: pl)) (s0 :: sut) (ts a cls d)) :
    PS Y (.Try body [.ExceptHandler (some (.Name x q1)) (some n) (s0 :: sut) q2] [] [] q3) (fun D τ H => tb (wKeep Y.K c i ts Wo D) D τ H) := by
  refine ⟨fun ps t τ H D J h => ?_⟩
  have yk := J.ok
  have afr : Y.A.frames = some (Y.env :: Y.outer) := by rw [yk.frames, hst]
  have nloc : Loc Y.env.scope n := .inl hkn
  refine wpAny_Try_except ?_
  refine wpAny_mono ((hbo (wKeep Y.K c i ts Wo D) (Y.pn ++ ps) (fun e t1 => wpAny (model Y.prog Y.w) Y.A (noteFrame e Y.env) (fun _ t2 => wpAny (model Y.prog Y.w) Y.A (setFlight e none) (fun _ t3 =>
    wpAny (model Y.prog Y.w) Y.A (handleBy e Y.env [.ExceptHandler (some (.Name x q1)) (some n) (s0 :: sut) q2]) (SP Y ps D) Y.xe t3) Y.xe t2) Y.xe t1) (fun u t' fly => ?_) PassesOwn.looking).run [] t τ H D (J.toTry _) h) (fun fl t1 hend => ?_) (fun _ _ he => he)
  · obtain ⟨a, B, tI, ps', τ', H', cls, d, rfl, J0, grd, ups, sky, na, hos, hag, b, hb1, yes, no⟩ := fly
    have JI : Inv Y ps τ' H' tI := J0.ofTry yk
    have newB := sky_new sky
    have skyS : Sky B (Y.env :: Y.outer) a (Zc cls d) Y.env.locals t'.heap := by rw [← hst]; exact sky
    show wpAny (model Y.prog Y.w) Y.A (noteFrame (.ref a) Y.env) _ _ _
    refine Sky.land Zc.steady afr hfr skyS fun h3 f3 u3 => ?_
    have J3 : Inv Y ps τ' H' { t' with heap := h3 } := JI.landed grd f3.1 (ups.trans u3) hos hag
    obtain ⟨ox3, fs3, ex3, ez3, ed3⟩ := f3.there
    have apart : a ∉ frs (Y.env :: Y.outer) := fun hm => by
      obtain ⟨_, o', e', hnf⟩ := f3.2.2.1.mem hm
      rw [ex3] at e'
      cases e'
      exact hnf _ ed3
    have aL : a ≠ Y.env.locals := fun z => apart (List.mem_filterMap.mpr ⟨Y.env, List.mem_cons_self, by rw [hfr, z]⟩)
    have aF : a ∉ Y.fs := fun hm => by
      obtain ⟨e, he, q⟩ := List.mem_filterMap.mp hm
      exact apart (List.mem_filterMap.mpr ⟨e, List.mem_cons_of_mem _ he, q⟩)
    have newI : tI.heap.get? a = none := by
      cases q : tI.heap.get? a with
      | none => rfl
      | some o =>
        have := grd a o q (by show a ∉ frs Y.stack; rw [hst]; exact apart)
        rw [newB] at this
        cases this
    have new0 : Y.s_0.heap.get? a = none := by
      cases q : Y.s_0.heap.get? a with
      | none => rfl
      | some o =>
        obtain ⟨o', q'⟩ := JI.base.there a o q (by rw [hex]; exact List.not_mem_nil)
        rw [newI] at q'
        cases q'
    have others : ∀ p ∈ Y.pn ++ ps, p.1 ≠ a := fun p hp z => by
      have := (JI.pin p hp).1
      rw [z, newI] at this
      cases this
    have S3 := J3.suite ex3 ed3 na aL aF
    refine wpAny_handleBy_cons (codeAny_handlers_test ?_) (by intro q; cases q)
    have tyA : PySem.W.Looks (model Y.prog Y.w) h3 (typeOf (.ref a)) cls := fun A Q E s k q => wpAny_typeOf_ref (k _ _ ex3) (by rw [ez3.1]; exact q)
    have look := PySem.W.exm_one (M := model Y.prog Y.w) (J3.kIn) tyA hb1
    have nameC : ∀ {Q : Value → Shared → Prop} {E : Value → Shared → Prop}, Q c { t' with heap := h3 } → wpAny (model Y.prog Y.w) (Y.A.mark (some (.ref a))) (eval (.Name x q1) Y.env) Q E { t' with heap := h3 } := fun {Q E} q => by
      obtain ⟨hg, hdb, hm | ⟨hm, hv, hnn⟩⟩ := hcl
      · exact ld_glob (X := Y.suite a ((a, ox3) :: (Y.pn ++ ps))) S3 hg hm q hdb
      · exact ld_blt (X := Y.suite a ((a, ox3) :: (Y.pn ++ ps))) S3 hg hm hv q hnn hdb
    refine nameC (look.here ?_)
    cases b with
    | true =>
      refine codeAny_handlers_suite_as ?_
      refine HandSPX.lands_againZ f3 fun h4 f4 u4 => ?_
      have J4 : Inv Y ps τ' H' { t' with heap := h4 } := JI.landed grd f4.1 ((ups.trans u3).trans u4) hos hag
      obtain ⟨ox4, fs4, ex4, ez4, ed4⟩ := f4.there
      have S4 := J4.suite ex4 ed4 na aL aF
      refine store_ok (X := Y.suite a ((a, ox4) :: (Y.pn ++ ps))) (v := .ref a) S4 nd hi nloc rfl (fun t5 S5 => ?_) (.inr hkn)
      refine wpAny_mono ((hsu a ox4 cls d (Y.pn ++ ps) ez4 ⟨_, ed4⟩).run [] t5 _ H' _ S5 (yes rfl a na)) (fun fl t6 hend => ?_) (fun _ _ z => False.elim z)
      cases fl with
      | next =>
        obtain ⟨τ6, H6, S6, q6⟩ := hend
        have K6 : Inv Y ((a, ox4) :: ps) τ6 H6 t6 := ⟨yk, S6.os, S6.bare, S6.base, S6.loc, S6.cell, S6.free, S6.freeC, fun p hp => S6.pin p (by
          rcases List.mem_append.mp hp with r | r
          · exact List.mem_append_left _ (List.mem_cons_of_mem _ (List.mem_append_left _ r))
          · rcases List.mem_cons.mp r with r | r
            · rw [r]
              exact List.mem_append_left _ List.mem_cons_self
            · exact List.mem_append_left _ (List.mem_cons_of_mem _ (List.mem_append_right _ r))), S6.hok, S6.len⟩
        have na6 : H6 a = none := (K6.pin (a, ox4) (List.mem_append_right _ List.mem_cons_self)).2.1
        exact gone_ok (Q := fun _ t7 => SP Y ps D .next t7) K6 nd hi hkn fun t7 K7 => ⟨_, _, inv_keepX K7 ez4 ed4 new0 others, q6 na6⟩
      | brk =>
        obtain ⟨τ6, H6, S6, q6⟩ := hend
        exact q6.elim
      | cont =>
        obtain ⟨τ6, H6, S6, q6⟩ := hend
        exact q6.elim
      | ret u =>
        obtain ⟨v6, τ6, H6, S6, r6, q6⟩ := hend
        exact q6.elim
    | false =>
      show wpAny _ Y.A (handleBy (.ref a) Y.env []) _ _ _
      refine wpAny_handleBy_nil ?_
      obtain ⟨k1, k2, k3, oy, ys, Tr, oT, tt, ky, kz, kd, kh, kr⟩ := id f3
      unfold PySem.passOn
      refine wpAny_bind (wpAny_field ky kd kh ?_)
      rw [if_neg (show ¬ ((Value.ref Tr == Value.none) = true) from by simp)]
      have last : wpAny (model Y.prog Y.w) Y.A (setFlight (.ref a) Y.env.frame) (fun _ t4 => wpAny (model Y.prog Y.w) Y.A (throw (.ref a) : Sem Flow) (SP Y ps D) Y.xe t4) Y.xe { t' with heap := h3 } := by
        rw [hfr]
        refine HandSPX.setFlight_upZ f3 fun h4 hh4 u4 => wpAny_throw (tk _ _ ?_)
        exact ⟨a, B, tI, ps, τ', H', cls, d, rfl, JI, grd, (ups.trans u3).trans u4, .inr (.inr (by rw [hst]; exact hh4)), na, hos, hag, no rfl⟩
      first
        | exact wpAny_bind (wpAny_pure (wpAny_bind last))
        | exact wpAny_bind last
  · cases fl with
    | next =>
      obtain ⟨τ1, H1, J1, q⟩ := hend
      exact wpAny_execs_nil ⟨τ1, H1, J1.ofTry yk, q⟩
    | brk =>
      obtain ⟨τ1, H1, J1, q⟩ := hend
      exact ⟨τ1, H1, J1.ofTry yk, q⟩
    | cont =>
      obtain ⟨τ1, H1, J1, q⟩ := hend
      exact ⟨τ1, H1, J1.ofTry yk, q⟩
    | ret u =>
      obtain ⟨v, τ1, H1, J1, r, q⟩ := hend
      exact ⟨v, τ1, H1, J1.ofTry yk, r, q⟩
end
end G
/-! raise, try .. except C as e: y = e; isinstance of what was caught. -/
namespace G
open PySem L2
/-- an own exception class without __init__, over ValueError -/
structure XF (K : PySem.W.Frag) (mg : Str → Option Value) (x : Str) (C : Addr) : Prop where
  ns : PySem.W.nsIn K mainGlobals x = some (some (.ref C))
  gl : mg x = some (.ref C)
  ex : PySem.W.excIn K C [.type "ValueError", .type "Exception", .type "BaseException", .type "object"] "ValueError.__new__" = true
  kp : PySem.W.keepIn K (.ref C) = true
  sb : PySem.W.subIn K (.ref C) (.type "BaseException") = some true
  ty : PySem.W.typeIn K (.ref C) = some (.type "type")
theorem XF.xr {K : PySem.W.Frag} {mg : Str → Option Value} {x : Str} {C : Addr} (h : XF K mg x C) : xrK K x = some (.ref C) := by
  unfold xrK
  rw [h.ns]
section
variable {ι : Type} {M : MI} {P : Program} {w : World} {K : PySem.W.Frag} {mg : Str → Option Value} {base : Heap} {N : List Str} {W : WX} {n : Nat} {X : ι → Cx}
def sRaise (x : Str) : Sm M Out := fun z => .ex ⟨x, none⟩ z
theorem ds_raise {x m : Str} {C : Addr} {j : Nat} {p1 p2 p3 pos : Pos} (p : Pc P w K mg base N W n X) (tk : ∀ j, Takes (X j) W) (f : XF K mg x C) (hg : ∀ j, Gl (X j) x := by intro _; rfl) (hdb : (x == ("__debug__" : Str)) = false := by decide) :
    DS M (xrK K) K X W (.Raise (some (.Call (.Name x p1) [.Constant (.str m) j p2] [] p3)) none pos) (sRaise x) := by
  refine ⟨fun _ σ H => W (.ref C) none σ H, fun q => ?_, fun G σ H F z D hK hx ok h => ?_⟩
  · exact ps_raise (p.c q) (tk q) (pmk_own PySem.F.excBase_ValueError (by rw [p.k q]; exact f.ex) (by rw [p.g q]; exact f.gl) (by rw [p.k q]; exact f.kp) (raises_own (by rw [p.k q]; exact f.sb) (by rw [p.k q]; exact f.ty)) (hg q) hdb)
  · exact h (.ref C) none σ H F (Same.refl _) ok ⟨by rw [hx]; exact f.xr, rfl⟩
/-! ### the contexts of a try's body -/
def Xt (X : ι → Cx) (V : WX) : {p : ι × List (Addr × Obj) × (Value → Shared → Prop) // Takes ((X p.1).tr p.2.1 p.2.2) V ∧ PassesOwn (model (X p.1).prog (X p.1).w) (X p.1).A (X p.1).env p.2.2} → Cx := fun q => (X q.1.1).tr q.1.2.1 q.1.2.2
theorem Pc.tr (p : Pc P w K mg base N W n X) (V : WX) : Pc P w K mg base N V n (Xt X V) :=
  ⟨⟨fun q => p.k q.1.1, fun q => p.c q.1.1, fun q => p.n q.1.1, p.nd, fun q => p.g q.1.1, fun q => p.u q.1.1⟩, fun q => p.pr q.1.1, fun q => p.pw q.1.1, fun q => p.pb q.1.1, fun q => p.room q.1.1, fun q σ => by
    have e := passAt q.2.1 σ
    have e1 : (Xt X V q).prog = P := p.pr q.1.1
    have e2 : (Xt X V q).w = w := p.pw q.1.1
    rw [show ((X q.1.1).tr q.1.2.1 q.1.2.2).prog = P from e1, show ((X q.1.1).tr q.1.2.1 q.1.2.2).w = w from e2] at e
    exact e, fun q => p.gd q.1.1⟩
def sCatch (i y : Nat) (tb : Str → Option Bool) (f : Sm M Out) : Sm M Out := fun z => match f z with
  | .ex x z1 => (match tb x.c, x.arg with
    | some true, none => if i < z1.rho.length then .ok .nx { z1 with rho := ((z1.rho.set i (some (.d (.exc x.c [])))).set y (some (.d (.exc x.c [])))).set i none } else .bad
    | some false, _ => .ex x z1
    | _, _ => .bad)
  | r => r
theorem Ok.unset {G : Gx} {σ : St} {H F : Hp} {z : Z M.T} (ok : Ok M G σ H F z) (i : Nat) : Ok M G (σ.set i none) H F { z with rho := z.rho.set i none } := ok.wipe [i]
theorem ds_catch {x nm yn : Str} {c : Value} {i y : Nat} {body : List Stmt} {f : Sm M Out} {tb : Str → Option Bool} {q1 q2 q3 q4 q5 q6 : Pos} (p : Pc P w K mg base N W n X) (hst : ∀ j, (X j).stack = (X j).env :: (X j).outer) (hfr : ∀ j, (X j).env.frame = some (X j).env.locals) (hex : ∀ j, (X j).ex = []) (tk : ∀ j, Takes (X j) W)
    (hi : ∀ j, (X j).N[i]? = some nm) (hk : ∀ j, (X j).env.kindOf nm = some .local) (hy : ∀ j, (X j).N[y]? = some yn) (hly : ∀ j, (X j).env.scope.names.lookup yn = some .local) (hln : ∀ j, (X j).env.scope.names.lookup nm = some .local) (hcl : ∀ j, Names (X j) x c)
    (htb : ∀ s b, tb s = some b → ∃ C, xrK K s = some (.ref C) ∧ PySem.W.exmOne K (.ref C) c = some b) (hb : ∀ V, DSs M (xrK K) K (Xt X V) V body f)
    (hs : ∀ j (a : Addr) (pl : List (Addr × Obj)), swapsWith (.Name nm q4) (some (.Name yn q5)) q6.line ((X j).suite a pl).env = pure false := by intro _ _ _; rfl)
    (hdn : (nm == ("__debug__" : Str)) = false := by decide) (hcn : (nm == ("__classdict__" : Str)) = false := by decide) :
    DS M (xrK K) K X W (.Try body [.ExceptHandler (some (.Name x q1)) (some nm) [.Assign [.Name yn q5] (.Name nm q4) q6] q2] [] [] q3) (sCatch i y tb f) := by
  refine ⟨fun D τ H => (hb (wKeep K c i (fun _ _ _ => tAsg (tVar i) (gName y)) W D)).choose D τ H, fun j => ?_, fun G σ H F z D hK hx ok hh => ?_⟩
  · have r := ps_keep (tb := fun V => (hb V).choose) (ts := fun _ _ _ => tAsg (tVar i) (gName y)) (q1 := q1) (q2 := q2) (q3 := q3) (s0 := .Assign [.Name yn q5] (.Name nm q4) q6) (sut := []) (hst j) (hfr j) (hex j) (p.toPl.nds j) (hi j) (hk j) (hcl j) (tk j) (fun V pl xw h1 h2 => (hb V).choose_spec.1 ⟨(j, pl, xw), h1, h2⟩) (fun a ox cls d pl hz hd => pss_one (ps_set (X := (X j).suite a ((a, ox) :: pl)) (p.toPl.nds j) (hy j) (.inl (hly j)) (pe_var (X := (X j).suite a ((a, ox) :: pl)) (hi j) (.inl (hln j)) hdn hcn) (hs j a _) (.inr (hly j))))
    rw [p.k j] at r
    exact r
  · refine (hb (wKeep K c i (fun _ _ _ => tAsg (tVar i) (gName y)) W D)).choose_spec.2 G σ H F z D hK hx ok ?_
    unfold sCatch at hh
    cases e : f z with
    | bad => rw [e] at hh; exact hh
    | ok o z1 =>
      rw [e] at hh
      cases o with
      | nx => exact hh
      | bk => exact hh
      | ct => exact hh
      | rt s => exact hh
    | ex xx z1 =>
      rw [e] at hh
      intro cls d σ1 H1 F1 s1 ok1 xo
      obtain ⟨xo1, xo2⟩ := xo
      rw [hx] at xo1
      cases et : tb xx.c with
      | none => simp only [et] at hh; exact hh.elim
      | some b =>
        obtain ⟨C, hC, hm⟩ := htb _ _ et
        rw [hC] at xo1
        cases xo1
        cases b with
        | false =>
          simp only [et] at hh
          exact ⟨false, hm, (fun z => by cases z), fun _ => hh (.ref C) d σ1 H1 F1 s1 ok1 ⟨by rw [hx]; exact hC, xo2⟩⟩
        | true =>
          cases ea : xx.arg with
          | some a => simp only [et, ea] at hh; exact hh.elim
          | none =>
            simp only [et, ea] at hh xo2
            subst xo2
            by_cases hl : i < z1.rho.length
            · rw [if_pos hl] at hh
              refine ⟨true, hm, fun _ a na => ?_, fun z => by cases z⟩
              refine ⟨.ref a, List.getElem?_set_self (by rw [← ok1.len]; exact hl), fun _ => ?_⟩
              have okA := ok1.newF na (XO (.ref C) none a) (fun _ e => by unfold XO at e; cases e)
              have da : Da G.K (upd F1 a (XO (.ref C) none a)) (.ref a) (.exc xx.c []) := .exc upd_same (by rw [hK]; exact hC)
              have okB := okA.set (i := i) (v := .ref a) (s := .d (.exc xx.c [])) da (fun _ e => by cases e)
              have okC := okB.set (i := y) (v := .ref a) (s := .d (.exc xx.c [])) da (fun _ e => by cases e)
              exact hh _ _ _ (s1.trans (same_upd (ok1.freshF na))) (okC.unset i)
            · rw [if_neg hl] at hh
              exact hh.elim
end
end G
namespace G
open PySem L2
/-! ### isinstance of an exception that was caught -/
def rIsX (K : PySem.W.Frag) : List V → Hp → VK → Prop := fun xs H Q => ∃ (a C : Addr) (c : V) (u : Value) (b : Bool), xs = [.ref a, c] ∧ H a = some (XO (.ref C) none a) ∧ ExcC K C ∧ (∀ v, RelV c v → v = u) ∧ PySem.W.kitOne K (.ref C) u = some b ∧ Q (.bl b) H
def rIsXT (K : PySem.W.Frag) : List V → Hp → VK → Prop := fun xs H Q => ∃ (a C tp : Addr) (cs : List V) (us : List Value) (b : Bool), xs = [.ref a, .ref tp] ∧ H a = some (XO (.ref C) none a) ∧ H tp = some (.tup cs) ∧ ExcC K C ∧ (∀ vs, Vals cs vs → vs = us) ∧ PySem.W.kitAny K (.ref C) us = some b ∧ Q (.bl b) H
theorem xo_inst {P : Program} {w : World} {H : Hp} {h : Heap} {a C : Addr} (k : HOk P w H h) (e : H a = some (XO (.ref C) none a)) : ∃ ox, PySem.W.InstAt h a ox C none := by
  obtain ⟨⟨ox, fs, g, z, d⟩, _⟩ := (show ObjOk P w H h a (XO (.ref C) none a) from k a _ e)
  obtain ⟨oc, od, oda, osl⟩ := ox
  obtain ⟨z1, z2⟩ := z
  dsimp only at z1 z2 d
  subst z1 z2 d
  exact ⟨_, g, rfl, rfl, trivial⟩
theorem call_isX {X : Cx} : CallR X (.builtin "isinstance") (rIsX X.K) := by
  intro pins s σ H xs us Q I r h
  obtain ⟨a, C, c, u, b, rfl, hH, E, hc, e, q⟩ := h
  obtain ⟨u1, u2, rfl, r1, r2⟩ := vals2 r
  cases (show u1 = Value.ref a from r1)
  have e2 := hc _ r2
  subst e2
  obtain ⟨ox, J⟩ := xo_inst I.hok hH
  exact PySem.W.kia_one (PySem.W.handS_kitx_exc E.hg E.hk E.hs E.hd E.ha E.hn E.ht E.hm) I.kIn J e (fun z => nomatch z) fun tk => ⟨.bl b, H, I.tok tk, rfl, q⟩
theorem call_isXT {X : Cx} : CallR X (.builtin "isinstance") (rIsXT X.K) := by
  intro pins s σ H xs us Q I r h
  obtain ⟨a, C, tp, cs, vs, b, rfl, hH, hT, E, hc, e, q⟩ := h
  obtain ⟨u1, u2, rfl, r1, r2⟩ := vals2 r
  cases (show u1 = Value.ref a from r1)
  cases (show u2 = Value.ref tp from r2)
  obtain ⟨ox, J⟩ := xo_inst I.hok hH
  obtain ⟨_, its, rv, o, h1, h2, k, h3⟩ := (show ObjOk X.prog X.w H s.heap tp (.tup cs) from I.hok tp _ hT)
  have e3 := hc _ rv
  subst e3
  obtain ⟨oc, od, dt, sl⟩ := o
  simp only at h2 h3
  subst h2 h3
  exact PySem.W.kia_tup (PySem.W.handS_kitx_exc E.hg E.hk E.hs E.hd E.ha E.hn E.ht E.hm) I.kIn J h1 e (fun z => nomatch z) fun tk => ⟨.bl b, H, I.tok tk, rfl, q⟩
section
variable {ι : Type} {M : MI} {xr : Str → Option Value} {K : PySem.W.Frag} {mg : Str → Option Value} {N : List Str} {W : WX} {X : ι → Cx}
def dIsX (tb : Str → Option Bool) : D → Option R := fun d => match d with
  | .exc c [] => (tb c).map fun b => .d (.bl b)
  | _ => none
theorem Rv.exc {F H : Hp} {v : V} {c : Str} (s : SameX F H) (h : Rv K F H v (.exc c [])) : ∃ a C, v = .ref a ∧ H a = some (XO (.ref C) none a) ∧ xrK K c = some (.ref C) := by
  rcases h with h | ⟨a, vs, xs, _, e, _⟩
  · cases h with
    | exc q r => exact ⟨_, _, rfl, s.ext q, r⟩
  · cases e
theorem de_isX {e eT : Expr} {vT : V} {u : Value} {tb : Str → Option Bool} {g : Sm M S} {pp pos : Pos} (p : Pl K X N mg) (hm : mg "isinstance" = none) (hT : ∀ j, PE (X j) eT (tC vT)) (hu : ∀ v, RelV vT v → v = u) (htb : ∀ s b, tb s = some b → ∃ C, xrK K s = some (.ref C) ∧ ExcC K C ∧ PySem.W.kitOne K (.ref C) u = some b) (h : DE M xr K X W e g) (hg : ∀ j, Gl (X j) "isinstance" := by intro _; rfl)
    (he : ∀ j, starEach [e, eT] (X j).env = (false, eval e (X j).env) :: starEach [eT] (X j).env := by intro _; rfl) (he2 : ∀ j, starEach [eT] (X j).env = (false, eval eT (X j).env) :: starEach [] (X j).env := by intro _; rfl) (hpl : ∀ j, (backTo pos (starEach [eT] (X j).env)).any (·.1) = false := by intro _; rfl) :
    DE M xr K X W (.Call (.Name "isinstance" pp) [e, eT] [] pos) (eUn (dIsX tb) g) := by
  obtain ⟨tt, pe, c⟩ := h
  refine ⟨tCB (rIsX K) (tCons tt (tCons (tC vT) tNil)), fun j => ?_, fun G σ H F z Q hK hx ok hh => ?_⟩
  · rw [← p.k j]
    exact pe_callB call_isX (hg j) (by rw [p.g j]; exact hm) PyProof.Rows.boot_isinstance (pa_cons (pe j) (pa_cons (hT j) pa_nil (he2 j)) (he j)) (by decide) (by decide) (he j) (hpl j)
  · refine cmp_opd c G σ H F z _ hK hx ok (hit_bind hh fun s z1 v H1 F1 _ sm1 ok1 e1 h1 => ?_)
    have q := fin_hit ok1 h1
    cases er : rd z1 s with
    | none => rw [er] at q; exact q.elim
    | some x =>
      rw [er] at q
      have q' : Hit0 G.K F1 H1 (dIsX tb x) Q := q
      unfold dIsX at q'
      split at q'
      · rename_i cn
        cases et : tb cn with
        | none => rw [et] at q'; exact q'.elim
        | some b =>
          rw [et] at q'
          obtain ⟨a, C, rfl, a1, a2⟩ := Rv.exc ok1.sub (EO.rv ok1 e1 er)
          obtain ⟨C', b1, b2, b3⟩ := htb _ _ et
          rw [hK, b1] at a2
          cases a2
          exact ⟨a, C, vT, u, b, rfl, a1, b2, hu, b3, q' _ (.bl b)⟩
      · exact q'.elim
/-- a row of constants -/
def tCs : List V → TA
  | [] => tNil
  | v :: r => tCons (tC v) (tCs r)
theorem tCs_is : ∀ (vs : List V) (σ : St) (H : Hp) (Q : List V → Hp → Prop), Q vs H → tCs vs σ H Q
  | [], _, _, _, h => h
  | v :: r, σ, H, Q, h => tCs_is r σ H (fun xs H2 => Q (v :: xs) H2) h
theorem de_isXT {e : Expr} {es : List Expr} {k : Nat} {vs : List V} {us : List Value} {tb : Str → Option Bool} {g : Sm M S} {pp pt pos : Pos} (p : Pl K X N mg) (hm : mg "isinstance" = none) (hl : vs.length ≤ sizeLine) (hT : ∀ j, PA (X j) es (tCs vs)) (hu : ∀ ws, Vals vs ws → ws = us) (htb : ∀ s b, tb s = some b → ∃ C, xrK K s = some (.ref C) ∧ ExcC K C ∧ PySem.W.kitAny K (.ref C) us = some b) (h : DE M xr K X W e g) (hg : ∀ j, Gl (X j) "isinstance" := by intro _; rfl)
    (he : ∀ j, starEach [e, .Tuple es k pt] (X j).env = (false, eval e (X j).env) :: starEach [.Tuple es k pt] (X j).env := by intro _; rfl) (he2 : ∀ j, starEach [.Tuple es k pt] (X j).env = (false, eval (.Tuple es k pt) (X j).env) :: starEach [] (X j).env := by intro _; rfl) (hpl : ∀ j, (backTo pos (starEach [.Tuple es k pt] (X j).env)).any (·.1) = false := by intro _; rfl) :
    DE M xr K X W (.Call (.Name "isinstance" pp) [e, .Tuple es k pt] [] pos) (eUn (dIsX tb) g) := by
  obtain ⟨tt, pe, c⟩ := h
  refine ⟨tCB (rIsXT K) (tCons tt (tCons (tTup (tCs vs)) tNil)), fun j => ?_, fun G σ H F z Q hK hx ok hh => ?_⟩
  · rw [← p.k j]
    exact pe_callB call_isXT (hg j) (by rw [p.g j]; exact hm) PyProof.Rows.boot_isinstance (pa_cons (pe j) (pa_cons (pe_tup (hT j)) pa_nil (he2 j)) (he j)) (by decide) (by decide) (he j) (hpl j)
  · refine cmp_opd c G σ H F z _ hK hx ok (hit_bind hh fun s z1 v H1 F1 _ sm1 ok1 e1 h1 => ?_)
    refine tCs_is vs σ H1 _ ⟨hl, fun t ht => ?_⟩
    have okT := ok1.new ht (.tup vs)
    have q := fin_hit okT h1
    cases er : rd z1 s with
    | none => rw [er] at q; exact q.elim
    | some x =>
      rw [er] at q
      have q' : Hit0 G.K F1 (upd H1 t (.tup vs)) (dIsX tb x) Q := q
      unfold dIsX at q'
      split at q'
      · rename_i cn
        cases et : tb cn with
        | none => rw [et] at q'; exact q'.elim
        | some b =>
          rw [et] at q'
          obtain ⟨a, C, rfl, a1, a2⟩ := Rv.exc okT.sub (EO.rv okT e1 er)
          obtain ⟨C', b1, b2, b3⟩ := htb _ _ et
          rw [hK, b1] at a2
          cases a2
          exact ⟨a, C, t, vs, us, b, rfl, a1, upd_same, b2, hu, b3, q' _ (.bl b)⟩
      · exact q'.elim
end
end G
/-! The law's own place in its script: a list of one number, told through all calls. -/
namespace G
open PySem L2
abbrev M0 : MI where
  T := Unit
  ok := fun _ _ _ ms _ => ms = []
  mono := fun _ _ _ h => h
abbrev M2 : MI where
  T := Int
  ok := fun _ _ H ms t => ∃ a, ms = [a] ∧ H a = some (.lst [.int t])
  mono := fun {K F F' H H' ms t} hF _ hm h => by
    obtain ⟨a, rfl, h1⟩ := h
    exact ⟨a, rfl, (hm a (by simp)).trans h1⟩
def eSpot (i : Nat) : Sm M2 S := fun z => match z.rho[i]? with
  | some (some (.m 0)) => .ok (.d (.int z.m)) z
  | _ => .bad
section
variable {ι : Type} {xr : Str → Option Value} {K : PySem.W.Frag} {X : ι → Cx} {W : WX} {N : List Str} {mg : Str → Option Value}
theorem de_spot (i : Nat) {x : Str} {j : Nat} {p1 p2 pos : Pos} (p : Pl K X N mg) (hN : ∀ j, (X j).N[i]? = some x := by intro _; rfl) (hv : ∀ j, Vis (X j).env.scope x := by first | exact fun _ => Or.inl rfl | exact fun _ => Or.inr (Or.inl rfl) | exact fun _ => Or.inr (Or.inr rfl)) (hd : (x == ("__debug__" : Str)) = false := by decide)
    (hcd : (x == ("__classdict__" : Str)) = false := by decide) : DE M2 xr K X W (.Subscript (.Name x p1) (.Constant (.int 0) j p2) pos) (eSpot i) := by
  refine ⟨tOp (rIxL K) (tVar i) (tC (.int 0)), fun q => by rw [← p.k q]; exact pe_ix ix_list (pe_var (hN q) (hv q) hd hcd) pe_int (fun _ _ => rfl), fun G σ H F z Q hK hx ok h => ?_⟩
  unfold eSpot at h
  split at h
  · rename_i hs
    obtain ⟨v, e, a, ha, rfl⟩ := ok.slot i _ hs
    obtain ⟨b, hb, hH⟩ := ok.mach
    rw [hb] at ha
    cases ha
    exact ⟨.ref a, e, a, [.int z.m], 0, .int z.m, rfl, rfl, SqL.of hH, rfl, h _ H F (Same.refl _) ok (.int _)⟩
  · exact h.elim
def sSpot (i : Nat) (f : Sm M2 S) : Sm M2 Out := fun z => (opd f z).bind fun s z1 => match rd z1 s, z1.rho[i]? with
  | some (.int n), some (some (.m 0)) => .ok .nx { z1 with m := n }
  | _, _ => .bad
theorem Ok.spot {G : Gx} {σ : St} {H F : Hp} {z : Z Int} (ok : Ok M2 G σ H F z) {a : Addr} (hm : G.ms = [a]) (n : Int) : Ok M2 G σ (upd H a (.lst [.int n])) F { z with m := n } where
  sub := same_updR ok.sub (ok.msF a (by rw [hm]; exact List.mem_cons_self))
  len := ok.len
  slot := fun i s e => by
    obtain ⟨v, h1, h2⟩ := ok.slot i s e
    refine ⟨v, h1, ?_⟩
    cases s with
    | d x => exact h2
    | l xs =>
      obtain ⟨b, vs, rfl, h3, h4, h5, h6, h7⟩ := h2
      have nb : b ≠ a := fun e => h7 (by rw [hm, e]; exact List.mem_cons_self)
      exact ⟨b, vs, rfl, by rw [upd_ne nb]; exact h3, h4, h5, h6, h7⟩
    | v _ => exact h2
    | m j => exact h2
  dist := ok.dist
  tg := fun b ps e => by
    have nb : b ≠ a := fun q => by rw [q, ok.msF a (by rw [hm]; exact List.mem_cons_self)] at e; cases e
    exact ⟨by rw [upd_ne nb]; exact (ok.tg b ps e).1, (ok.tg b ps e).2⟩
  mach := ⟨a, hm, upd_same⟩
  msF := ok.msF
  msP := ok.msP
  msH := fun b hb => by
    rw [hm] at hb
    cases List.mem_singleton.mp hb
    rw [upd_same]
    intro e
    cases e
  fr := fun b o q => by
    obtain ⟨h1, h2⟩ := ok.fr b o q
    have nb : b ≠ a := fun e => by
      rw [e, ok.msP a (by rw [hm]; exact List.mem_cons_self)] at q
      cases q
    exact ⟨by rw [upd_ne nb]; exact h1, h2⟩
theorem ds_spot (i : Nat) {x : Str} {j : Nat} {e : Expr} {f : Sm M2 S} {p1 p2 p3 pos : Pos} (p : Pl K X N mg) (h : DE M2 xr K X W e f) (hN : ∀ j, (X j).N[i]? = some x := by intro _; rfl) (hv : ∀ j, Vis (X j).env.scope x := by first | exact fun _ => Or.inl rfl | exact fun _ => Or.inr (Or.inl rfl) | exact fun _ => Or.inr (Or.inr rfl)) (hd : (x == ("__debug__" : Str)) = false := by decide)
    (hcd : (x == ("__classdict__" : Str)) = false := by decide)
    (hs : ∀ q, swapsWithSole [.Subscript (.Name x p1) (.Constant (.int 0) j p2) p3] e pos.line (X q).env = pure false := by intro _; rfl) (hw : ∀ q, swappedStores [.Subscript (.Name x p1) (.Constant (.int 0) j p2) p3] e (X q).env = pure none := by intro _; rfl)
    (h1 : ∀ q, (assignEach [.Subscript (.Name x p1) (.Constant (.int 0) j p2) p3] (X q).env).map (·.2) = [assign (.Subscript (.Name x p1) (.Constant (.int 0) j p2) p3) (X q).env] := by intro _; rfl) :
    DS M2 xr K X W (.Assign [.Subscript (.Name x p1) (.Constant (.int 0) j p2) p3] e pos) (sSpot i f) := by
  obtain ⟨t, pe, c⟩ := h
  refine ⟨tAsg t (gSub (tVar i) (tC (.int 0)) rSetL), fun q => ps_asg (pe q) (pg_sub (pe_var (hN q) (hv q) hd hcd) pe_int set_list) (hs q) (hw q) (h1 q), fun G σ H F z D hK hx ok hh => ?_⟩
  refine cmp_opd c G σ H F z _ hK hx ok (hits_bind hh fun s z1 v H1 F1 _ sm ok1 ev h2 => ?_)
  cases er : rd z1 s with
  | none => simp only [er] at h2; exact h2.elim
  | some d =>
    cases d with
    | int n =>
      have hv := (EO.rv ok1 ev er).int
      subst hv
      cases es : z1.rho[i]? with
      | none => simp only [er, es] at h2; exact h2.elim
      | some o =>
        cases o with
        | none => simp only [er, es] at h2; exact h2.elim
        | some s' =>
          match s', es, h2 with
          | .m 0, es, h2 =>
            simp only [er, es] at h2
            obtain ⟨v, e, a, ha, rfl⟩ := ok1.slot i _ es
            obtain ⟨b, hb, hH⟩ := ok1.mach
            rw [hb] at ha
            cases ha
            exact ⟨.ref a, e, a, [.int z1.m], 0, 0, rfl, rfl, hH, rfl, h2 σ _ F1 (Same.refl _) (ok1.spot hb n)⟩
          | .m (k + 1), es, h2 => simp only [er, es] at h2; exact h2.elim
          | .d _, es, h2 => simp only [er, es] at h2; exact h2.elim
          | .l _, es, h2 => simp only [er, es] at h2; exact h2.elim
          | .v _, es, h2 => simp only [er, es] at h2; exact h2.elim
    | _ => simp only [er] at h2; exact h2.elim
end
/-! ### the law: what comes ahead, the place made, the rest -/
def zS (n : Nat) (ns : List Int) : Z Unit := { rho := some (.d (.scr ns)) :: List.replicate n none, m := () }
theorem law_runS {K : PySem.W.Frag} {xr : Str → Option Value} {E : XK} {N : List Str} {i : Nat} {tp t : TS} {fp : Sm M0 Out} {f : Sm M2 Out} {vs : List V} {H : Hp} {Q : VK} (hN : 1 ≤ N.length)
    (hf : ∀ ns : List Int, ns.length ≤ 63 → (∀ z ∈ ns, Builtin.Int.intBits z ≤ 1048576) → ∃ z1 z', fp (zS (N.length - 1) ns) = .ok .nx z1 ∧ f ⟨z1.rho.set i (some (.m 0)), 0⟩ = .ok (.rt (.d (.bl true))) z')
    (cp : SR M0 K xr (fun cls d _ H => E cls d H) tp fp) (c : SR M2 K xr (fun cls d _ H => E cls d H) t f) (h : spLaw K vs H Q E) : tSeq tp (tSeq (tAsg (tLst (tCons (tC (.int 0)) tNil)) (gName i)) t) { nx := fun _ H' => Q .non H', rt := Q } (L2.start N vs) H := by
  obtain ⟨a, ns, rfl, hs, hl, hbits, hq⟩ := h
  obtain ⟨z1, z', e1, e2⟩ := hf ns hl hbits
  have st : L2.start N [.ref a] = some (.ref a) :: List.replicate (N.length - 1) none := rfl
  rw [st]
  let F : Hp := fun b => if b = a then H a else none
  have sF : Same F H := fun b o q => by
    have q' : (if b = a then H a else none) = some o := q
    by_cases e : b = a
    · rw [if_pos e] at q'; rw [e]; exact q'
    · rw [if_neg e] at q'; cases q'
  have hsF : SqL K F a (ns.map V.int) := by
    have Fa : ∀ o, H a = some o → F a = some o := fun o q => by
      show (if a = a then H a else none) = some o
      rw [if_pos rfl]
      exact q
    rcases hs with (q | ⟨o, q⟩) | q
    · exact .inl (.inl (Fa _ q))
    · exact .inl (.inr ⟨o, Fa _ q⟩)
    · exact .inr q
  have key : ∀ (k : Nat) (s : S), (zS (N.length - 1) ns).rho[k]? = some (some s) → k = 0 ∧ s = .d (.scr ns) := fun k s e => by
    have e' : (some (S.d (.scr ns)) :: List.replicate (N.length - 1) none)[k]? = some (some s) := e
    match k, e' with
    | 0, e' => cases e'; exact ⟨rfl, rfl⟩
    | k + 1, e' =>
      rw [List.getElem?_cons_succ, List.getElem?_replicate] at e'
      split at e' <;> cases e'
  refine cp ⟨K, xr, [], fun _ => none, F⟩ _ H F (zS (N.length - 1) ns) _ rfl rfl ⟨samX sF, by simp [zS], fun k s e => ?_, fun k j xs ys v q1 _ _ _ => ?_, rfl, (fun b hb => by cases hb), (fun b hb => by cases hb), (fun b hb => by cases hb), (fun b o q => by cases q), fun b ps e => ⟨(by rw [sF b _ e]; intro z; cases z), rfl⟩⟩ ?_
  · obtain ⟨rfl, rfl⟩ := key k s e
    exact ⟨_, rfl, Da.scr hsF⟩
  · obtain ⟨_, q⟩ := key k _ q1
    cases q
  · rw [e1]
    intro σ1 H1 F1 sm ok1
    refine ⟨by show 1 ≤ sizeLine; rw [sizeLine_eq]; decide, fun p hp => ?_⟩
    show t _ (σ1.set i (some (.ref p))) (upd H1 p (.lst [.int 0]))
    have hz : ∀ (k : Nat) (s : S), (z1.rho.set i (some (.m 0)))[k]? = some (some s) → (k = i ∧ s = .m 0) ∨ (k ≠ i ∧ z1.rho[k]? = some (some s)) := fun k s e => by
      by_cases hk : k = i
      · subst hk
        by_cases hlt : k < z1.rho.length
        · rw [List.getElem?_set_self hlt] at e
          cases e
          exact .inl ⟨rfl, rfl⟩
        · rw [List.getElem?_eq_none (by rw [List.length_set]; omega)] at e
          cases e
      · rw [List.getElem?_set_ne (Ne.symm hk)] at e
        exact .inr ⟨hk, e⟩
    refine c ⟨K, xr, [p], fun _ => none, F1⟩ _ _ F1 ⟨z1.rho.set i (some (.m 0)), 0⟩ _ rfl rfl ⟨same_updR ok1.sub (ok1.freshF hp), by simp [ok1.len], fun k s e => ?_, fun k j xs ys v q1 q2 q3 q4 => ?_, ⟨p, rfl, upd_same⟩, fun b hb => ?_, fun _ _ => rfl, fun b hb => ?_, fun b o q => (by cases q), fun b ps e => ⟨by rw [upd_ne (ne_of_none e (ok1.freshF hp))]; exact (ok1.tg b ps e).1, rfl⟩⟩ ?_
    · rcases hz k s e with ⟨rfl, rfl⟩ | ⟨hk, e'⟩
      · refine ⟨.ref p, List.getElem?_set_self ?_, p, rfl, rfl⟩
        have : k < (z1.rho.set k (some (S.m 0))).length := (List.getElem?_eq_some_iff.mp e).1
        rw [List.length_set, ok1.len] at this
        exact this
      · obtain ⟨v, h1, h2⟩ := ok1.slot k s e'
        refine ⟨v, by rw [List.getElem?_set_ne (Ne.symm hk)]; exact h1, ?_⟩
        cases s with
        | d x => exact h2
        | l xs =>
          obtain ⟨b, vs, rfl, h3, h4, h5, _, h7⟩ := h2
          have nb := ne_of_none h3 hp
          exact ⟨b, vs, rfl, by rw [upd_ne nb]; exact h3, h4, h5, rfl, fun q => nb (List.mem_singleton.mp q)⟩
        | v _ => exact h2
        | m j =>
          obtain ⟨b, hb, _⟩ := h2
          simp at hb
    · rcases hz k _ q1 with ⟨_, q⟩ | ⟨hk, q1'⟩
      · cases q
      · rcases hz j _ q2 with ⟨_, q⟩ | ⟨hj, q2'⟩
        · cases q
        · rw [List.getElem?_set_ne (Ne.symm hk)] at q3
          rw [List.getElem?_set_ne (Ne.symm hj)] at q4
          exact ok1.dist k j xs ys v q1' q2' q3 q4
    · cases List.mem_singleton.mp hb
      exact ok1.freshF hp
    · cases List.mem_singleton.mp hb
      rw [upd_same]
      intro e
      cases e
    · rw [e2]
      intro v H2 F2 s2 r
      have hv : v = .bl true := by
        have := r.val
        cases (show Da K F2 v (.bl true) from this)
        rfl
      rw [hv]
      exact hq H2
end G
/-! enumerate of lists and tuples. -/
namespace G
open PySem L2 PySem.Spec PyProof.Rows
theorem meets_enum1 {v : Value} {o : Obj} {H : Heap → Prop} (B : Begins v o H) :
    Meets (Builtin.«enumerate.__new__» ⟨[.type "enumerate", v], []⟩) (fun _ R s => H s.heap ∧
      R (.ok (.ret (.ref (s.heap.push o).objs.size))) { s with heap := (s.heap.push o).push { cls := .type "enumerate", data := .fields #[.none, .bool false, .ref s.heap.objs.size, rawInt 0, .none, .none] } }) :=
  .of_wp fun prog w A R s hh => by
    obtain ⟨hp, gs, dr, tk, os⟩ := s
    obtain ⟨h1, hr⟩ := hh
    have hsub := sub_enumerate
    have itr : ∀ {A' : Around} {E : Value → Shared → Prop} {Q : Value → Shared → Prop}, Q (.ref hp.objs.size) ⟨hp.push o, gs, dr, tk, os⟩ → wpAny (model prog w) A' (pyIter v) Q E ⟨hp, gs, dr, tk, os⟩ :=
      fun q => B.iter prog w _ _ ⟨hp, gs, dr, tk, os⟩ _ h1 q
    wp_walk using itr
    refine wpAny_stack_any fun st => wpAny_pure ?_
    split
    · rename_i c _ _ _ _ _
      cases (c == Value.type "enumerate")
      · wp_walk using itr
        exact ⟨_, rfl, hr⟩
      · wp_walk using itr
        exact ⟨_, rfl, hr⟩
    · wp_walk using itr
      exact ⟨_, rfl, hr⟩
theorem enum1_begins {prog : Program} {w : World} {A : Around} {E : Value → Shared → Prop} {s : Shared} {v : Value} {o : Obj} {H : Heap → Prop} {Q : Value → Shared → Prop} (B : Begins v o H) (h1 : H s.heap)
    (hq : ∀ h', IsEnum h' (s.heap.objs.size + 1) s.heap.objs.size 0 .none → h'.get? s.heap.objs.size = some o → h'.objs.size = s.heap.objs.size + 2 → (∀ b u, s.heap.get? b = some u → h'.get? b = some u) → Q (.ref (s.heap.objs.size + 1)) { s with heap := h' }) :
    wpAny (model prog w) A (call (.type "enumerate") [v]) Q E s := by
  refine callType_new F.called_enumerate (by decide) (F.typeCall_enumerate_1 _) (F.newCall_enumerate_1 _) (fun obj => F.args_object_init_2 obj _) F.entry_enumerate_new (meets_enum1 B) ⟨h1, ?_⟩
  have z1 : (s.heap.push o).objs.size = s.heap.objs.size + 1 := Heap.size_push ..
  show _ ∧ _
  rw [z1]
  have ie : IsEnum ((s.heap.push o).push { cls := .type "enumerate", data := .fields #[.none, .bool false, .ref s.heap.objs.size, rawInt 0, .none, .none] }) (s.heap.objs.size + 1) s.heap.objs.size 0 .none := by
    have q := Heap.get?_push_size (s.heap.push o) (o := { cls := .type "enumerate", data := .fields #[.none, .bool false, .ref s.heap.objs.size, rawInt 0, .none, .none] }) rfl
    rw [z1] at q
    exact q
  exact ⟨⟨_, ie, rfl⟩, hq _ ie (Heap.get?_push_of_some _ (Heap.get?_push_size _ B.free)) (by rw [Heap.size_push, z1]) fun b u x => Heap.get?_push_of_some _ (Heap.get?_push_of_some _ x)⟩
/-- a tuple's items, each in a new pair with its number -/
def IteT (K : PySem.W.Frag) (a : Addr) : It :=
  ⟨fun i H => ∃ (ys : List V) (y : V), SqT K H a ys ∧ ys[i]? = some y, fun i H v H' => ∃ T y, v = .ref T ∧ H T = none ∧ H' = upd H T (.tup [.int (i : Nat), y]) ∧ ∀ ys, SqT K H a ys → ys[i]? = some y, fun i H => ∃ ys : List V, SqT K H a ys ∧ ys.length = i⟩
theorem turn_enumT {P : Program} {w : World} {K : PySem.W.Frag} {elts : List Expr} {kk : Nat} {tpos : Pos} (a e it : Addr) :
    Turn P w K (.Tuple elts kk tpos) (IteT K a) [e, it] e (fun i h => (∃ old, IsEnum h e it ((i : Nat) : Int) old) ∧ h.IsTupleIter it a i ∧ e ≠ it) where
  mem := by simp
  obj := fun i h st b hb => by
    obtain ⟨⟨old, he⟩, ⟨o, ho, hc, hd⟩, _⟩ := st
    rcases (show b = e ∨ b = it by simpa using hb) with z | z
    · rw [z]; exact ⟨_, he, fun v q => nomatch q⟩
    · rw [z]; exact ⟨o, ho, fun v q => by rw [hd] at q; cases q⟩
  keep := fun i h h' st k => by
    obtain ⟨⟨old, he⟩, hi, hne⟩ := st
    exact ⟨⟨old, k e (by simp) _ he⟩, hi.at fun o q => k it (by simp) o q, hne⟩
  item := by
    intro X hP hw hK hc i pins s σ H E I hf st hg
    subst hP hw hK
    obtain ⟨⟨old, he⟩, hit, hne⟩ := st
    obtain ⟨ys, y, hq, hy⟩ := hg
    obtain ⟨its, rv, tp, hz⟩ := I.tuple hq
    have hil : i < its.toArray.size := by
      have := (List.getElem?_eq_some_iff.mp hy).1
      rw [List.size_toArray, ← rv.length]
      exact this
    have lte : e < s.heap.objs.size := Heap.lt_size he
    have lti : it < s.heap.objs.size := by obtain ⟨_, q, _⟩ := hit; exact Heap.lt_size q
    have ane : a ≠ e := fun z => by
      obtain ⟨o, g1, g2, _⟩ := tp
      rw [z, he] at g1
      cases g1
      exact absurd g2 (by simp)
    have ani : a ≠ it := fun z => by
      obtain ⟨o, g1, g2, _⟩ := tp
      obtain ⟨o', g3, g4, _⟩ := hit
      rw [z, g3] at g1
      cases g1
      rw [g4] at g2
      exact absurd g2 (by simp)
    refine wpAny_pyNext_enum_itemD (Draws.tuple (A := X.A.in1) (show X.A.handled = none from I.ok.hd hc) it a ani its.toArray) he ⟨hit, tp⟩ hil hne (by simp [hne, Ne.symm ane]) fun x h' tk hx ho hst hT hsz hk => ?_
    refine ⟨_, rfl, wpAny_letOwnedTupleGo_enum (s := { s with heap := h', toks := tk + 1 }) ho fun h2 he' sb => ?_⟩
    have hT2 : h2.get? s.heap.objs.size = some { cls := .type "tuple", data := .seq #[.int i tk, x] } := (sb.2 _ (Nat.ne_of_gt lte)).trans hT
    obtain ⟨u, hu, ru⟩ := rv.get hy
    have eu : x = u := by
      have hx' : its.toArray[i]? = some x := hx
      have : its.toArray[i]? = some u := by simpa using hu
      rw [hx'] at this
      exact Option.some.inj this
    subst eu
    have new : ObjOk X.prog X.w (upd H s.heap.objs.size (.tup [.int (i : Nat), y])) h2 s.heap.objs.size (.tup [.int (i : Nat), y]) :=
      ⟨by show 2 ≤ sizeLine; rw [sizeLine_eq]; decide, [.int i tk, x], .cons ⟨_, rfl⟩ (.cons ru .nil), ⟨_, hT2, rfl, _, rfl⟩⟩
    have I1 : Inv X pins σ (upd H s.heap.objs.size (.tup [.int (i : Nat), y])) { s with heap := h2, toks := tk + 1 } :=
      I.turnedNew (ch := [e, it]) (fun b ob hb q => (sb.2 b (fun z => hb (by simp [z]))).trans (hk b ob (fun z => hb (by simp [z])) (fun z => hb (by simp [z])) q)) hf (Nat.le_refl _) new
    refine ⟨.ref s.heap.objs.size, _, I1, rfl, ⟨_, y, rfl, I.hok.fresh (Nat.le_refl _), rfl, fun zs hy2 => by rw [I.tuple_inj hy2 hq]; exact hy⟩, ⟨⟨x, ?_⟩, hst.1.at fun o q => (sb.2 it (Ne.symm hne)).trans q, hne⟩, fun b hb => ?_⟩
    · have e1 : ((i + 1 : Nat) : Int) = (i : Int) + 1 := by omega
      rw [e1]
      exact he'
    · have lb : b < s.heap.objs.size := by
        rcases (show b = e ∨ b = it by simpa using hb) with z | z
        · rw [z]; exact lte
        · rw [z]; exact lti
      rw [upd_ne (Nat.ne_of_lt lb)]
      exact (hf b hb).1
  done := by
    intro X hP hw hK hc i pins s σ H E I hf st hg
    subst hP hw hK
    obtain ⟨⟨old, he⟩, hit, hne⟩ := st
    obtain ⟨ys, hq, hy⟩ := hg
    obtain ⟨its, rv, tp, hz⟩ := I.tuple hq
    obtain ⟨f0, f1, f2, f3, f4, f5⟩ := hf it (by simp)
    have ani : a ≠ it := fun z => by
      obtain ⟨o, g1, g2, _⟩ := tp
      obtain ⟨o', g3, g4, _⟩ := hit
      rw [z, g3] at g1
      cases g1
      rw [g4] at g2
      exact absurd g2 (by simp)
    have en : its.toArray.size = i := by rw [List.size_toArray, ← rv.length]; exact hy
    refine wpAny_pyNext_enum_endD (Draws.tuple (A := X.A.in1) (show X.A.handled = none from I.ok.hd hc) it a ani its.toArray) he (by rw [en]; exact ⟨hit, tp⟩) fun h' eb => ⟨rfl, I.turned (t' := s.toks) (fun b o hb q => eb b o hb q) f0 f1 f3 f4 f5⟩
  self := fun A i s Q E st h => by
    obtain ⟨⟨_, he⟩, _⟩ := st
    exact wpAny_pyIter_enum he h
def iEnumA (K : PySem.W.Frag) (te : TE) : TI := fun σ H R => te σ H fun v H1 => (∃ a ys, v = .ref a ∧ SqL K H1 a ys ∧ R (Ite K a) H1) ∨ (∃ a ys, v = .ref a ∧ SqT K H1 a ys ∧ R (IteT K a) H1)
theorem pi_enumA {X : Cx} {e : Expr} {te : TE} {p pos tpos : Pos} {elts : List Expr} {kk : Nat} (hg : Gl X "enumerate") (hm : X.mg "enumerate" = none) (he : PE X e te) (hs : starEach [e] X.env = (false, eval e X.env) :: starEach [] X.env := by rfl) :
    PI X (.Tuple elts kk tpos) (.Call (.Name "enumerate" p) [e] [] pos) (iEnumA X.K te) := by
  refine ⟨fun pins s σ H R I h => ?_⟩
  refine Call_ (ld_blt I hg hm boot_enumerate (PyProof.Rows.callWith_type1 (args_cons (thn (he.run pins s σ H _ I h) fun u s1 ⟨v, H1, I1, r1, q1⟩ => args_nil ?_) hs) hs))
  have new : ∀ b, (b = s1.heap.objs.size + 1 ∨ b = s1.heap.objs.size) → FpOk X pins H1 b := fun b e' => by
    have hle : s1.heap.objs.size ≤ b := by
      rcases e' with z | z
      · rw [z]; exact Nat.le_add_right _ _
      · rw [z]; exact Nat.le_refl _
    exact I1.fpOk hle (I1.hok.fresh hle)
  rcases q1 with ⟨a, ys, rfl, hq, q⟩ | ⟨a, ys, rfl, hq, q⟩
  · cases (show u = Value.ref a from r1)
    obtain ⟨its, rv, pl, hz⟩ := I1.list hq
    refine call_enumerate_list pl.isList fun h' ie hit hsz hk => wpAny_pyIter_enum ie ?_
    have I2 : Inv X pins σ H1 { s1 with heap := h' } := I1.kept (t' := s1.toks) hk
    exact ⟨s1.heap.objs.size + 1, [s1.heap.objs.size + 1, s1.heap.objs.size], _, _, H1, rfl, I2, turn_enum a (s1.heap.objs.size + 1) s1.heap.objs.size, ⟨⟨.none, ie⟩, hit, Nat.succ_ne_self _⟩, fun b hb => new b (by simpa using hb), q⟩
  · cases (show u = Value.ref a from r1)
    obtain ⟨its, rv, tp, hz⟩ := I1.tuple hq
    refine enum1_begins (begins_tuple a its.toArray) tp fun h' ie hit hsz hk => wpAny_pyIter_enum ie ?_
    have I2 : Inv X pins σ H1 { s1 with heap := h' } := I1.kept (t' := s1.toks) hk
    exact ⟨s1.heap.objs.size + 1, [s1.heap.objs.size + 1, s1.heap.objs.size], _, _, H1, rfl, I2, turn_enumT a (s1.heap.objs.size + 1) s1.heap.objs.size, ⟨⟨.none, ie⟩, ⟨_, hit, rfl, rfl⟩, Nat.succ_ne_self _⟩, fun b hb => new b (by simpa using hb), q⟩
/-! the rule -/
section
variable {ι : Type} {M : MI} {xr : Str → Option Value} {K : PySem.W.Frag} {X : ι → Cx} {W : WX} {N : List Str} {mg : Str → Option Value} {pos : Pos}
def enumD (ds : List D) : List D := (List.range ds.length).map fun (i : Nat) => D.tup [.int (i : Int), ds.getD i .non]
def iEnM (f : Sm M S) : Sm M (List D) := fun z => (escf f z).bind fun s z1 => match s with
  | .d (.lst ds) => .ok (enumD ds) z1
  | .d (.tup ds) => .ok (enumD ds) z1
  | _ => .bad
theorem enumD_len (ds : List D) : (enumD ds).length = ds.length := by unfold enumD; simp
theorem enumD_at {ds : List D} {i : Nat} {d : D} (h : ds[i]? = some d) : (enumD ds)[i]? = some (.tup [.int (i : Int), d]) := by
  have hi : i < ds.length := (List.getElem?_eq_some_iff.mp h).1
  unfold enumD
  rw [List.getElem?_map, List.getElem?_range hi, Option.map_some, List.getD_eq_getElem?_getD, h]
  rfl
theorem yd_pair {F H H' : Hp} {vs : List V} {ds : List D} {i : Nat} {v y : V} {T : Addr} (r : DaAll K F vs ds) (hi : vs[i]? = some y) (e1 : v = .ref T) (e2 : H T = none) (e3 : H' = upd H T (.tup [.int (i : Nat), y])) : YD K F (enumD ds) i H v H' := by
  subst e1 e3
  obtain ⟨d, hd, da⟩ := r.getV hi
  refine ⟨_, enumD_at hd, fun F1 s1 s2 st => ⟨upd F1 T (.tup [.int (i : Nat), y]), same_upd (freeX s2 st e2), same_upd2 s2, fun b o e => ?_, fun a ps e => (tgk_newF (o := .tup [.int (i : Nat), y]) (H := H) (u := .tup []) (freeX s2 st e2) tupNT a ps e).1, .tup (SqT.of upd_same) (.cons (.int _) (.cons ((da.mono s1).mono (same_upd (freeX s2 st e2))) .nil))⟩⟩
  have nb := ne_of_none e e2
  exact ⟨by rw [upd_ne nb]; exact e, upd_ne nb⟩
theorem walk_enumT {a : Addr} {ys : List V} : Walk (IteT K a) ys.length (fun H => SqT K H a ys) (YPair (fun i => some (.int (i : Nat))) (fun i => ys[i]?)) := by
  refine ⟨fun i _ hi q => ⟨ys, ys[i], q, by simp [hi]⟩, fun _ q => ⟨ys, q, rfl⟩, fun i H v H' _ q y => ?_⟩
  obtain ⟨T, x, h1, h2, h3, h4⟩ := y
  exact ⟨T, .int (i : Nat), x, h1, h2, h3, rfl, h4 ys q⟩
theorem di_enum {elts : List Expr} {kk : Nat} {tpos pp : Pos} {e : Expr} {g : Sm M S} (p : Pl K X N mg) (hm : mg "enumerate" = none) (h : DE M xr K X W e g) (hg : ∀ j, Gl (X j) "enumerate" := by intro _; rfl) (hs : ∀ j, starEach [e] (X j).env = (false, eval e (X j).env) :: starEach [] (X j).env := by intro _; rfl) :
    DI M xr K X W (.Tuple elts kk tpos) (.Call (.Name "enumerate" pp) [e] [] pos) (iEnM g) := by
  obtain ⟨t, pe, c⟩ := h
  refine ⟨iEnumA K t, fun j => by rw [← p.k j]; exact pi_enumA (hg j) (by rw [p.g j]; exact hm) (pe j) (hs j), fun G σ H F z Q hK hx ok hh => ?_⟩
  refine cmp_esc c G σ H F z _ hK hx ok (hit_bind hh fun s z1 v H1 F1 _ sm ok1 ev h1 => ?_)
  subst hK
  clear hh
  match s, ev, h1 with
  | .d (.lst ds), ev, h1 =>
    have ev' : Da G.K F1 v (.lst ds) := ev
    clear ev
    cases ev' with
    | lst q r =>
      rename_i a vs
      refine .inl ⟨a, vs, rfl, SqL.of (ok1.sub.lst q), h1 _ H1 F1 (Same.refl _) ok1 ?_⟩
      have wk := (walk_enum (K := G.K) (a := a) (xs := vs)).mono (G' := fun H => SameX F1 H) (Y' := YD G.K F1 (enumD ds)) (fun H s => SqL.of (s.lst q)) (fun i H x H' hi _ ⟨T, x1, y1, e1, e2, e3, e4, e5⟩ => by
        cases e4
        exact yd_pair r e5 e1 e2 e3)
      rw [r.length, ← enumD_len ds] at wk
      exact wk
  | .d (.tup ds), ev, h1 =>
    have ev' : Da G.K F1 v (.tup ds) := ev
    clear ev
    cases ev' with
    | tup q r =>
      rename_i a vs
      refine .inr ⟨a, vs, rfl, ok1.sub.tup q, h1 _ H1 F1 (Same.refl _) ok1 ?_⟩
      have wk := (walk_enumT (K := G.K) (a := a) (ys := vs)).mono (G' := fun H => SameX F1 H) (Y' := YD G.K F1 (enumD ds)) (fun H s => s.tup q) (fun i H x H' hi _ ⟨T, x1, y1, e1, e2, e3, e4, e5⟩ => by
        cases e4
        exact yd_pair r e5 e1 e2 e3)
      rw [r.length, ← enumD_len ds] at wk
      exact wk
  | .d .non, _, h1 => exact h1.elim
  | .d (.bl _), _, h1 => exact h1.elim
  | .d (.int _), _, h1 => exact h1.elim
  | .d (.str _), _, h1 => exact h1.elim
  | .d (.scr _), _, h1 => exact h1.elim
  | .d .emp, _, h1 => exact h1.elim
  | .d (.exc _ _), _, h1 => exact h1.elim
  | .d (.o _), _, h1 => exact h1.elim
  | .l _, _, h1 => exact h1.elim
  | .v _, _, h1 => exact h1.elim
  | .m _, _, h1 => exact h1.elim
end
end G
/-! t[::-1] -/
namespace G
open PySem L2 PySem.Spec PyProof.Rows HT
section
variable {prog : Program} {w : World} {A : Around} {E : Value → Shared → Prop} {s : Shared}
theorem places_rev (n : Nat) : Builtin.Slice.slicePlaces ((n : Int) - 1) (-1) (-1) = n := by
  unfold Builtin.Slice.slicePlaces
  have h1 : ¬ ((-1 : Int) > 0) := by decide
  simp only [h1, if_false]
  split
  · have e : (- (-1 : Int)) = 1 := by decide
    rw [e, Int.ediv_one]
    omega
  · omega
theorem applied_rev {sl : Addr} {vs : Value} {n : Nat} {Q : Int × Int × Nat → Shared → Prop} (hs : s.heap.IsSliceOf sl .none .none vs) (ps : IsPart vs (some (-1))) (h : Q ((n : Int) - 1, -1, n) s) :
    wpAny (model prog w) A (Builtin.Slice.sliceApplied (.ref sl) (pure (n : Int))) Q E s := by
  obtain ⟨ob, hob, hcb, hdb⟩ := id hs
  unfold Builtin.Slice.sliceApplied Builtin.Slice.sliceFields
  refine wpAny_bind (wpAny_bind (wpAny_field hob hdb (x := .none) rfl (wpAny_bind (wpAny_field hob hdb (x := .none) rfl (wpAny_bind (wpAny_field hob hdb (x := vs) rfl (wpAny_pure ?_)))))))
  refine wpAny_bind (slicePart_ ps ?_)
  show wpAny _ _ (if ((-1 : Int) == 0) = true then _ else _) _ _ s
  rw [if_neg (by decide)]
  refine wpAny_bind (slicePart_none (wpAny_bind (slicePart_none (wpAny_bind (wpAny_pure ?_)))))
  show wpAny _ _ (pure ((n : Int) - 1, (-1 : Int), Builtin.Slice.slicePlaces ((n : Int) - 1) (-1) (-1))) _ _ s
  rw [places_rev]
  exact wpAny_pure h
theorem fm_congr {α β : Type} {f g : α → Option β} : ∀ {l : List α}, (∀ x ∈ l, f x = g x) → l.filterMap f = l.filterMap g
  | [], _ => rfl
  | x :: r, h => by
    rw [List.filterMap_cons, List.filterMap_cons, h x List.mem_cons_self, fm_congr fun y hy => h y (List.mem_cons_of_mem _ hy)]
theorem pick_rev (xs : Array Value) : ((List.range xs.size).filterMap fun (m : Nat) => xs[((xs.size : Int) - 1 + (m : Int) * (-1)).toNat]?).toArray = xs.toList.reverse.toArray := by
  have e : (List.range xs.size).filterMap (fun (m : Nat) => xs[((xs.size : Int) - 1 + (m : Int) * (-1)).toNat]?) = (List.range xs.size).filterMap fun m => xs[xs.size - 1 - m]? := by
    refine fm_congr fun m hm => ?_
    have : m < xs.size := List.mem_range.mp hm
    have e : ((xs.size : Int) - 1 + (m : Int) * (-1)).toNat = xs.size - 1 - m := by omega
    rw [e]
  have e2 : (List.range xs.size).filterMap (fun m => xs[xs.size - 1 - m]?) = ((List.range xs.size).map fun k => xs.size - 1 - k).filterMap (xs[·]?) := by rw [List.filterMap_map]; rfl
  rw [e, e2, PySem.W.krv_range, List.filterMap_reverse, PySem.W.krv_all]
theorem getItem_rev {t sl : Addr} {items : Array Value} {vs : Value} {Q : Value → Shared → Prop} (ht : IsTup s.heap t items) (hs : s.heap.IsSliceOf sl .none .none vs) (ps : IsPart vs (some (-1)))
    (h : Q (.ref s.heap.objs.size) { s with heap := s.heap.push { cls := .type "tuple", data := .seq items.toList.reverse.toArray } }) (hsz : items.size ≤ sizeLine) : wpAny (model prog w) A (getItem (.ref t) (.ref sl)) Q E s := by
  have fits : sizeOk (.seq items.toList.reverse.toArray) := by
    show items.toList.reverse.toArray.size ≤ sizeLine
    rw [List.size_toArray, List.length_reverse, Array.length_toList]
    exact hsz
  obtain ⟨ob, hob, hcb, hdb⟩ := id hs
  have tyS : s.TypeIs (.ref sl) "slice" := ⟨ob, hob, hcb⟩
  unfold getItem
  try with_reducible refine wpAny_holding ?_
  first | refine wpAny_bind (wpAny_pure ?_) | skip
  refine wpAny_bind (wpAny_sequenceKey ht.typeIs (by decide) ?_)
  refine wpAny_bind (wpAny_callSpecial?_slot (name := Str.ofString "__getitem__") ht.typeIs PyProof.Rows.slot_tuple_getitem (wpAny_call_entry PyProof.Rows.slot_tuple_getitem ht.typeIs entry_tuple_getitem ?_ (args_tuple_getitem _ _)))
  show wpAny _ _ (Builtin.Tuple.tupleItemsOf (.ref t) >>= _) _ _ s
  refine wpAny_bind (tupleItemsOf_ ht ?_)
  refine wpAny_bind (wpAny_typeOf tyS ?_)
  rw [if_pos (by decide)]
  refine wpAny_bind (applied_rev hs ps ?_)
  have no : ¬ ((((items.size : Int) - 1) == 0 && (-1 : Int) == 1 && items.size == items.size) = true) := by simp
  show wpAny _ _ (if (((items.size : Int) - 1) == 0 && (-1 : Int) == 1 && items.size == items.size) = true then _ else _) _ _ s
  rw [if_neg no, pick_rev]
  first
    | exact wpAny_bind (m := Builtin.Tuple.tupleExact _) (wpAny_newObj_type (wpAny_pure ⟨_, rfl, wpAny_pure h⟩) fits)
    | exact wpAny_bind (m := Builtin.Tuple.tupleExact _) (wpAny_newObj_type (wpAny_bind (wpAny_pure (wpAny_pure ⟨_, rfl, wpAny_pure h⟩))) fits)
    | exact wpAny_bind (wpAny_bind (m := Builtin.Tuple.tupleExact _) (wpAny_newObj_type (wpAny_pure (wpAny_pure ⟨_, rfl, wpAny_pure h⟩)) fits))
    | exact wpAny_bind (wpAny_bind (m := Builtin.Tuple.tupleExact _) (wpAny_newObj_type (wpAny_pure ⟨_, rfl, wpAny_pure h⟩) fits))
end
def tRevA (K : PySem.W.Frag) (te : TE) : TE := fun σ H Q => te σ H fun x H1 => (∃ a ys, x = .ref a ∧ SqL K H1 a ys ∧ ∀ q, H1 q = none → Q (.ref q) (upd H1 q (.lst ys.reverse))) ∨ (∃ a ys, x = .ref a ∧ SqT K H1 a ys ∧ ∀ q, H1 q = none → Q (.ref q) (upd H1 q (.tup ys.reverse)))
theorem pe_revA {X : Cx} {e : Expr} {te : TE} {k : Nat} {p1 p2 p3 pos : Pos} (he : PE X e te) : PE X (.Subscript e (.Slice none none (some (.UnaryOp .USub (.Constant (.int 1) k p1) p2)) p3) pos) (tRevA X.K te) := by
  refine ⟨fun pins s σ H Q I h => ?_⟩
  refine Subscript_ (thn (he.run pins s σ H _ I h) fun v s1 ⟨x, H1, I1, r1, q1⟩ => ?_)
  have hst : PO X (some (.UnaryOp .USub (.Constant (.int 1) k p1) p2)) (tPart (tUn (rU fun i => .int (-i)) (tC (.int 1)))) := po_some (pe_un un_neg pe_int)
  refine wpAny_Slice (thn (po_none.run pins s1 σ H1 (fun o H2 => o = none ∧ H2 = H1) I1 ⟨rfl, rfl⟩) fun vl s2 ⟨l, H2, I2, pl, el, e2⟩ => ?_)
  subst el e2
  refine thn (po_none.run pins s2 σ H2 (fun o H3 => o = none ∧ H3 = H2) I2 ⟨rfl, rfl⟩) fun vu s3 ⟨u, H3, I3, pu, eu, e3⟩ => ?_
  subst eu e3
  refine thn (hst.run pins s3 σ H3 (fun o H4 => o = some (-1) ∧ H4 = H3) I3 ⟨1, rfl, -1, rfl, rfl, rfl⟩) fun vs s4 ⟨o, H4, I4, ps, eo, e4⟩ => ?_
  subst eo e4
  have I5 : Inv X pins σ H4 { s4 with heap := s4.heap.push { cls := .type "slice", data := .fields #[vl, vu, vs] } } := I4.kept (t' := s4.toks) fun b ob q => Heap.get?_push_of_some _ q
  rcases q1 with ⟨a, ys, ex, hx, q⟩ | ⟨a, ys, ex, hx, q⟩
  · subst ex
    cases r1
    obtain ⟨its, r, ht, hz⟩ := I5.list hx
    have hlen := r.length
    show wpAny (model X.prog X.w) X.A (subscriptTail e (.Slice none none (some (.UnaryOp .USub (.Constant (.int 1) k p1) p2)) p3) (.ref a) (.ref s4.heap.objs.size)) (EP X pins σ Q) X.xe _
    refine tail_any (ops := [.ref a, .ref s4.heap.objs.size]) ht.isList.typeIs (PySem.slot_list_getitem.lookup) ?_ (by with_unfolding_all rfl)
    refine wpAny_getItem_list_slice ht.isList (Heap.IsSliceOf.new _ vl vu vs) pl pu ps (by decide) ?_ (by rw [List.size_toArray]; omega)
    rw [PySem.W.krv_pick]
    exact ⟨.ref _, _, I5.laid (t' := s4.toks) (o := .lst ys.reverse) (fun b ob q => Heap.get?_push_of_some _ q) (Nat.le_refl _) ⟨by rw [List.length_reverse]; exact hz, _, 0, r.reverse, Heap.get?_push_size _ rfl⟩, rfl, q _ (I5.hok.fresh (Nat.le_refl _))⟩
  · subst ex
    cases r1
    obtain ⟨its, r, ht, hz⟩ := I5.tuple hx
    have hlen := r.length
    cases pl
    cases pu
    show wpAny (model X.prog X.w) X.A (subscriptTail e (.Slice none none (some (.UnaryOp .USub (.Constant (.int 1) k p1) p2)) p3) (.ref a) (.ref s4.heap.objs.size)) (EP X pins σ Q) X.xe _
    refine tail_any (ops := [.ref a, .ref s4.heap.objs.size]) ht.typeIs (PyProof.Rows.slot_tuple_getitem.lookup) ?_ (by with_unfolding_all rfl)
    refine getItem_rev ht (Heap.IsSliceOf.new _ .none .none vs) ps ?_ (by rw [List.size_toArray]; omega)
    exact ⟨.ref _, _, I5.laid (t' := s4.toks) (o := .tup ys.reverse) (fun b ob q => Heap.get?_push_of_some _ q) (Nat.le_refl _) ⟨by rw [List.length_reverse]; exact hz, _, r.reverse, IsTup.new _ _⟩, rfl, q _ (I5.hok.fresh (Nat.le_refl _))⟩
def dRev : D → Option R := fun d => match d with
  | .tup xs => some (.t xs.reverse)
  | .lst xs => some (.l xs.reverse)
  | _ => none
section
variable {ι : Type} {M : MI} {xr : Str → Option Value} {K : PySem.W.Frag} {X : ι → Cx} {W : WX} {N : List Str} {mg : Str → Option Value} {pos : Pos}
theorem de_rev {e : Expr} {g : Sm M S} {k : Nat} {p1 p2 p3 pos : Pos} (p : Pl K X N mg) (h : DE M xr K X W e g) : DE M xr K X W (.Subscript e (.Slice none none (some (.UnaryOp .USub (.Constant (.int 1) k p1) p2)) p3) pos) (eUn dRev g) := by
  obtain ⟨t, pe, c⟩ := h
  refine ⟨tRevA K t, fun j => by rw [← p.k j]; exact pe_revA (pe j), fun G σ H F z Q hK hx ok hh => ?_⟩
  refine cmp_opd c G σ H F z _ hK hx ok (hit_bind hh fun s z1 v H1 F1 _ sm1 ok1 e1 h1 => ?_)
  have q := fin_hit ok1 h1
  cases er : rd z1 s with
  | none => rw [er] at q; exact q.elim
  | some x =>
    rw [er] at q
    have q' : Hit0 G.K F1 H1 (dRev x) Q := q
    have rv := EO.rv ok1 e1 er
    subst hK
    unfold dRev at q'
    split at q'
    · obtain ⟨a, vs, rfl, a1, a2⟩ := rv.tup ok1.sub
      exact .inr ⟨a, vs, rfl, a1, fun p hp => q'.2 p _ hp a2.reverse⟩
    · obtain ⟨a, vs, rfl, a1, a2⟩ := rv.lst ok1.sub
      exact .inl ⟨a, vs, rfl, SqL.of a1, fun p hp => q' p _ hp a2.reverse⟩
    · exact q'.elim
end
end G
namespace G
open PySem L2
def dBand := dI (fun _ _ => true) fun i j => .int (Builtin.bitAnd i j)
section
variable {ι : Type} {M : MI} {xr : Str → Option Value} {K : PySem.W.Frag} {X : ι → Cx} {W : WX} {a b : Expr} {f f' : Sm M S} {pos : Pos}
theorem de_band (ha : DE M xr K X W a f) (hb : DE M xr K X W b f') : DE M xr K X W (.BinOp a .BitAnd b pos) (eBin dBand f f') := de_bin (fun j => op_and) (op2_I0 fun _ _ _ => .int _) ha hb
end
/-- a table of one class -/
def tb1 (c : Str) (b : Bool) : Str → Option Bool := fun s => if s = c then some b else none
theorem tb1_ok {c : Str} {b : Bool} {P : Str → Bool → Prop} (h : P c b) : ∀ s b', tb1 c b s = some b' → P s b' := fun s b' e => by
  unfold tb1 at e
  split at e
  · rename_i hs
    cases e
    subst hs
    exact h
  · cases e
theorem vals_refs : ∀ {as : List Addr} {ws : List Value}, Vals (as.map V.ref) ws → ws = as.map Value.ref
  | [], _, .nil => rfl
  | a :: r, _, .cons h t => by
    cases (show _ = Value.ref a from h)
    rw [vals_refs t]
    rfl
end G
namespace G
open PySem L2
theorem kit_own {K : PySem.W.Frag} {C E : Addr} {b : Bool} (hd : PySem.W.hasDictIn K E = true) (ty : PySem.W.typeIn K (.ref E) = some (.type "type")) (s : PySem.W.subIn K (.ref C) (.ref E) = some b) (ne : (Value.ref C == Value.ref E) = false) : PySem.W.kitOne K (.ref C) (.ref E) = some b := by
  obtain ⟨cd, hc, _⟩ := PySem.W.any_some hd
  unfold PySem.W.kitOne
  rw [ne, if_neg Bool.false_ne_true]
  show (if ((PySem.W.clsIn K E).isSome && PySem.W.typeIn K (.ref E) == some (.type "type")) = true then PySem.W.subIn K (.ref C) (.ref E) else none) = some b
  rw [if_pos (by rw [hc, ty]; rfl)]
  exact s
theorem kit_self {K : PySem.W.Frag} {C : Addr} : PySem.W.kitOne K (.ref C) (.ref C) = some true := by
  unfold PySem.W.kitOne
  rw [if_pos (beq_self_eq_true _)]
theorem kit_blt {K : PySem.W.Frag} {C : Addr} {T : String} {b : Bool} (m : PySem.W.kitMeta T = true) (s : PySem.W.subIn K (.ref C) (.type T) = some b) : PySem.W.kitOne K (.ref C) (.type T) = some b := by
  unfold PySem.W.kitOne
  have ne : (Value.ref C == Value.type T) = false := rfl
  rw [ne, if_neg Bool.false_ne_true]
  show (if PySem.W.kitMeta T = true then PySem.W.subIn K (.ref C) (.type T) else none) = some b
  rw [if_pos m]
  exact s
theorem any_nil {K : PySem.W.Frag} {t : Value} : PySem.W.kitAny K t [] = some false := rfl
theorem any_no {K : PySem.W.Frag} {t c : Value} {cs : List Value} {r : Bool} (h : PySem.W.kitOne K t c = some false) (hr : PySem.W.kitAny K t cs = some r) : PySem.W.kitAny K t (c :: cs) = some r := kitAny_cons h (fun _ => hr) (fun z => by cases z)
theorem any_yes {K : PySem.W.Frag} {t c : Value} {cs : List Value} (h : PySem.W.kitOne K t c = some true) : PySem.W.kitAny K t (c :: cs) = some true := kitAny_cons h (fun z => by cases z) (fun _ => rfl)
end G
namespace G
open PySem L2
theorem ofString_inj (a b : String) : (Str.ofString a = Str.ofString b) = (a = b) := by
  refine propext ⟨fun h => ?_, fun h => by rw [h]⟩
  have e : ∀ s : String, (Str.ofString s).cps.toList = s.toList.map Char.toNat := fun s => by
    show (cpsOfBytes 0 0 s.toByteArray.data.toList).toArray.toList = _
    rw [List.toList_toArray, cpsOfBytes_string]
  have h1 := e a
  rw [h, e b] at h1
  have inj : ∀ {l m : List Char}, l.map Char.toNat = m.map Char.toNat → l = m := fun {l} => by
    induction l with
    | nil => intro m h; cases m with
      | nil => rfl
      | cons _ _ => cases h
    | cons c r ih => intro m h; cases m with
      | nil => cases h
      | cons d s =>
        rw [List.map_cons, List.map_cons] at h
        injection h with h1 h2
        rw [ih h2, Char.toNat_inj.mp h1]
  exact String.toList_inj.mp (inj h1).symm
theorem ofString_beq (a b : String) : (Str.ofString a == Str.ofString b) = (a == b) := by
  rw [Bool.eq_iff_iff, beq_iff_eq, beq_iff_eq, ofString_inj]
theorem ofString_dec (a b : String) : decide (Str.ofString a = Str.ofString b) = decide (a = b) := by
  rw [decide_eq_decide, ofString_inj]
end G
namespace G
open PySem L2
/-! ### terms and statements -/
inductive Th where
  | var (k : Int)
  | call (f : Str) (as : List Th)
  | rel (r : Str) (as : List Th)
  | same (a b : Th)
  | no
  | and (a b : Th)
  | or (a b : Th)
  | imp (a b : Th)
  | all (s : Str) (a : Th)
  | some (s : Str) (a : Th)
mutual
def enc : Th → D
  | .var k => .tup [.str "var", .int k]
  | .call f as => .tup [.str "call", .str f, .tup (encs as)]
  | .rel f as => .tup [.str "rel", .str f, .tup (encs as)]
  | .same a b => .tup [.str "same", enc a, enc b]
  | .no => .tup [.str "no"]
  | .and a b => .tup [.str "and", enc a, enc b]
  | .or a b => .tup [.str "or", enc a, enc b]
  | .imp a b => .tup [.str "if", enc a, enc b]
  | .all s a => .tup [.str "all", .str s, enc a]
  | .some s a => .tup [.str "some", .str s, enc a]
def encs : List Th → List D
  | [] => []
  | t :: r => enc t :: encs r
end
def kids : Th → List Th
  | .var _ => []
  | .call _ as => as
  | .rel _ as => as
  | .same a b => [a, b]
  | .no => []
  | .and a b => [a, b]
  | .or a b => [a, b]
  | .imp a b => [a, b]
  | .all _ a => [a]
  | .some _ a => [a]
mutual
def size : Th → Nat
  | .var _ => 1
  | .call _ as => 1 + sizes as
  | .rel _ as => 1 + sizes as
  | .same a b => 1 + (size a + size b)
  | .no => 1
  | .and a b => 1 + (size a + size b)
  | .or a b => 1 + (size a + size b)
  | .imp a b => 1 + (size a + size b)
  | .all _ a => 1 + size a
  | .some _ a => 1 + size a
def sizes : List Th → Nat
  | [] => 0
  | t :: r => size t + sizes r
end
mutual
def depth : Th → Nat
  | .var _ => 1
  | .call _ as => 1 + depths as
  | .rel _ as => 1 + depths as
  | .same a b => 1 + max (depth a) (depth b)
  | .no => 1
  | .and a b => 1 + max (depth a) (depth b)
  | .or a b => 1 + max (depth a) (depth b)
  | .imp a b => 1 + max (depth a) (depth b)
  | .all _ a => 1 + depth a
  | .some _ a => 1 + depth a
def depths : List Th → Nat
  | [] => 0
  | t :: r => max (depth t) (depths r)
end
theorem encs_map : ∀ ts : List Th, encs ts = ts.map enc
  | [] => by rw [encs]; rfl
  | t :: r => by rw [encs, encs_map r]; rfl
theorem size_kids (t : Th) : size t = 1 + sizes (kids t) := by
  cases t <;> simp [size, kids, sizes]
theorem depth_kids (t : Th) : depth t = 1 + depths (kids t) := by
  cases t <;> simp [depth, kids, depths]
theorem sizes_append : ∀ xs ys : List Th, sizes (xs ++ ys) = sizes xs + sizes ys
  | [], ys => by simp [sizes]
  | x :: r, ys => by simp only [List.cons_append, sizes, sizes_append r ys]; omega
end G
namespace G
open PySem L2
/-! ### names that are texts, sizes -/
mutual
def nms : Th → Bool
  | .var _ => true
  | .call f as => PyData.strOk f && nmss as
  | .rel f as => PyData.strOk f && nmss as
  | .same a b => nms a && nms b
  | .no => true
  | .and a b => nms a && nms b
  | .or a b => nms a && nms b
  | .imp a b => nms a && nms b
  | .all s a => PyData.strOk s && nms a
  | .some s a => PyData.strOk s && nms a
def nmss : List Th → Bool
  | [] => true
  | t :: r => nms t && nmss r
end
theorem sk_var : PyData.strOk (Str.ofString "var") = true := by decide +kernel
theorem sk_call : PyData.strOk (Str.ofString "call") = true := by decide +kernel
theorem sk_rel : PyData.strOk (Str.ofString "rel") = true := by decide +kernel
theorem sk_same : PyData.strOk (Str.ofString "same") = true := by decide +kernel
theorem sk_no : PyData.strOk (Str.ofString "no") = true := by decide +kernel
theorem sk_and : PyData.strOk (Str.ofString "and") = true := by decide +kernel
theorem sk_or : PyData.strOk (Str.ofString "or") = true := by decide +kernel
theorem sk_if : PyData.strOk (Str.ofString "if") = true := by decide +kernel
theorem sk_all : PyData.strOk (Str.ofString "all") = true := by decide +kernel
theorem sk_some : PyData.strOk (Str.ofString "some") = true := by decide +kernel
mutual
theorem lay_enc : ∀ t : Th, lay (enc t) = nms t
  | .var _ => by simp [enc, lay, lays, nms, sk_var]
  | .call f as => by simp [enc, lay, lays, nms, sk_call, lays_encs as]
  | .rel f as => by simp [enc, lay, lays, nms, sk_rel, lays_encs as]
  | .same a b => by simp [enc, lay, lays, nms, sk_same, lay_enc a, lay_enc b]
  | .no => by simp [enc, lay, lays, nms, sk_no]
  | .and a b => by simp [enc, lay, lays, nms, sk_and, lay_enc a, lay_enc b]
  | .or a b => by simp [enc, lay, lays, nms, sk_or, lay_enc a, lay_enc b]
  | .imp a b => by simp [enc, lay, lays, nms, sk_if, lay_enc a, lay_enc b]
  | .all s a => by simp [enc, lay, lays, nms, sk_all, lay_enc a]
  | .some s a => by simp [enc, lay, lays, nms, sk_some, lay_enc a]
theorem lays_encs : ∀ ts : List Th, lays (encs ts) = nmss ts
  | [] => by simp [encs, lays, nmss]
  | t :: r => by simp [encs, lays, nmss, lay_enc t, lays_encs r]
end
theorem nms_kids {t : Th} (h : nms t = true) : nmss (kids t) = true := by
  cases t <;> simp_all [nms, kids, nmss]
theorem nmss_append : ∀ xs ys : List Th, nmss (xs ++ ys) = (nmss xs && nmss ys)
  | [], ys => by simp [nmss]
  | x :: r, ys => by simp [nmss, nmss_append r ys, Bool.and_assoc]
theorem lays_append : ∀ xs ys : List D, lays (xs ++ ys) = (lays xs && lays ys)
  | [], ys => by simp [lays]
  | x :: r, ys => by simp [lays, lays_append r ys, Bool.and_assoc]
theorem encs_append : ∀ xs ys : List Th, encs (xs ++ ys) = encs xs ++ encs ys
  | [], ys => by simp [encs]
  | x :: r, ys => by simp [encs, encs_append r ys]
theorem encs_length : ∀ xs : List Th, (encs xs).length = xs.length
  | [] => by simp [encs]
  | x :: r => by simp [encs, encs_length r]
theorem sizes_len : ∀ ts : List Th, ts.length ≤ sizes ts
  | [] => by simp [sizes]
  | t :: r => by
    have h := sizes_len r
    have h2 := size_kids t
    simp only [List.length_cons, sizes]
    omega
theorem eqD_nil (xs : List D) : eqD (.lst xs) (.lst []) = xs.isEmpty := by
  cases xs with
  | nil => simp [eqD, toPy, toPys, PyData.eqv, PyData.eqvAll]
  | cons _ _ => simp [eqD, toPy, toPys, PyData.eqv, PyData.eqvAll]
theorem ne_nil {xs : List D} (h : lays xs = true) : dNe (.lst xs) (.lst []) = some (.d (.bl (!xs.isEmpty))) := by
  unfold dNe eqOk
  simp only [lay, h, lays, dep, deps, Bool.true_and, Nat.zero_add]
  rw [if_pos (decide_eq_true (by omega)), eqD_nil]
theorem eq_nil {xs : List D} (h : lays xs = true) : dEq (.lst xs) (.lst []) = some (.d (.bl xs.isEmpty)) := by
  unfold dEq eqOk
  simp only [lay, h, lays, dep, deps, Bool.true_and, Nat.zero_add]
  rw [if_pos (decide_eq_true (by omega)), eqD_nil]
/-! ### comprehensions that map -/
theorem lc_map {M : MI} {i : Nat} {e : Sm M S} {g : D → D} {z : Z M.T} (hz : wipeZ z [i] = z) : ∀ (ds acc : List D), acc.length + ds.length ≤ lim →
    (∀ d ∈ ds, ∃ z1, escf e { z with rho := z.rho.set i (some (.d d)) } = .ok (.d (g d)) z1 ∧ wipeZ z1 [i] = z) → lcL (kName i) (fun z => .ok true z) e [i] ds acc z = .ok (acc ++ ds.map g) z
  | [], acc, _, _ => by simp [lcL]
  | d :: r, acc, hl, h => by
    obtain ⟨z1, h1, h2⟩ := h d List.mem_cons_self
    rw [List.length_cons] at hl
    unfold lcL
    simp only [kName, nox, Rs.bind_ok, if_true, h1]
    rw [if_pos (by omega), h2, lc_map hz r (acc ++ [g d]) (by rw [List.length_append, List.length_singleton]; omega) (fun d hd => h d (List.mem_cons_of_mem _ hd))]
    simp
/-! ### draws -/
theorem next_le {t : Mach} {many : Int} (h : 0 < many) : 0 ≤ (nextM t many).1 ∧ (nextM t many).1 < many ∧ (nextM t many).2.at_ = t.at_ + 1 := by
  unfold nextM
  split
  · exact ⟨Int.emod_nonneg _ (by omega), Int.emod_lt_of_pos _ h, rfl⟩
  · exact ⟨Int.emod_nonneg _ (by omega), Int.emod_lt_of_pos _ h, rfl⟩
theorem next_ok {t : Mach} {many : Int} (h : 0 < many) (h2 : many < 1073741824) (h3 : t.at_ < drawLim) : ∃ (r : Int) (t' : Mach), nextS [.m 0, .d (.int many)] t = .ok (.d (.int r)) t' ∧ 0 ≤ r ∧ r < many ∧ t'.at_ = t.at_ + 1 := by
  obtain ⟨q1, q2, q3⟩ := next_le (t := t) h
  exact ⟨_, _, if_pos ⟨h, h2, h3⟩, q1, q2, q3⟩
theorem sum_map_cast : ∀ ts : List Th, (ts.map fun t => ((size t : Nat) : Int)).sum = ((sizes ts : Nat) : Int)
  | [] => by simp [sizes]
  | t :: r => by simp only [List.map_cons, List.sum_cons, sum_map_cast r, sizes]; omega
end G
namespace G
theorem lm0 : (0 ≤ lim) = True := eq_true (by decide)
theorem lm1 : (0 + 1 ≤ lim) = True := eq_true (by decide)
theorem lm2 : (0 + 1 + 1 ≤ lim) = True := eq_true (by decide)
theorem lm3 : (0 + 1 + 1 + 1 ≤ lim) = True := eq_true (by decide)
theorem lm4 : (0 + 1 + 1 + 1 + 1 ≤ lim) = True := eq_true (by decide)
theorem lm5 : (0 + 1 + 1 + 1 + 1 + 1 ≤ lim) = True := eq_true (by decide)
theorem lm6 : (0 + 1 + 1 + 1 + 1 + 1 + 1 ≤ lim) = True := eq_true (by decide)
theorem lm7 : (0 + 1 + 1 + 1 + 1 + 1 + 1 + 1 ≤ lim) = True := eq_true (by decide)
theorem lm8 : (0 + 1 + 1 + 1 + 1 + 1 + 1 + 1 + 1 ≤ lim) = True := eq_true (by decide)
theorem lm9 : (0 + 1 + 1 + 1 + 1 + 1 + 1 + 1 + 1 + 1 ≤ lim) = True := eq_true (by decide)
theorem lm10 : (0 + 1 + 1 + 1 + 1 + 1 + 1 + 1 + 1 + 1 + 1 ≤ lim) = True := eq_true (by decide)
theorem lm11 : (0 + 1 + 1 + 1 + 1 + 1 + 1 + 1 + 1 + 1 + 1 + 1 ≤ lim) = True := eq_true (by decide)
theorem lm12 : (0 + 1 + 1 + 1 + 1 + 1 + 1 + 1 + 1 + 1 + 1 + 1 + 1 ≤ lim) = True := eq_true (by decide)
end G
namespace G
open PySem L2
theorem lc_mapE {M : MI} {i : Nat} {e : Sm M S} {α : Type} (en : α → D) {g : α → D} {z : Z M.T} (hz : wipeZ z [i] = z) : ∀ (ts : List α) (acc : List D), acc.length + ts.length ≤ lim →
    (∀ t ∈ ts, ∃ z1, escf e { z with rho := z.rho.set i (some (.d (en t))) } = .ok (.d (g t)) z1 ∧ wipeZ z1 [i] = z) → lcL (kName i) (fun z => .ok true z) e [i] (ts.map en) acc z = .ok (acc ++ ts.map g) z
  | [], acc, _, _ => by simp [lcL]
  | d :: r, acc, hl, h => by
    obtain ⟨z1, h1, h2⟩ := h d List.mem_cons_self
    rw [List.length_cons] at hl
    rw [List.map_cons]
    unfold lcL
    simp only [kName, nox, Rs.bind_ok, if_true, h1]
    rw [if_pos (by omega), h2, lc_mapE en hz r (acc ++ [g d]) (by rw [List.length_append, List.length_singleton]; omega) (fun d hd => h d (List.mem_cons_of_mem _ hd))]
    simp
theorem intsOf_map {α : Type} (f : α → Int) : ∀ ts : List α, intsOf (ts.map fun t => D.int (f t)) = some (ts.map f)
  | [] => rfl
  | t :: r => by rw [List.map_cons, intsOf, intsOf_map f r]; rfl
theorem maxL_depths : ∀ ts : List Th, maxL (0 :: ts.map fun t => ((depth t : Nat) : Int)) = ((depths ts : Nat) : Int)
  | [] => by simp [maxL, depths]
  | t :: r => by
    have h := maxL_is (ns := 0 :: (t :: r).map fun t => ((depth t : Nat) : Int)) (by intro e; cases e)
    have up : ∀ ts : List Th, ∀ y ∈ (ts.map fun t => ((depth t : Nat) : Int)), y ≤ ((depths ts : Nat) : Int) := fun ts => by
      induction ts with
      | nil => intro y hy; cases hy
      | cons t r ih =>
        intro y hy
        rw [List.map_cons] at hy
        rw [depths]
        rcases List.mem_cons.mp hy with rfl | hy
        · omega
        · have := ih y hy; omega
    have lo : ∀ ts : List Th, ts = [] ∨ ((depths ts : Nat) : Int) ∈ (ts.map fun t => ((depth t : Nat) : Int)) := fun ts => by
      induction ts with
      | nil => exact .inl rfl
      | cons t r ih =>
        refine .inr ?_
        rw [depths, List.map_cons]
        rcases ih with rfl | ih
        · rw [depths]
          simp
        · by_cases c : depth t ≤ depths r
          · rw [Nat.max_eq_right c]; exact List.mem_cons_of_mem _ ih
          · rw [Nat.max_eq_left (by omega)]; exact List.mem_cons_self
    refine Int.le_antisymm ?_ ?_
    · rcases List.mem_cons.mp h.1 with e | e
      · rw [e]; omega
      · exact up (t :: r) _ e
    · rcases lo (t :: r) with e | e
      · cases e
      · exact h.2 _ (List.mem_cons_of_mem _ e)
theorem kb_int_bool : kitB "int" "bool" = some false := by decide +kernel
theorem kb_int_int : kitB "int" "int" = some true := by decide +kernel
theorem eqD_int (i j : Int) : eqD (.int i) (.int j) = (i == j) := by simp [eqD, toPy, PyData.eqv]
theorem eqD_str (i j : Str) : eqD (.str i) (.str j) = (i == j) := by simp [eqD, toPy, PyData.eqv]
def eqDs : List D → List D → Bool
  | [], [] => true
  | x :: r, y :: s => eqD x y && eqDs r s
  | _, _ => false
theorem eqvAll_toPys : ∀ xs ys : List D, PyData.eqvAll (toPys xs) (toPys ys) = eqDs xs ys
  | [], [] => by simp [toPys, PyData.eqvAll, eqDs]
  | [], _ :: _ => by simp [toPys, PyData.eqvAll, eqDs]
  | _ :: _, [] => by simp [toPys, PyData.eqvAll, eqDs]
  | x :: r, y :: s => by simp only [toPys, PyData.eqvAll, eqDs, eqD, eqvAll_toPys r s]
theorem eqD_lst (xs ys : List D) : eqD (.lst xs) (.lst ys) = eqDs xs ys := by
  unfold eqD
  rw [toPy, toPy, PyData.eqv, eqvAll_toPys]
theorem eqD_tup (xs ys : List D) : eqD (.tup xs) (.tup ys) = eqDs xs ys := by
  unfold eqD
  rw [toPy, toPy, PyData.eqv, eqvAll_toPys]
end G
namespace G
open PySem L2
theorem noOwn_one {rho : List (Option S)} {i : Nat} (h : rho.set i none = rho) : noOwn rho [i] = true := by
  unfold noOwn
  rw [List.all_cons, List.all_nil, Bool.and_true, ← h, List.getElem?_set]
  simp only [if_true]
  split
  · rename_i h; split at h <;> cases h
  · rfl
theorem rest_one {rho : List (Option S)} {i : Nat} (h : rho.set i none = rho) : restR rho rho [i] = rho := by
  unfold restR restR
  have e : rho[i]?.getD none = none := by
    rw [← h, List.getElem?_set]
    simp only [if_true]
    split <;> rfl
  rw [e, h]
/-- a comprehension that maps and leaves the machine -/
theorem elc_map {M : MI} {i : Nat} {its : Sm M (List D)} {e : Sm M S} {α : Type} (en : α → D) {g : α → D} {ts : List α} {z z0 : Z M.T} (h0 : its z0 = .ok (ts.map en) z) (hi : z.rho.set i none = z.rho) (hl : ts.length ≤ lim)
    (h : ∀ t ∈ ts, escf e { z with rho := z.rho.set i (some (.d (en t))) } = .ok (.d (g t)) { z with rho := z.rho.set i (some (.d (en t))) }) : eLc its (kName i) (fun z => .ok true z) e [i] z0 = .ok (.l (ts.map g)) z := by
  have hw : wipeZ z [i] = z := by unfold wipeZ wipeR wipeR; rw [hi]
  unfold eLc
  rw [h0, Rs.bind_ok, if_pos (noOwn_one hi), hw, lc_mapE en hw ts [] (by rw [List.length_nil]; omega) (fun t ht => ⟨_, h t ht, by unfold wipeZ wipeR wipeR; simp only [List.set_set, hi]⟩), Rs.bind_ok, rest_one hi]
  rfl
/-- a comprehension whose body draws -/
theorem lc_run {M : MI} {i : Nat} {e : Sm M S} {α : Type} {en : α → D} {P : α → Prop} {Q : Nat → M.T → Prop} {rho : List (Option S)} (hi : rho.set i none = rho)
    (h : ∀ k d m, Q (k + 1) m → ∃ t m', escf e ⟨rho.set i (some (.d d)), m⟩ = .ok (.d (en t)) ⟨rho.set i (some (.d d)), m'⟩ ∧ P t ∧ Q k m') :
    ∀ (ds : List D) (acc : List D) (m : M.T), acc.length + ds.length ≤ lim → Q ds.length m → ∃ (ts : List α) (m' : M.T), lcL (M := M) (kName i) (fun z => .ok true z) e [i] ds acc ⟨rho, m⟩ = .ok (acc ++ ts.map en) ⟨rho, m'⟩ ∧ ts.length = ds.length ∧ (∀ t ∈ ts, P t) ∧ Q 0 m'
  | [], acc, m, _, q => ⟨[], m, by simp [lcL], rfl, (fun t ht => by cases ht), q⟩
  | d :: r, acc, m, hl, q => by
    rw [List.length_cons] at hl q
    obtain ⟨t, m1, h1, h2, h3⟩ := h _ d m q
    obtain ⟨ts, m2, g1, g2, g3, g4⟩ := lc_run hi h r (acc ++ [en t]) m1 (by rw [List.length_append, List.length_singleton]; omega) h3
    refine ⟨t :: ts, m2, ?_, by rw [List.length_cons, g2, List.length_cons], ?_, g4⟩
    · unfold lcL
      simp only [kName, nox, Rs.bind_ok, if_true, h1]
      rw [if_pos (by omega)]
      have hw : wipeZ (⟨rho.set i (some (.d d)), m1⟩ : Z M.T) [i] = ⟨rho, m1⟩ := by unfold wipeZ wipeR wipeR; simp only [List.set_set, hi]
      rw [hw, g1]
      simp
    · intro u hu
      rcases List.mem_cons.mp hu with rfl | hu
      · exact h2
      · exact g3 u hu
theorem elc_run {M : MI} {i : Nat} {its : Sm M (List D)} {e : Sm M S} {α : Type} {en : α → D} {P : α → Prop} {Q : Nat → M.T → Prop} {rho : List (Option S)} {z0 : Z M.T} {ds : List D} {m : M.T} (h0 : its z0 = .ok ds ⟨rho, m⟩) (hi : rho.set i none = rho) (hl : ds.length ≤ lim) (q : Q ds.length m)
    (h : ∀ k d m, Q (k + 1) m → ∃ t m', escf e ⟨rho.set i (some (.d d)), m⟩ = .ok (.d (en t)) ⟨rho.set i (some (.d d)), m'⟩ ∧ P t ∧ Q k m') :
    ∃ (ts : List α) (m' : M.T), eLc its (kName i) (fun z => .ok true z) e [i] z0 = .ok (.l (ts.map en)) ⟨rho, m'⟩ ∧ ts.length = ds.length ∧ (∀ t ∈ ts, P t) ∧ Q 0 m' := by
  obtain ⟨ts, m', g1, g2, g3, g4⟩ := lc_run (M := M) hi h ds [] m (by rw [List.length_nil]; omega) q
  refine ⟨ts, m', ?_, g2, g3, g4⟩
  have hw : wipeZ (⟨rho, m⟩ : Z M.T) [i] = ⟨rho, m⟩ := by unfold wipeZ wipeR wipeR; simp only [hi]
  unfold eLc
  rw [h0, Rs.bind_ok, if_pos (noOwn_one hi), hw, g1, Rs.bind_ok]
  simp only [rest_one hi]
  rfl
end G
namespace G
open PySem L2
theorem atI0 {α : Type} (x : α) (r : List α) : atI (x :: r) 0 = some x := by
  unfold atI ixN
  simp
theorem atI1 {α : Type} (x y : α) (r : List α) : atI (x :: y :: r) 1 = some y := by
  unfold atI ixN
  have h : (1 : Int) < ((r.length + 1 + 1 : Nat) : Int) := by omega
  simp only [List.length_cons]
  rw [if_pos h]
  rfl
theorem atI2 {α : Type} (x y w : α) (r : List α) : atI (x :: y :: w :: r) 2 = some w := by
  unfold atI ixN
  have h : (2 : Int) < ((r.length + 1 + 1 + 1 : Nat) : Int) := by omega
  simp only [List.length_cons]
  rw [if_pos h]
  rfl
end G
namespace G
open PySem L2
theorem rg_lim {j : Int} (h0 : 0 ≤ j) (h1 : j ≤ 1000000) : -(2 ^ 62) ≤ j ∧ j < 2 ^ 62 := by
  have e : (2 : Int) ^ 62 = 4611686018427387904 := by decide +kernel
  rw [e]
  omega
theorem and_ok {ζ : Type} {a b : Prop} [Decidable a] [Decidable b] (z : ζ) : (if decide a = true then Rs.ok (decide b) z else Rs.ok false z) = Rs.ok (decide (a ∧ b)) z := by
  by_cases ha : a <;> by_cases hb : b <;> simp [ha, hb]
theorem or_ok {ζ : Type} {a b : Prop} [Decidable a] [Decidable b] (z : ζ) : (if decide a = true then Rs.ok true z else Rs.ok (decide b) z) = Rs.ok (decide (a ∨ b)) z := by
  by_cases ha : a <;> by_cases hb : b <;> simp [ha, hb]
theorem range_len (n : Nat) : (rangeD 0 n).length = n := by unfold rangeD; rw [List.length_map, List.length_range]
end G
namespace G
open PySem L2
theorem dSub_i (i j : Int) : dSub (.int i) (.int j) = some (.d (.int (i - j))) := rfl
theorem dLt_i (i j : Int) : dLt (.int i) (.int j) = some (.d (.bl (decide (i < j)))) := rfl
theorem dLe_i (i j : Int) : dLe (.int i) (.int j) = some (.d (.bl (decide (i ≤ j)))) := rfl
theorem dGt_i (i j : Int) : dGt (.int i) (.int j) = some (.d (.bl (decide (j < i)))) := rfl
theorem dGe_i (i j : Int) : dGe (.int i) (.int j) = some (.d (.bl (decide (j ≤ i)))) := rfl
theorem dAdd_i (i j : Int) : dAdd (.int i) (.int j) = some (.d (.int (i + j))) := rfl
theorem dEq_i (i j : Int) : dEq (.int i) (.int j) = some (.d (.bl (decide (i = j)))) := by
  unfold dEq
  rw [if_pos (by rfl), eqD_int]
  rfl
theorem dNe_i (i j : Int) : dNe (.int i) (.int j) = some (.d (.bl (!decide (i = j)))) := by
  unfold dNe
  rw [if_pos (by rfl), eqD_int]
  rfl
end G
namespace G
open PySem L2
theorem seq_nx {M : MI} {f g : Sm M Out} {z z1 : Z M.T} (h : f z = .ok .nx z1) : sSeq f g z = g z1 := by
  simp only [sSeq, h, Rs.bind_ok]
theorem seq_rt {M : MI} {f g : Sm M Out} {z z1 : Z M.T} {s : S} (h : f z = .ok (.rt s) z1) : sSeq f g z = .ok (.rt s) z1 := by
  simp only [sSeq, h, Rs.bind_ok]
theorem fnM_d {M : MI} {n : Nat} {b : Sm M Out} {args : List S} {t t' : M.T} {x : D} {rho' : List (Option S)} (h : b { rho := args.map some ++ List.replicate (n - args.length) none, m := t } = .ok (.rt (.d x)) ⟨rho', t'⟩) : fnM n b args t = .ok (.d x) t' := by
  simp only [fnM, h]
end G
namespace G
open PySem L2
/-! ### texts -/
theorem dAdd_s {x y : Str} (h : x.length + y.length ≤ lim) : dAdd (.str x) (.str y) = some (.d (.str (x ++ y))) := by
  unfold dAdd
  exact if_pos h
theorem fLen_s {w : Str} (h : w.length ≤ lim) : fLen [.str w] = some (.d (.int (w.length : Nat))) := by
  unfold fLen
  exact if_pos h
def sg (c : Nat) (s : Str) : Bool := decide (c ∈ s.cps.toList)
theorem dIn_c (c : Nat) (z : Str) : dIn (.str ⟨#[c]⟩) (.str z) = some (.d (.bl (sg c z))) := rfl
theorem dNotIn_c (c : Nat) (z : Str) : dNotIn (.str ⟨#[c]⟩) (.str z) = some (.d (.bl (!sg c z))) := rfl
def okS (w : Str) : Prop := ∀ c ∈ w.cps.toList, c < 0x110000
theorem okS_app {x y : Str} (a : okS x) (b : okS y) : okS (x ++ y) := by
  intro c hc
  have e : (x ++ y).cps.toList = x.cps.toList ++ y.cps.toList := by
    show (x.cps ++ y.cps).toList = _
    simp
  rw [e] at hc
  rcases List.mem_append.mp hc with h | h
  · exact a c h
  · exact b c h
theorem okS_cut {x : Str} (a : okS x) (lo hi : Option Int) : okS (cutS x lo hi) := by
  intro c hc
  unfold cutS at hc
  exact a c (List.mem_of_mem_drop (List.mem_of_mem_take hc))
theorem len_app (x y : Str) : (x ++ y).length = x.length + y.length := by
  show (x.cps ++ y.cps).size = x.cps.size + y.cps.size
  simp
theorem okS_of {x : Str} (h : PyData.strOk x = true) : okS x := by
  intro c hc
  unfold PyData.strOk at h
  rw [Array.all_eq_true_iff_forall_mem] at h
  have := h c (by simpa using hc)
  simpa using this
theorem atI_mem {α : Type} {xs : List α} {i : Int} (h : 0 ≤ i) (h2 : i < xs.length) : ∃ x ∈ xs, atI xs i = some x := by
  unfold atI ixN
  rw [if_pos h, if_pos h2]
  have hl : i.toNat < xs.length := by omega
  exact ⟨xs[i.toNat], List.getElem_mem hl, by rw [Option.bind_some, List.getElem?_eq_getElem hl]⟩
theorem dIx_s {z : Str} {i : Int} (hz : z.length ≤ lim) (ho : okS z) (h : 0 ≤ i) (h2 : i < z.length) : ∃ c, dIx (.str z) (.int i) = some (.d (.str ⟨#[c]⟩)) ∧ c < 0x110000 := by
  obtain ⟨c, hc, e⟩ := atI_mem (xs := z.cps.toList) h (by rw [Array.length_toList]; exact h2)
  refine ⟨c, ?_, ho c hc⟩
  unfold dIx
  refine (if_pos hz).trans ?_
  rw [e]
  rfl
theorem okS_one {c : Nat} (h : c < 0x110000) : okS ⟨#[c]⟩ := by
  intro d hd
  rcases List.mem_singleton.mp hd with rfl
  exact h
/-- a comprehension that sieves -/
theorem lc_filt {M : MI} {i : Nat} {t : Sm M Bool} {e : Sm M S} {α : Type} (en : α → D) {g : α → D} {p : α → Bool} {z : Z M.T} (hi : z.rho.set i none = z.rho) : ∀ (ts : List α) (acc : List D), acc.length + ts.length ≤ lim →
    (∀ x ∈ ts, t { z with rho := z.rho.set i (some (.d (en x))) } = .ok (p x) { z with rho := z.rho.set i (some (.d (en x))) } ∧ escf e { z with rho := z.rho.set i (some (.d (en x))) } = .ok (.d (g x)) { z with rho := z.rho.set i (some (.d (en x))) }) → lcL (kName i) t e [i] (ts.map en) acc z = .ok (acc ++ (ts.filter p).map g) z
  | [], acc, _, _ => by simp [lcL]
  | d :: r, acc, hl, h => by
    obtain ⟨h1, h2⟩ := h d List.mem_cons_self
    rw [List.length_cons] at hl
    have hw : wipeZ ({ z with rho := z.rho.set i (some (.d (en d))) } : Z M.T) [i] = z := by unfold wipeZ wipeR wipeR; simp only [List.set_set, hi]
    rw [List.map_cons]
    unfold lcL
    simp only [kName, nox, Rs.bind_ok, h1]
    cases hp : p d with
    | true =>
      simp only [if_true, h2, Rs.bind_ok]
      rw [if_pos (by omega), hw, lc_filt en hi r (acc ++ [g d]) (by rw [List.length_append, List.length_singleton]; omega) (fun x hx => h x (List.mem_cons_of_mem _ hx)), List.filter_cons_of_pos hp]
      simp
    | false =>
      simp only [Bool.false_eq_true, if_false]
      rw [hw, lc_filt en hi r acc (by omega) (fun x hx => h x (List.mem_cons_of_mem _ hx)), List.filter_cons_of_neg (by rw [hp]; exact Bool.false_ne_true)]
theorem elc_filt {M : MI} {i : Nat} {its : Sm M (List D)} {t : Sm M Bool} {e : Sm M S} {α : Type} (en : α → D) {g : α → D} {p : α → Bool} {ts : List α} {z z0 : Z M.T} (h0 : its z0 = .ok (ts.map en) z) (hi : z.rho.set i none = z.rho) (hl : ts.length ≤ lim)
    (h : ∀ x ∈ ts, t { z with rho := z.rho.set i (some (.d (en x))) } = .ok (p x) { z with rho := z.rho.set i (some (.d (en x))) } ∧ escf e { z with rho := z.rho.set i (some (.d (en x))) } = .ok (.d (g x)) { z with rho := z.rho.set i (some (.d (en x))) }) : eLc its (kName i) t e [i] z0 = .ok (.l ((ts.filter p).map g)) z := by
  have hw : wipeZ z [i] = z := by unfold wipeZ wipeR wipeR; rw [hi]
  unfold eLc
  rw [h0, Rs.bind_ok, if_pos (noOwn_one hi), hw, lc_filt en hi ts [] (by rw [List.length_nil]; omega) h, Rs.bind_ok, rest_one hi]
  rfl
theorem blsOf_map {α : Type} (f : α → Bool) : ∀ ts : List α, blsOf (ts.map fun t => D.bl (f t)) = some (ts.map f)
  | [] => rfl
  | t :: r => by rw [List.map_cons, blsOf, blsOf_map f r]; rfl
end G
/-! The store: mutable objects by their numbers. -/
namespace G
open PySem L2
theorem tag_inj {n m : Nat} (h : tag n = tag m) : n = m := by
  unfold tag at h
  injection h with h
  have h2 : [rawInt (n : Nat)] = [rawInt (m : Nat)] := congrArg Array.toList h
  injection h2 with h3
  unfold rawInt at h3
  injection h3 with h4
  exact Int.ofNat.inj h4
inductive MO where
  | lst (xs : List D)
  | dK (ps : List (Key × D))
  /-- an instance of a class, its attributes -/
  | ins (c : Str) (fs : List (Str × D))
inductive DaF (K : PySem.W.Frag) (F : Hp) : List (Str × V) → List (Str × D) → Prop
  | nil : DaF K F [] []
  | cons {k : Str} {v : V} {d : D} {r : List (Str × V)} {r' : List (Str × D)} : Da K F v d → DaF K F r r' → DaF K F ((k, v) :: r) ((k, d) :: r')
theorem DaF.mono {K : PySem.W.Frag} {F F' : Hp} (h : Same F F') : ∀ {a b}, DaF K F a b → DaF K F' a b
  | _, _, .nil => .nil
  | _, _, .cons q r => .cons (q.mono h) (DaF.mono h r)
inductive DaK (K : PySem.W.Frag) (F : Hp) : List (Key × V) → List (Key × D) → Prop
  | nil : DaK K F [] []
  | cons {k : Key} {v : V} {d : D} {r : List (Key × V)} {r' : List (Key × D)} : Da K F v d → DaK K F r r' → DaK K F ((k, v) :: r) ((k, d) :: r')
theorem DaK.mono {K : PySem.W.Frag} {F F' : Hp} (h : Same F F') : ∀ {a b}, DaK K F a b → DaK K F' a b
  | _, _, .nil => .nil
  | _, _, .cons q r => .cons (q.mono h) (DaK.mono h r)
theorem DaK.length {K : PySem.W.Frag} {F : Hp} : ∀ {a b}, DaK K F a b → a.length = b.length
  | _, _, .nil => rfl
  | _, _, .cons _ r => congrArg (· + 1) (DaK.length r)
def valD (ps : List (Key × D)) (k : Key) : Option D := match ps with
  | [] => none
  | p :: r => if p.1 = k then some p.2 else valD r k
def putD (ps : List (Key × D)) (k : Key) (d : D) : List (Key × D) :=
  if (ps.any fun kv => decide (kv.1 = k)) = true then ps.map (fun kv => if kv.1 = k then (kv.1, d) else kv) else ps ++ [(k, d)]
theorem DaK.val {K : PySem.W.Frag} {F : Hp} (k : Key) : ∀ {a b}, DaK K F a b → (valD b k = none ∧ valV a k = none) ∨ ∃ v d, valD b k = some d ∧ valV a k = some v ∧ Da K F v d
  | _, _, .nil => .inl ⟨rfl, rfl⟩
  | _, _, .cons (k := k') q r => by
    by_cases e : k' = k
    · exact .inr ⟨_, _, by rw [valD, if_pos e], valV_pos e, q⟩
    · rw [valD, if_neg e, valV_neg e]
      exact DaK.val k r
theorem DaK.any {K : PySem.W.Frag} {F : Hp} (k : Key) : ∀ {a b}, DaK K F a b → (a.any fun kv => decide (kv.1 = k)) = (b.any fun kv => decide (kv.1 = k))
  | _, _, .nil => rfl
  | _, _, .cons q r => by rw [List.any_cons, List.any_cons, DaK.any k r]
theorem DaK.app {K : PySem.W.Frag} {F : Hp} : ∀ {a b a' b'}, DaK K F a b → DaK K F a' b' → DaK K F (a ++ a') (b ++ b')
  | _, _, _, _, .nil, h => h
  | _, _, _, _, .cons q r, h => .cons q (DaK.app r h)
theorem DaK.map {K : PySem.W.Frag} {F : Hp} (k : Key) {v : V} {d : D} (hv : Da K F v d) : ∀ {a b}, DaK K F a b → DaK K F (a.map fun kv => if kv.1 = k then (kv.1, v) else kv) (b.map fun kv => if kv.1 = k then (kv.1, d) else kv)
  | _, _, .nil => .nil
  | _, _, .cons (k := k') q r => by
    rw [List.map_cons, List.map_cons]
    by_cases e : k' = k
    · rw [if_pos e, if_pos e]; exact .cons hv (DaK.map k hv r)
    · rw [if_neg e, if_neg e]; exact .cons q (DaK.map k hv r)
theorem DaK.put {K : PySem.W.Frag} {F : Hp} (k : Key) {v : V} {d : D} (hv : Da K F v d) {a b} (h : DaK K F a b) : DaK K F (putK a k v) (putD b k d) := by
  unfold putK putD
  rw [h.any k]
  split
  · exact h.map k hv
  · exact h.app (.cons hv .nil)
def Holds (K : PySem.W.Frag) (F H : Hp) (a : Addr) : MO → Prop
  | .lst xs => ∃ vs, H a = some (.lst vs) ∧ DaAll K F vs xs
  | .dK ps => ∃ kvs, H a = some (.dK kvs) ∧ DaK K F kvs ps
  | .ins c fs => ∃ C dx vs, xrK K c = some (.ref C) ∧ H a = some (.ins C dx vs) ∧ DaF K F vs fs
theorem Holds.mono {K : PySem.W.Frag} {F F' H H' : Hp} {a : Addr} {o : MO} (s : Same F F') (e : H' a = H a) (h : Holds K F H a o) : Holds K F' H' a o := by
  cases o with
  | lst xs =>
    obtain ⟨vs, h1, h2⟩ := h
    exact ⟨vs, e.trans h1, h2.mono s⟩
  | dK ps =>
    obtain ⟨vs, h1, h2⟩ := h
    exact ⟨vs, e.trans h1, h2.mono s⟩
  | ins c fs =>
    obtain ⟨C, dx, vs, h0, h1, h2⟩ := h
    exact ⟨C, dx, vs, h0, e.trans h1, h2.mono s⟩
theorem Holds.some {K : PySem.W.Frag} {F H : Hp} {a : Addr} {o : MO} (h : Holds K F H a o) : H a ≠ none := by
  cases o with
  | lst xs =>
    obtain ⟨vs, h1, h2⟩ := h
    rw [h1]; intro z; cases z
  | dK ps =>
    obtain ⟨vs, h1, h2⟩ := h
    rw [h1]; intro z; cases z
  | ins c fs =>
    obtain ⟨C, dx, vs, h0, h1, h2⟩ := h
    rw [h1]; intro z; cases z
abbrev MX : MI where
  T := List MO
  ok := fun K F H ms t => ms = [] ∧ (∀ n o, t[n]? = some o → ∃ a, F a = some (tag n) ∧ Holds K F H a o) ∧ (∀ a ps, F a = some (.tbl ps) → ∃ n, n < t.length ∧ HO.tbl ps = tag n) ∧ ∀ a b n, F a = some (tag n) → F b = some (tag n) → a = b
  mono := fun {K F F' H H' ms t} hF ht hm h => by
    obtain ⟨h0, h1, h2, h3⟩ := h
    refine ⟨h0, fun n o e => ?_, fun a ps e => h2 a ps (ht a ps e).1, fun a b n e1 e2 => h3 a b n (ht a _ e1).1 (ht b _ e2).1⟩
    obtain ⟨a, ha, hh⟩ := h1 n o e
    exact ⟨a, hF _ _ ha, hh.mono hF (ht a _ (hF _ _ ha)).2⟩
section
variable {G : Gx} {W : WX} {σ : St} {H H' F F' : Hp} {z : Z (List MO)}
theorem Ok.noms (ok : Ok MX G σ H F z) : G.ms = [] := ok.mach.1
theorem Ok.alloc (ok : Ok MX G σ H F z) {p : Addr} (hp : H p = none) {ho : HO} {o : MO} (hh : Holds G.K (upd F p (tag z.m.length)) (upd H p ho) p o) : Ok MX G σ (upd H p ho) (upd F p (tag z.m.length)) { z with m := z.m ++ [o] } where
  sub := fun b u q n => by
    by_cases e : b = p
    · subst e
      rw [upd_same] at q
      exact (n _ (Option.some.inj q).symm).elim
    · rw [upd_ne e] at q ⊢
      exact ok.sub b u q n
  len := ok.len
  slot := fun i s e => by
    obtain ⟨v, h1, h2⟩ := ok.slot i s e
    refine ⟨v, h1, ?_⟩
    have sm := same_upd (o := tag z.m.length) (ok.freshF hp)
    cases s with
    | d x => exact Da.mono sm h2
    | l xs =>
      obtain ⟨a, vs, rfl, h3, h4, h5, h6, h7⟩ := h2
      have nb := ne_of_none h3 hp
      exact ⟨a, vs, rfl, (upd_ne nb).trans h3, h4.mono sm, (upd_ne nb).trans h5, h6, h7⟩
    | v _ => exact h2
    | m j => exact h2
  dist := ok.dist
  mach := by
    have fp := ok.freshF hp
    obtain ⟨h0, h1, h2, h3⟩ := ok.mach
    have old : ∀ a n, upd F p (tag z.m.length) a = some (tag n) → (a = p ∧ n = z.m.length) ∨ (a ≠ p ∧ F a = some (tag n) ∧ n < z.m.length) := fun a n e => by
      by_cases q : a = p
      · subst q
        rw [upd_same] at e
        exact .inl ⟨rfl, (tag_inj (Option.some.inj e)).symm⟩
      · rw [upd_ne q] at e
        obtain ⟨k, hk, ek⟩ := h2 a _ e
        rw [tag_inj (show tag n = tag k from ek)]
        exact .inr ⟨q, by rw [← tag_inj (show tag n = tag k from ek)]; exact e, hk⟩
    refine ⟨h0, fun n u e => ?_, fun a ps e => ?_, fun a b n e1 e2 => ?_⟩
    · have e' : (z.m ++ [o])[n]? = some u := e
      by_cases q : n < z.m.length
      · rw [List.getElem?_append_left q] at e'
        obtain ⟨a, ha, hu⟩ := h1 n u e'
        have nb := ne_of_none ha fp
        exact ⟨a, (upd_ne nb).trans ha, hu.mono (same_upd fp) (upd_ne nb)⟩
      · have en : n = z.m.length := by
          have := (List.getElem?_eq_some_iff.mp e').1
          rw [List.length_append, List.length_singleton] at this
          omega
        subst en
        rw [List.getElem?_append_right (Nat.le_refl _), Nat.sub_self] at e'
        cases e'
        exact ⟨p, upd_same, hh⟩
    · by_cases q : a = p
      · subst q
        rw [upd_same] at e
        exact ⟨z.m.length, by show _ < (z.m ++ [o]).length; rw [List.length_append, List.length_singleton]; omega, (Option.some.inj e).symm⟩
      · rw [upd_ne q] at e
        obtain ⟨k, hk, ek⟩ := h2 a ps e
        exact ⟨k, by show _ < (z.m ++ [o]).length; rw [List.length_append]; omega, ek⟩
    · rcases old a n e1 with ⟨rfl, en⟩ | ⟨_, q1, ln⟩
      · rcases old b n e2 with ⟨rfl, _⟩ | ⟨_, _, ln⟩
        · rfl
        · omega
      · rcases old b n e2 with ⟨rfl, en⟩ | ⟨_, q2, _⟩
        · omega
        · exact h3 a b n q1 q2
  msF := fun a ha => by rw [ok.noms] at ha; cases ha
  msP := fun a ha => by rw [ok.noms] at ha; cases ha
  msH := fun a ha => by rw [ok.noms] at ha; cases ha
  fr := fun b u q => by
    obtain ⟨h1, h2⟩ := ok.fr b u q
    have nb := ne_of_none h1 hp
    exact ⟨(upd_ne nb).trans h1, (upd_ne nb).trans h2⟩
  tg := fun a ps e => by
    by_cases q : a = p
    · subst q
      exact ⟨(by rw [upd_same]; intro y; cases y), ok.freshP hp⟩
    · rw [upd_ne q] at e ⊢
      exact ok.tg a ps e
theorem Ok.putO (ok : Ok MX G σ H F z) {a : Addr} {n : Nat} (ha : F a = some (tag n)) {ho : HO} {o : MO} (hh : Holds G.K F (upd H a ho) a o) : Ok MX G σ (upd H a ho) F { z with m := z.m.set n o } where
  sub := fun b u q nt => by
    have nb : b ≠ a := fun e => by
      rw [e, ha] at q
      exact nt _ (Option.some.inj q).symm
    rw [upd_ne nb]
    exact ok.sub b u q nt
  len := ok.len
  slot := fun i s e => by
    obtain ⟨v, h1, h2⟩ := ok.slot i s e
    refine ⟨v, h1, ?_⟩
    cases s with
    | d x => exact h2
    | l xs =>
      obtain ⟨b, vs, rfl, h3, h4, h5, h6, h7⟩ := h2
      have nb : b ≠ a := fun e => by rw [e, ha] at h5; cases h5
      exact ⟨b, vs, rfl, (upd_ne nb).trans h3, h4, h5, h6, h7⟩
    | v _ => exact h2
    | m j => exact h2
  dist := ok.dist
  mach := by
    obtain ⟨h0, h1, h2, h3⟩ := ok.mach
    refine ⟨h0, fun k u e => ?_, fun b ps e => ?_, h3⟩
    · have e' : (z.m.set n o)[k]? = some u := e
      by_cases q : k = n
      · subst q
        have hl : k < z.m.length := by
          have := (List.getElem?_eq_some_iff.mp e').1
          rw [List.length_set] at this
          exact this
        rw [List.getElem?_set_self hl] at e'
        cases e'
        exact ⟨a, ha, hh⟩
      · rw [List.getElem?_set_ne (Ne.symm q)] at e'
        obtain ⟨b, hb, hu⟩ := h1 k u e'
        have nb : b ≠ a := fun e => by
          rw [e, ha] at hb
          exact q (tag_inj (Option.some.inj hb)).symm
        exact ⟨b, hb, hu.mono (Same.refl _) (upd_ne nb)⟩
    · obtain ⟨k, hk, ek⟩ := h2 b ps e
      exact ⟨k, by show _ < (z.m.set n o).length; rw [List.length_set]; exact hk, ek⟩
  msF := fun a ha => by rw [ok.noms] at ha; cases ha
  msP := fun a ha => by rw [ok.noms] at ha; cases ha
  msH := fun a ha => by rw [ok.noms] at ha; cases ha
  fr := fun b u q => by
    obtain ⟨h1, h2⟩ := ok.fr b u q
    have nb : b ≠ a := fun e => by rw [e, (ok.tg a _ ha).2] at q; cases q
    exact ⟨(upd_ne nb).trans h1, h2⟩
  tg := fun b ps e => by
    refine ⟨?_, (ok.tg b ps e).2⟩
    by_cases q : b = a
    · subst q
      rw [upd_same]; intro y; cases y
    · rw [upd_ne q]; exact (ok.tg b ps e).1
/-- the object that a value is -/
theorem Ok.objAt (ok : Ok MX G σ H F z) {v : V} {n : Nat} {o : MO} (h : Da G.K F v (.o n)) (e : z.m[n]? = some o) : ∃ a, v = .ref a ∧ F a = some (tag n) ∧ Holds G.K F H a o := by
  cases h with
  | o q =>
    obtain ⟨h0, h1, h2, h3⟩ := ok.mach
    obtain ⟨b, hb, hh⟩ := h1 n o e
    rename_i a
    cases h3 a b n q hb
    exact ⟨a, rfl, q, hh⟩
end
/-! ### dicts of the store -/
def keyD : D → Option Key
  | .int i => some (.inl i)
  | .str x => some (.inr x)
  | _ => none
theorem keyD_v {K : PySem.W.Frag} {F H : Hp} {v : V} {d : D} {k : Key} (h : Rv K F H v d) (e : keyD d = some k) : v = kV k := by
  cases d with
  | int i => cases e; exact h.int
  | str x => cases e; exact h.str
  | _ => cases e
section
variable {ι : Type} {xr : Str → Option Value} {K : PySem.W.Frag} {X : ι → Cx} {W : WX} {N : List Str} {mg : Str → Option Value}
def eNewD : Sm MX S := fun z => .ok (.d (.o z.m.length)) { z with m := z.m ++ [.dK []] }
theorem de_newD {pos : Pos} : DE MX xr K X W (.Dict [] [] pos) eNewD := by
  refine ⟨_, fun j => pe_dnewK, fun G σ H F z Q hK hx ok hh => fun p hp => ?_⟩
  exact hh (.ref p) (upd H p (.dK [])) (upd F p (tag z.m.length)) (same_upd (ok.freshF hp)) (ok.alloc hp ⟨[], upd_same, .nil⟩) (Da.o upd_same)
def dictAt (z : Z (List MO)) (s : S) : Option (Nat × List (Key × D)) := match rd z s with
  | some (.o n) => (match z.m[n]? with
    | some (.dK ps) => some (n, ps)
    | _ => none)
  | _ => none
theorem dictAt_rv {G : Gx} {σ : St} {H F : Hp} {z : Z (List MO)} (ok : Ok MX G σ H F z) {v : V} {s : S} {n : Nat} {ps : List (Key × D)} (e : EO G σ F v s) (h : dictAt z s = some (n, ps)) : ∃ a kvs, v = .ref a ∧ F a = some (tag n) ∧ z.m[n]? = some (.dK ps) ∧ H a = some (.dK kvs) ∧ DaK G.K F kvs ps := by
  unfold dictAt at h
  split at h
  · rename_i k er
    split at h
    · rename_i qs em
      cases h
      have r := (EO.rv ok e er).da (fun _ q => by cases q)
      obtain ⟨a, rfl, h1, kvs, h2, h3⟩ := ok.objAt r em
      exact ⟨a, kvs, rfl, h1, em, h2, h3⟩
    · cases h
  · cases h
/-- x.get(k) -/
def eDGet1 (f g : Sm MX S) : Sm MX S := fun z => (opd f z).bind fun s z1 => match dictAt z1 s with
  | some _ => (opd g z1).bind fun s' z2 => (match dictAt z2 s, (rd z2 s').bind keyD with
    | some (_, ps), some k => .ok (.d ((valD ps k).getD .non)) z2
    | _, _ => .bad)
  | none => .bad
theorem getD_da {K : PySem.W.Frag} {F : Hp} {kvs : List (Key × V)} {ps : List (Key × D)} (h : DaK K F kvs ps) (k : Key) {w : V} {x : D} (hw : Da K F w x) : Da K F ((valV kvs k).getD w) ((valD ps k).getD x) := by
  rcases h.val k with ⟨e1, e2⟩ | ⟨v, d, e1, e2, e3⟩
  · rw [e1, e2]; exact hw
  · rw [e1, e2]; exact e3
theorem de_dget1 {o e : Expr} {f g : Sm MX S} {apos cpos : Pos} (p : Pl K X N mg) (ho : DE MX xr K X W o f) (he : DE MX xr K X W e g) (m : ∀ j, L2.M1 (X j) o "get" apos e cpos) : DE MX xr K X W (.Call (.Attribute o "get" apos) [e] [] cpos) (eDGet1 f g) := by
  obtain ⟨t1, p1, c1⟩ := ho
  obtain ⟨t2, p2, c2⟩ := he
  refine ⟨_, fun j => pe_dget1 (by have := p.u j; omega) (p1 j) (p2 j) (m j), fun G σ H F z Q hK hx ok hh => ?_⟩
  refine cmp_opd c1 G σ H F z _ hK hx ok (hit_bind hh fun s z1 v H1 F1 _ sm1 ok1 ev h1 => ?_)
  cases e1 : dictAt z1 s with
  | none => rw [e1] at h1; exact h1.elim
  | some q =>
    obtain ⟨n, ps⟩ := q
    rw [e1] at h1
    obtain ⟨a, kvs, rfl, ha, em, hH, hk⟩ := dictAt_rv ok1 ev e1
    refine ⟨a, rfl, .inl ⟨kvs, .inl hH⟩, ?_⟩
    refine cmp_opd c2 G σ H1 F1 z1 _ hK hx ok1 (hit_bind h1 fun s' z2 v' H2 F2 _ sm2 ok2 ev2 h2 => ?_)
    cases e2 : dictAt z2 s with
    | none => simp only [e2] at h2; exact h2.elim
    | some q =>
      obtain ⟨n', ps'⟩ := q
      cases e3 : (rd z2 s').bind keyD with
      | none => simp only [e2, e3] at h2; exact h2.elim
      | some k =>
        simp only [e2, e3] at h2
        obtain ⟨a', kvs', ea, ha', em', hH', hk'⟩ := dictAt_rv ok2 (EO.mono sm2 ev) e2
        cases ea
        cases er : rd z2 s' with
        | none => rw [er] at e3; cases e3
        | some d =>
          rw [er] at e3
          have hv := keyD_v (EO.rv ok2 ev2 er) e3
          subst hv
          exact ⟨_, DGet.k hH', h2 _ H2 F2 (Same.refl _) ok2 (getD_da hk' k .non)⟩
/-- x.get(k, w) -/
def eDGet2 (f g h : Sm MX S) : Sm MX S := fun z => (opd f z).bind fun s z1 => match dictAt z1 s with
  | some _ => (opd g z1).bind fun s' z2 => (escf h z2).bind fun s'' z3 => (match dictAt z3 s, (rd z3 s').bind keyD, s'' with
    | some (_, ps), some k, .d x => .ok (.d ((valD ps k).getD x)) z3
    | _, _, _ => .bad)
  | none => .bad
theorem de_dget2 {o e e' : Expr} {f g h : Sm MX S} {apos cpos : Pos} (p : Pl K X N mg) (ho : DE MX xr K X W o f) (he : DE MX xr K X W e g) (he' : DE MX xr K X W e' h) (m : ∀ j, L2.M2 (X j) o "get" apos e e' cpos) : DE MX xr K X W (.Call (.Attribute o "get" apos) [e, e'] [] cpos) (eDGet2 f g h) := by
  obtain ⟨t1, p1, c1⟩ := ho
  obtain ⟨t2, p2, c2⟩ := he
  obtain ⟨t3, p3, c3⟩ := he'
  refine ⟨_, fun j => pe_dget2 (by have := p.u j; omega) (p1 j) (p2 j) (p3 j) (m j), fun G σ H F z Q hK hx ok hh => ?_⟩
  refine cmp_opd c1 G σ H F z _ hK hx ok (hit_bind hh fun s z1 v H1 F1 _ sm1 ok1 ev h1 => ?_)
  cases e1 : dictAt z1 s with
  | none => rw [e1] at h1; exact h1.elim
  | some q =>
    obtain ⟨n, ps⟩ := q
    rw [e1] at h1
    obtain ⟨a, kvs, rfl, ha, em, hH, hk⟩ := dictAt_rv ok1 ev e1
    refine ⟨a, rfl, .inl ⟨kvs, .inl hH⟩, ?_⟩
    refine cmp_opd c2 G σ H1 F1 z1 _ hK hx ok1 (hit_bind h1 fun s' z2 v' H2 F2 _ sm2 ok2 ev2 h2 => ?_)
    refine cmp_esc c3 G σ H2 F2 z2 _ hK hx ok2 (hit_bind h2 fun s'' z3 v'' H3 F3 _ sm3 ok3 ev3 h3 => ?_)
    cases e2 : dictAt z3 s with
    | none => simp only [e2] at h3; exact h3.elim
    | some q =>
      obtain ⟨n', ps'⟩ := q
      cases e3 : (rd z3 s').bind keyD with
      | none => simp only [e2, e3] at h3; exact h3.elim
      | some k =>
        cases s'' with
        | d x =>
          simp only [e2, e3] at h3
          obtain ⟨a', kvs', ea, ha', em', hH', hk'⟩ := dictAt_rv ok3 (EO.mono sm3 (EO.mono sm2 ev)) e2
          cases ea
          cases er : rd z3 s' with
          | none => rw [er] at e3; cases e3
          | some d =>
            rw [er] at e3
            have hv := keyD_v (EO.rv ok3 (EO.mono sm3 ev2) er) e3
            subst hv
            exact ⟨_, DGet.k hH', h3 _ H3 F3 (Same.refl _) ok3 (getD_da hk' k ev3)⟩
        | l _ => simp only [e2, e3] at h3; exact h3.elim
        | v _ => simp only [e2, e3] at h3; exact h3.elim
        | m _ => simp only [e2, e3] at h3; exact h3.elim
/-- x[k] = v -/
def sDPutM (fv fd fk : Sm MX S) : Sm MX Out := fun z => (escf fv z).bind fun s z1 => (opd fd z1).bind fun s' z2 => (opd fk z2).bind fun s'' z3 => match s, dictAt z3 s', (rd z3 s'').bind keyD with
  | .d x, some (n, ps), some k => if ps.length < lim then .ok .nx { z3 with m := z3.m.set n (.dK (putD ps k x)) } else .bad
  | _, _, _ => .bad
theorem ds_dput {o i value : Expr} {fv fd fk : Sm MX S} {pos pos' : Pos} (p : Pl K X N mg) (hv : DE MX xr K X W value fv) (ho : DE MX xr K X W o fd) (hi : DE MX xr K X W i fk) (hs : ∀ j, swapsWith value (some (.Subscript o i pos')) pos.line (X j).env = pure false := by intro _; rfl) : DS MX xr K X W (.Assign [.Subscript o i pos'] value pos) (sDPutM fv fd fk) := by
  obtain ⟨t1, p1, c1⟩ := hv
  obtain ⟨t2, p2, c2⟩ := ho
  obtain ⟨t3, p3, c3⟩ := hi
  refine ⟨_, fun j => ps_dput (by have := p.u j; omega) (p2 j) (p3 j) (p1 j) (hs j), fun G σ H F z D hK hx ok hh => ?_⟩
  refine cmp_esc c1 G σ H F z _ hK hx ok (hits_bind hh fun s z1 v H1 F1 _ sm1 ok1 ev h1 => ?_)
  refine cmp_opd c2 G σ H1 F1 z1 _ hK hx ok1 (hits_bind h1 fun s' z2 v' H2 F2 _ sm2 ok2 ev2 h2 => ?_)
  refine cmp_opd c3 G σ H2 F2 z2 _ hK hx ok2 (hits_bind h2 fun s'' z3 v'' H3 F3 _ sm3 ok3 ev3 h3 => ?_)
  cases s with
  | d x =>
    cases e2 : dictAt z3 s' with
    | none => simp only [e2] at h3; exact h3.elim
    | some q =>
      obtain ⟨n, ps⟩ := q
      cases e3 : (rd z3 s'').bind keyD with
      | none => simp only [e2, e3] at h3; exact h3.elim
      | some k =>
        simp only [e2, e3] at h3
        by_cases hl : ps.length < lim
        · rw [if_pos hl] at h3
          obtain ⟨a, kvs, rfl, ha, em, hH, hk⟩ := dictAt_rv ok3 (EO.mono sm3 ev2) e2
          cases er : rd z3 s'' with
          | none => rw [er] at e3; cases e3
          | some d =>
            rw [er] at e3
            have hv := keyD_v (EO.rv ok3 ev3 er) e3
            subst hv
            have dv : Da G.K F3 v x := Da.mono sm3 (Da.mono sm2 ev)
            exact ⟨a, _, rfl, DPut.k hH (by rw [hk.length]; exact Nat.lt_trans hl lim_line), h3 σ _ F3 (Same.refl _) (ok3.putO ha ⟨_, upd_same, hk.put k dv⟩)⟩
        · rw [if_neg hl] at h3; exact h3.elim
  | l _ => exact h3.elim
  | v _ => exact h3.elim
  | m _ => exact h3.elim
/-! ### lists of the store -/
def eNewL (g : Sm MX (List S)) : Sm MX S := fun z => (g z).bind fun ss z1 => match dsOf ss with
  | some ds => if ds.length ≤ lim then .ok (.d (.o z1.m.length)) { z1 with m := z1.m ++ [.lst ds] } else .bad
  | none => .bad
theorem de_newL {es : List Expr} {g : Sm MX (List S)} {pos} (h : DA MX xr K X W es g) : DE MX xr K X W (.List es pos) (eNewL g) := by
  obtain ⟨t, p, c⟩ := h
  refine ⟨_, fun j => pe_lst (p j), fun G σ H F z Q hK hx ok hh => ?_⟩
  refine c G σ H F z _ hK hx ok (hit_bind hh fun ss z1 vs H1 F1 _ sm1 ok1 e1 h1 => ?_)
  cases e : dsOf ss with
  | none => rw [e] at h1; exact h1.elim
  | some ds =>
    rw [e] at h1
    have da := paired_ds e1 e
    by_cases hl : ds.length ≤ lim
    · simp only [if_pos hl] at h1
      refine ⟨by rw [da.length]; exact Nat.le_trans hl (Nat.le_of_lt lim_line), fun p hp => ?_⟩
      exact h1 (.ref p) (upd H1 p (.lst vs)) (upd F1 p (tag z1.m.length)) (same_upd (ok1.freshF hp)) (ok1.alloc hp ⟨vs, upd_same, da.mono (same_upd (ok1.freshF hp))⟩) (Da.o upd_same)
    · simp only [if_neg hl] at h1
      exact h1.elim
def listAt (z : Z (List MO)) (s : S) : Option (Nat × List D) := match rd z s with
  | some (.o n) => (match z.m[n]? with
    | some (.lst xs) => some (n, xs)
    | _ => none)
  | _ => none
theorem listAt_rv {G : Gx} {σ : St} {H F : Hp} {z : Z (List MO)} (ok : Ok MX G σ H F z) {v : V} {s : S} {n : Nat} {xs : List D} (e : EO G σ F v s) (h : listAt z s = some (n, xs)) : ∃ a vs, v = .ref a ∧ F a = some (tag n) ∧ z.m[n]? = some (.lst xs) ∧ H a = some (.lst vs) ∧ DaAll G.K F vs xs := by
  unfold listAt at h
  split at h
  · rename_i k er
    split at h
    · rename_i qs em
      cases h
      have r := (EO.rv ok e er).da (fun _ q => by cases q)
      obtain ⟨a, rfl, h1, vs, h2, h3⟩ := ok.objAt r em
      exact ⟨a, vs, rfl, h1, em, h2, h3⟩
    · cases h
  · cases h
theorem DaAll.at {K : PySem.W.Frag} {F : Hp} {vs : List V} {ds : List D} (h : DaAll K F vs ds) {i : Int} {d : D} (e : atI ds i = some d) : ∃ v, atI vs i = some v ∧ Da K F v d := by
  unfold atI at e ⊢
  rw [h.length]
  cases q : ixN ds.length i with
  | none => rw [q] at e; cases e
  | some j =>
    rw [q] at e
    exact h.get e
/-- x[i] of a list of the store -/
def eIxO (f g : Sm MX S) : Sm MX S := fun z => (opd f z).bind fun s z1 => (opd g z1).bind fun s' z2 => match listAt z2 s, rd z2 s' with
  | some (_, xs), some (.int i) => (match atI xs i with
    | some d => .ok (.d d) z2
    | none => .bad)
  | _, _ => .bad
theorem de_ixO {a b : Expr} {f g : Sm MX S} {pos : Pos} (p : Pl K X N mg) (ha : DE MX xr K X W a f) (hb : DE MX xr K X W b g) (hs : PlainIx b := by exact fun _ _ => rfl) : DE MX xr K X W (.Subscript a b pos) (eIxO f g) := by
  obtain ⟨t1, p1, c1⟩ := ha
  obtain ⟨t2, p2, c2⟩ := hb
  refine ⟨tOp (rIxL K) t1 t2, fun j => by rw [← p.k j]; exact pe_ix ix_list (p1 j) (p2 j) hs, fun G σ H F z Q hK hx ok hh => ?_⟩
  refine cmp_opd c1 G σ H F z _ hK hx ok (hit_bind hh fun s z1 v H1 F1 _ sm1 ok1 ev h1 => ?_)
  refine cmp_opd c2 G σ H1 F1 z1 _ hK hx ok1 (hit_bind h1 fun s' z2 v' H2 F2 _ sm2 ok2 ev2 h2 => ?_)
  cases e2 : listAt z2 s with
  | none => simp only [e2] at h2; exact h2.elim
  | some q =>
    obtain ⟨n, xs⟩ := q
    cases er : rd z2 s' with
    | none => simp only [e2, er] at h2; exact h2.elim
    | some d =>
      cases d with
      | int i =>
        simp only [e2, er] at h2
        cases ea : atI xs i with
        | none => rw [ea] at h2; exact h2.elim
        | some d =>
          rw [ea] at h2
          obtain ⟨a, vs, rfl, ha, em, hH, hd⟩ := listAt_rv ok2 (EO.mono sm2 ev) e2
          have hv := (EO.rv ok2 ev2 er).int
          subst hv
          obtain ⟨w, e3, da⟩ := hd.at ea
          exact ⟨a, vs, i, w, rfl, rfl, SqL.of hH, e3, h2 w H2 F2 (Same.refl _) ok2 da⟩
      | _ => simp only [e2, er] at h2; exact h2.elim
/-- x[i] = v, x a list of the store -/
def sLPutM (fv fd fk : Sm MX S) : Sm MX Out := fun z => (escf fv z).bind fun s z1 => (opd fd z1).bind fun s' z2 => (opd fk z2).bind fun s'' z3 => match s, listAt z3 s', rd z3 s'' with
  | .d x, some (n, xs), some (.int i) => (match ixN xs.length i with
    | some j => .ok .nx { z3 with m := z3.m.set n (.lst (xs.set j x)) }
    | none => .bad)
  | _, _, _ => .bad
theorem ds_lput {o i value : Expr} {fv fd fk : Sm MX S} {pos pos' : Pos} (p : Pl K X N mg) (hv : DE MX xr K X W value fv) (ho : DE MX xr K X W o fd) (hi : DE MX xr K X W i fk)
    (hs : ∀ q, swapsWithSole [.Subscript o i pos'] value pos.line (X q).env = pure false := by intro _; rfl) (hw : ∀ q, swappedStores [.Subscript o i pos'] value (X q).env = pure none := by intro _; rfl)
    (h1 : ∀ q, (assignEach [.Subscript o i pos'] (X q).env).map (·.2) = [assign (.Subscript o i pos') (X q).env] := by intro _; rfl)
    (hg : ∀ q t1 t2, PE (X q) o t1 → PE (X q) i t2 → PG (X q) (.Subscript o i pos') (gSub t1 t2 rSetL) := by exact fun _ _ _ q1 q2 => pg_sub q1 q2 set_list) : DS MX xr K X W (.Assign [.Subscript o i pos'] value pos) (sLPutM fv fd fk) := by
  obtain ⟨t1, p1, c1⟩ := hv
  obtain ⟨t2, p2, c2⟩ := ho
  obtain ⟨t3, p3, c3⟩ := hi
  refine ⟨tAsg t1 (gSub t2 t3 rSetL), fun q => ps_asg (p1 q) (hg q t2 t3 (p2 q) (p3 q)) (hs q) (hw q) (h1 q), fun G σ H F z D hK hx ok hh => ?_⟩
  refine cmp_esc c1 G σ H F z _ hK hx ok (hits_bind hh fun s z1 v H1 F1 _ sm1 ok1 ev h1 => ?_)
  refine cmp_opd c2 G σ H1 F1 z1 _ hK hx ok1 (hits_bind h1 fun s' z2 v' H2 F2 _ sm2 ok2 ev2 h2 => ?_)
  refine cmp_opd c3 G σ H2 F2 z2 _ hK hx ok2 (hits_bind h2 fun s'' z3 v'' H3 F3 _ sm3 ok3 ev3 h3 => ?_)
  cases s with
  | d x =>
    cases e2 : listAt z3 s' with
    | none => simp only [e2] at h3; exact h3.elim
    | some q =>
      obtain ⟨n, xs⟩ := q
      cases er : rd z3 s'' with
      | none => simp only [e2, er] at h3; exact h3.elim
      | some d =>
        cases d with
        | int i =>
          simp only [e2, er] at h3
          cases ej : ixN xs.length i with
          | none => rw [ej] at h3; exact h3.elim
          | some j =>
            rw [ej] at h3
            obtain ⟨a, vs, rfl, ha, em, hH, hd⟩ := listAt_rv ok3 (EO.mono sm3 ev2) e2
            have hv := (EO.rv ok3 ev3 er).int
            subst hv
            have dv : Da G.K F3 v x := Da.mono sm3 (Da.mono sm2 ev)
            exact ⟨a, vs, i, j, rfl, rfl, hH, by rw [hd.length]; exact ej, h3 σ _ F3 (Same.refl _) (ok3.putO ha ⟨_, upd_same, DaAll.set dv j hd⟩)⟩
        | _ => simp only [e2, er] at h3; exact h3.elim
  | l _ => exact h3.elim
  | v _ => exact h3.elim
  | m _ => exact h3.elim
end
end G
/-! zip of two lists, a slot's own list changed at a place, a list times a number -/
namespace G
open PySem L2
section
variable {ι : Type} {M : MI} {xr : Str → Option Value} {K : PySem.W.Frag} {X : ι → Cx} {W : WX} {N : List Str} {mg : Str → Option Value}
def zipD : List D → List D → List D
  | x :: r, y :: q => .tup [x, y] :: zipD r q
  | _, _ => []
theorem zipD_len : ∀ xs ys, (zipD xs ys).length = min xs.length ys.length
  | [], ys => by simp [zipD]
  | x :: r, [] => by simp [zipD]
  | x :: r, y :: q => by simp [zipD, zipD_len r q]
theorem zipD_at : ∀ {xs ys : List D} {i : Nat} {x y : D}, xs[i]? = some x → ys[i]? = some y → (zipD xs ys)[i]? = some (.tup [x, y])
  | [], _, i, x, y, h, _ => by simp at h
  | x' :: r, [], i, x, y, _, h => by simp at h
  | x' :: r, y' :: q, 0, x, y, h1, h2 => by simp at h1 h2; subst h1 h2; rfl
  | x' :: r, y' :: q, i + 1, x, y, h1, h2 => by
    rw [List.getElem?_cons_succ] at h1 h2
    rw [zipD, List.getElem?_cons_succ]
    exact zipD_at h1 h2
theorem yd_zip {F H H' : Hp} {vs ws : List V} {ds es : List D} {i : Nat} {v x y : V} {T : Addr} (r : DaAll K F vs ds) (r2 : DaAll K F ws es) (hi : vs[i]? = some x) (hj : ws[i]? = some y) (e1 : v = .ref T) (e2 : H T = none) (e3 : H' = upd H T (.tup [x, y])) : YD K F (zipD ds es) i H v H' := by
  subst e1 e3
  obtain ⟨d, hd, da⟩ := r.getV hi
  obtain ⟨d2, hd2, da2⟩ := r2.getV hj
  refine ⟨_, zipD_at hd hd2, fun F1 s1 s2 st => ⟨upd F1 T (.tup [x, y]), same_upd (freeX s2 st e2), same_upd2 s2, fun b o e => ?_, fun a ps e => (tgk_newF (o := .tup [x, y]) (H := H) (u := .tup []) (freeX s2 st e2) tupNT a ps e).1, .tup (SqT.of upd_same) (.cons ((da.mono s1).mono (same_upd (freeX s2 st e2))) (.cons ((da2.mono s1).mono (same_upd (freeX s2 st e2))) .nil))⟩⟩
  have nb := ne_of_none e e2
  exact ⟨by rw [upd_ne nb]; exact e, upd_ne nb⟩
def iZipM (g : Sm M (List S)) : Sm M (List D) := fun z => (g z).bind fun ss z1 => match ss with
  | [.d (.lst xs), .d (.lst ys)] => .ok (zipD xs ys) z1
  | _ => .bad
theorem di_zip {elts : List Expr} {kk : Nat} {tpos pp pos : Pos} {e e2 : Expr} {g : Sm M (List S)} (p : Pl K X N mg) (hm : mg "zip" = none) (h : DA M xr K X W [e, e2] g) (hg : ∀ j, Gl (X j) "zip" := by intro _; rfl) (hs : ∀ j, starEach [e, e2] (X j).env = (false, eval e (X j).env) :: starEach [e2] (X j).env := by intro _; rfl) (hpl : ∀ j, (backTo pos (starEach [e2] (X j).env)).any (·.1) = false := by intro _; rfl) :
    DI M xr K X W (.Tuple elts kk tpos) (.Call (.Name "zip" pp) [e, e2] [] pos) (iZipM g) := by
  obtain ⟨t, pa, c⟩ := h
  refine ⟨RZ.iZipA K t, fun j => by rw [← p.k j]; exact RZ.pi_zipA (hg j) (by rw [p.g j]; exact hm) (pa j) (hs j) (hpl j), fun G σ H F z Q hK hx ok hh => ?_⟩
  refine c G σ H F z _ hK hx ok (hit_bind hh fun ss z1 vs H1 F1 _ sm ok1 ea h1 => ?_)
  subst hK
  unfold RelA at ea
  split at h1
  · cases ea with
    | cons a0 b0 =>
      cases b0 with
      | cons b1 c0 =>
        cases c0
        rename_i xs ys eg va vb
        have a' : Da G.K F1 va (.lst xs) := a0
        have b' : Da G.K F1 vb (.lst ys) := b1
        clear a0 b1
        cases a' with
        | lst q r =>
          cases b' with
          | lst q2 r2 =>
            rename_i a vs b ws
            refine ⟨a, b, vs, ws, rfl, .inl ⟨SqL.of (ok1.sub.lst q), SqL.of (ok1.sub.lst q2), h1 _ H1 F1 (Same.refl _) ok1 ?_⟩⟩
            have wk := (walk_zip (K := G.K) (a := a) (b := b) (xs := vs) (ys := ws) rfl).mono (G' := fun H => SameX F1 H) (Y' := YD G.K F1 (zipD xs ys)) (fun H s => ⟨SqL.of (s.lst q), SqL.of (s.lst q2)⟩) (fun i H x H' hi _ ⟨T, x1, y1, e1, e2, e3, e4, e5⟩ => yd_zip r r2 e4 e5 e1 e2 e3)
            rw [r.length, r2.length, ← zipD_len] at wk
            exact wk
  · exact h1.elim
/-- x[k] = v, x a slot's own list -/
def sLSet (i : Nat) (fv fk : Sm M S) : Sm M Out := fun z => (escf fv z).bind fun s z1 => if (ownAt z1 i).isSome = true then (opd fk z1).bind fun s' z2 => match s, z2.rho[i]?, rd z2 s' with
  | .d x, some (some (.l xs)), some (.int k) => (match ixN xs.length k with
    | some j => .ok .nx { z2 with rho := z2.rho.set i (some (.l (xs.set j x))) }
    | none => .bad)
  | _, _, _ => .bad
  else .bad
theorem ds_lset (n : Nat) {x : Str} {i value : Expr} {fv fk : Sm M S} {p1 pos pos' : Pos} (p : Pl K X N mg) (hv : DE M xr K X W value fv) (hi : DE M xr K X W i fk) (hN : ∀ j, (X j).N[n]? = some x := by intro _; rfl) (hvi : ∀ j, Vis (X j).env.scope x := by first | exact fun _ => Or.inl rfl | exact fun _ => Or.inr (Or.inl rfl) | exact fun _ => Or.inr (Or.inr rfl)) (hd : (x == ("__debug__" : Str)) = false := by decide)
    (hcd : (x == ("__classdict__" : Str)) = false := by decide)
    (hs : ∀ q, swapsWithSole [.Subscript (.Name x p1) i pos'] value pos.line (X q).env = pure false := by intro _; rfl) (hw : ∀ q, swappedStores [.Subscript (.Name x p1) i pos'] value (X q).env = pure none := by intro _; rfl)
    (h1 : ∀ q, (assignEach [.Subscript (.Name x p1) i pos'] (X q).env).map (·.2) = [assign (.Subscript (.Name x p1) i pos') (X q).env] := by intro _; rfl)
    (hg : ∀ q t1 t2, PE (X q) (.Name x p1) t1 → PE (X q) i t2 → PG (X q) (.Subscript (.Name x p1) i pos') (gSub t1 t2 rSetL) := by exact fun _ _ _ q1 q2 => pg_sub q1 q2 set_list) : DS M xr K X W (.Assign [.Subscript (.Name x p1) i pos'] value pos) (sLSet n fv fk) := by
  obtain ⟨t1, e1, c1⟩ := hv
  obtain ⟨t3, e3, c3⟩ := hi
  refine ⟨tAsg t1 (gSub (tVar n) t3 rSetL), fun q => ps_asg (e1 q) (hg q _ t3 (pe_var (hN q) (hvi q) hd hcd) (e3 q)) (hs q) (hw q) (h1 q), fun G σ H F z D hK hx ok hh => ?_⟩
  refine cmp_esc c1 G σ H F z _ hK hx ok (hits_bind hh fun s z1 v H1 F1 _ sm1 ok1 ev h1 => ?_)
  by_cases ho : (ownAt z1 n).isSome = true
  · rw [if_pos ho] at h1
    obtain ⟨w, hw⟩ : ∃ w, σ[n]? = some (some w) := by
      cases q : ownAt z1 n with
      | none => rw [q] at ho; cases ho
      | some xs =>
        obtain ⟨w, e, _⟩ := ok1.slot n _ (ownAt_some q)
        exact ⟨w, e⟩
    refine ⟨w, hw, ?_⟩
    refine cmp_opd c3 G σ H1 F1 z1 _ hK hx ok1 (hits_bind h1 fun s' z2 v' H2 F2 _ sm2 ok2 ev2 h2 => ?_)
    cases s with
    | d x =>
      cases es : z2.rho[n]? with
      | none => simp only [es] at h2; exact h2.elim
      | some o =>
        match o, es, h2 with
        | some (.l xs), es, h2 =>
          cases er : rd z2 s' with
          | none => simp only [es, er] at h2; exact h2.elim
          | some d =>
            cases d with
            | int k =>
              simp only [es, er] at h2
              cases ej : ixN xs.length k with
              | none => rw [ej] at h2; exact h2.elim
              | some j =>
                rw [ej] at h2
                obtain ⟨w', e, a, vs, rfl, q1, q2, q3, q4, q5⟩ := ok2.slot n _ es
                rw [hw] at e
                cases e
                have hv := (EO.rv ok2 ev2 er).int
                subst hv
                have dv : Da G.K F2 v x := Da.mono sm2 ev
                exact ⟨a, vs, k, j, rfl, rfl, q1, by rw [q2.length]; exact ej, h2 σ _ F2 (Same.refl _) (ok2.setL es hw (DaAll.set dv j q2))⟩
            | _ => simp only [es, er] at h2; exact h2.elim
        | none, es, h2 => simp only [es] at h2; exact h2.elim
        | some (.d _), es, h2 => simp only [es] at h2; exact h2.elim
        | some (.v _), es, h2 => simp only [es] at h2; exact h2.elim
        | some (.m _), es, h2 => simp only [es] at h2; exact h2.elim
    | l _ => exact h2.elim
    | v _ => exact h2.elim
    | m _ => exact h2.elim
  · rw [if_neg ho] at h1; exact h1.elim
/-- [..] * k -/
def dRep : D → D → Option R := fun a b => match a, b with
  | .lst xs, .int k => if xs.length * k.toNat ≤ lim ∧ -(2 ^ 62) ≤ k ∧ k < 2 ^ 62 then some (.l (List.replicate k.toNat xs).flatten) else none
  | _, _ => none
theorem DaAll.rep {F : Hp} {vs : List V} {ds : List D} (h : DaAll K F vs ds) : ∀ n : Nat, DaAll K F (List.replicate n vs).flatten (List.replicate n ds).flatten
  | 0 => .nil
  | n + 1 => by
    rw [List.replicate_succ, List.replicate_succ, List.flatten_cons, List.flatten_cons]
    exact h.append (DaAll.rep h n)
theorem op2_rep : Op2 K rRep dRep := by
  intro F H x y a b Q s ha hb h
  unfold dRep at h
  split at h
  · rename_i xs k
    obtain ⟨l, vs, rfl, h1, h2⟩ := ha.lst s
    have hv := hb.int
    subst hv
    split at h
    · rename_i hc
      exact ⟨l, k, vs, rfl, rfl, h1, by omega, by omega, by rw [h2.length]; exact Nat.le_trans hc.1 (Nat.le_of_lt lim_line), fun p hp => h p _ hp (h2.rep _)⟩
    · exact h.elim
  · exact h.elim
theorem de_rep {a b : Expr} {f f' : Sm M S} {pos : Pos} (ha : DE M xr K X W a f) (hb : DE M xr K X W b f') : DE M xr K X W (.BinOp a .Mult b pos) (eBin dRep f f') := de_bin (fun j => op_rep) op2_rep ha hb
end
end G
/-! The law runs over an empty store. -/
namespace G
open PySem L2
section
variable {ι : Type} {M : MI} {xr : Str → Option Value} {K : PySem.W.Frag} {X : ι → Cx} {W : WX} {N : List Str} {mg : Str → Option Value}
/-- x or y, as a value -/
def eOrV (f g : Sm M S) : Sm M S := fun z => (escf f z).bind fun s z1 => match s with
  | .d x => (match dTru x with
    | some true => .ok (.d x) z1
    | some false => g z1
    | none => .bad)
  | _ => .bad
theorem de_orV {a b : Expr} {rest : List Expr} {f g : Sm M S} {pos : Pos} (p : Pl K X N mg) (ha : DE M xr K X W a f) (hb : DE M xr K X W (.BoolOp .Or (b :: rest) pos) g) : DE M xr K X W (.BoolOp .Or (a :: b :: rest) pos) (eOrV f g) := by
  obtain ⟨t1, p1, c1⟩ := ha
  obtain ⟨t2, p2, c2⟩ := hb
  refine ⟨tOrT K t1 t2, fun j => by rw [← p.k j]; exact pe_orT (p1 j) (p2 j), fun G σ H F z Q hK hx ok hh => ?_⟩
  refine cmp_esc c1 G σ H F z _ hK hx ok (hit_bind hh fun s z1 v H1 F1 _ sm1 ok1 ev h1 => ?_)
  cases s with
  | d x =>
    cases ek : dTru x with
    | none => simp only [ek] at h1; exact h1.elim
    | some k =>
      refine ⟨k, by rw [← hK]; exact tru_rv ok1.sub (.inl ev) ek, ?_⟩
      cases k with
      | true => simp only [ek] at h1; exact h1 v H1 F1 (Same.refl _) ok1 ev
      | false => simp only [ek] at h1; exact c2 G σ H1 F1 z1 Q hK hx ok1 h1
  | l _ => exact h1.elim
  | v _ => exact h1.elim
  | m _ => exact h1.elim
end
def zX (n : Nat) (ns : List Int) : Z (List MO) := { rho := some (.d (.scr ns)) :: List.replicate n none, m := [] }
theorem law_runX {K : PySem.W.Frag} {xr : Str → Option Value} {E : XK} {N : List Str} {t : TS} {f : Sm MX Out} {vs : List V} {H : Hp} {Q : VK} (hN : 1 ≤ N.length)
    (hf : ∀ ns : List Int, ns.length ≤ 63 → (∀ z ∈ ns, Builtin.Int.intBits z ≤ 1048576) → ∃ z', f (zX (N.length - 1) ns) = .ok (.rt (.d (.bl true))) z')
    (c : SR MX K xr (fun cls d _ H => E cls d H) t f) (h : spLaw K vs H Q E) : t { nx := fun _ H' => Q .non H', rt := Q } (L2.start N vs) H := by
  obtain ⟨a, ns, rfl, hs, hl, hbits, hq⟩ := h
  obtain ⟨z', e1⟩ := hf ns hl hbits
  have st : L2.start N [.ref a] = some (.ref a) :: List.replicate (N.length - 1) none := rfl
  rw [st]
  let F : Hp := fun b => if b = a then noT H a else none
  have Fo : ∀ b o, F b = some o → b = a ∧ noT H a = some o := fun b o q => by
    have q' : (if b = a then noT H a else none) = some o := q
    by_cases e : b = a
    · rw [if_pos e] at q'; exact ⟨e, q'⟩
    · rw [if_neg e] at q'; cases q'
  have noTag : ∀ b ps, F b ≠ some (.tbl ps) := fun b ps q => (noT_of (Fo b _ q).2).2 ps rfl
  have sF : SameX F H := fun b o q _ => by
    obtain ⟨rfl, q2⟩ := Fo b o q
    exact (noT_of q2).1
  have hsF : SqL K F a (ns.map V.int) := by
    have Fa : ∀ o, H a = some o → (∀ ps, o ≠ .tbl ps) → F a = some o := fun o q n => by
      show (if a = a then noT H a else none) = some o
      rw [if_pos rfl]
      exact noT_at q n
    rcases hs with (q | ⟨o, q⟩) | q
    · exact .inl (.inl (Fa _ q lstNT))
    · exact .inl (.inr ⟨o, Fa _ q (fun _ e => by cases e)⟩)
    · exact .inr q
  have key : ∀ (k : Nat) (s : S), (zX (N.length - 1) ns).rho[k]? = some (some s) → k = 0 ∧ s = .d (.scr ns) := fun k s e => by
    have e' : (some (S.d (.scr ns)) :: List.replicate (N.length - 1) none)[k]? = some (some s) := e
    match k, e' with
    | 0, e' => cases e'; exact ⟨rfl, rfl⟩
    | k + 1, e' =>
      rw [List.getElem?_cons_succ, List.getElem?_replicate] at e'
      split at e' <;> cases e'
  refine c ⟨K, xr, [], fun _ => none, F⟩ _ H F (zX (N.length - 1) ns) _ rfl rfl ⟨sF, by simp [zX], fun k s e => ?_, fun k j xs ys v q1 _ _ _ => ?_, ⟨rfl, fun n o e => ?_, fun b ps e => (noTag b ps e).elim, fun b b' n e => (noTag b _ e).elim⟩, (fun b hb => by cases hb), (fun b hb => by cases hb), (fun b hb => by cases hb), (fun b o q => by cases q), fun b ps e => (noTag b ps e).elim⟩ ?_
  · obtain ⟨rfl, rfl⟩ := key k s e
    exact ⟨_, rfl, Da.scr hsF⟩
  · obtain ⟨_, q⟩ := key k _ q1
    cases q
  · have e' : ([] : List MO)[n]? = some o := e
    simp at e'
  · rw [e1]
    intro v H2 F2 s2 r
    have hv : v = .bl true := by
      have := r.val
      cases (show Da K F2 v (.bl true) from this)
      rfl
    rw [hv]
    exact hq H2
end G
namespace G
open PySem L2
/-! ### texts of data: they are texts, and not too long -/
theorem okS_litN (s : String) : okS (Str.ofString s) := by
  intro c hc
  have e : (Str.ofString s).cps.toList = s.toList.map Char.toNat := by
    show (cpsOfBytes 0 0 s.toByteArray.data.toList).toArray.toList = _
    rw [List.toList_toArray, cpsOfBytes_string]
  rw [e] at hc
  obtain ⟨d, _, rfl⟩ := List.mem_map.mp hc
  have h := d.valid
  have e2 : d.toNat = d.val.toNat := rfl
  rw [e2]
  rcases h with h | ⟨_, h⟩
  · have : d.val.toNat < 0xd800 := h
    omega
  · exact h
theorem okS_toN {x : Str} (h : okS x) : PyData.strOk x = true := by
  unfold PyData.strOk
  rw [Array.all_eq_true_iff_forall_mem]
  intro c hc
  have := h c (by simpa using hc)
  simpa using this
theorem charN (d : Char) : d.toNat < 0x110000 := by
  have h := d.valid
  have e2 : d.toNat = d.val.toNat := rfl
  rw [e2]
  rcases h with h | ⟨_, h⟩
  · have : d.val.toNat < 0xd800 := h
    omega
  · exact h
theorem hexN (w c : Nat) : ∀ x ∈ List.replicate (w - ((Nat.toDigits 16 c).map Char.toNat).length) 48 ++ (Nat.toDigits 16 c).map Char.toNat, x < 0x110000 := by
  intro x hx
  rcases List.mem_append.mp hx with h | h
  · rw [List.mem_replicate] at h; omega
  · obtain ⟨d, _, rfl⟩ := List.mem_map.mp h
    exact charN d
theorem reprChar_ok (q c : Nat) (hc : c < 0x110000) : ∀ x ∈ Builtin.Str.reprChar q c, x < 0x110000 := by
  intro x hx
  unfold Builtin.Str.reprChar at hx
  simp only [] at hx
  have two : ∀ {a b : Nat}, a < 0x110000 → b < 0x110000 → x ∈ [a, b] → x < 0x110000 := fun ha hb h => by
    rcases List.mem_cons.mp h with rfl | h
    · exact ha
    · rcases List.mem_cons.mp h with rfl | h
      · exact hb
      · cases h
  split at hx
  · exact two (by omega) hc hx
  split at hx
  · exact two (by omega) (by omega) hx
  split at hx
  · exact two (by omega) (by omega) hx
  split at hx
  · exact two (by omega) (by omega) hx
  split at hx
  · rcases List.mem_singleton.mp hx with rfl; exact hc
  split at hx
  · rcases List.mem_append.mp hx with h | h
    · exact two (by omega) (by omega) h
    · exact hexN _ _ x h
  split at hx
  · rcases List.mem_append.mp hx with h | h
    · exact two (by omega) (by omega) h
    · exact hexN _ _ x h
  · rcases List.mem_append.mp hx with h | h
    · exact two (by omega) (by omega) h
    · exact hexN _ _ x h
theorem fold_ok (q : Nat) : ∀ (l : List Nat) (acc : Array Nat), (∀ c ∈ l, c < 0x110000) → (∀ c ∈ acc.toList, c < 0x110000) → ∀ c ∈ (l.foldl (fun out c => out ++ (Builtin.Str.reprChar q c).toArray) acc).toList, c < 0x110000
  | [], acc, _, h => by simpa using h
  | c :: r, acc, h1, h2 => by
    rw [List.foldl_cons]
    refine fold_ok q r _ (fun x hx => h1 x (List.mem_cons_of_mem _ hx)) fun x hx => ?_
    rw [Array.toList_append] at hx
    rcases List.mem_append.mp hx with h | h
    · exact h2 x h
    · exact reprChar_ok q c (h1 c List.mem_cons_self) x (by simpa using h)
theorem reprQuote_ok (x : Str) : reprQuote x < 0x110000 := by
  unfold reprQuote
  split <;> omega
theorem reprText_ok {x : Str} (h : okS x) : okS (reprText x) := by
  intro c hc
  unfold reprText at hc
  simp only [Array.toList_push] at hc
  rcases List.mem_append.mp hc with h1 | h1
  · rw [← Array.foldl_toList] at h1
    exact fold_ok _ x.cps.toList _ h (fun c hc => by rcases List.mem_singleton.mp hc with rfl; exact reprQuote_ok x) c h1
  · rcases List.mem_singleton.mp h1 with rfl
    exact reprQuote_ok x
theorem okS_joinN : ∀ ts : List Str, (∀ t ∈ ts, okS t) → okS (Str.join ", " ts)
  | [], _ => okS_litN ""
  | [x], h => h x List.mem_cons_self
  | x :: y :: r, h => by
    have ih := okS_joinN (y :: r) (fun t ht => h t (List.mem_cons_of_mem _ ht))
    show okS (x ++ Str.ofString ", " ++ Str.join ", " (y :: r))
    exact okS_app (okS_app (h x List.mem_cons_self) (okS_litN _)) ih
theorem okS_tupN (ts : List Str) (h : ∀ t ∈ ts, okS t) : okS (tupleText ts) := by
  unfold tupleText
  exact okS_app (okS_app (okS_litN _) (okS_joinN ts h)) (okS_litN _)
theorem okS_from : ∀ (ts : List Str) (k : Nat) (acc : Str), okS acc → (∀ t ∈ ts, okS t) → okS (textFrom k acc ts)
  | [], k, acc, h, _ => h
  | t :: r, k, acc, h, h2 => okS_from r (k + 1) _ (okS_app (okS_app h (okS_litN _)) (h2 t List.mem_cons_self)) (fun x hx => h2 x (List.mem_cons_of_mem _ hx))
theorem okS_lstN (ts : List Str) (h : ∀ t ∈ ts, okS t) : okS (listText ts) := by
  show okS (textFrom 0 "[" ts ++ "]")
  exact okS_app (okS_from ts 0 _ (okS_litN _) h) (okS_litN _)
mutual
theorem shown_ok : ∀ d : PyData, d.canLay0 = true → okS d.shown
  | .none, _ => by rw [PyData.shown]; exact okS_litN _
  | .bool b, _ => by rw [PyData.shown]; cases b <;> exact okS_litN _
  | .int i, _ => by rw [PyData.shown]; exact okS_litN _
  | .str x, h => by rw [PyData.shown]; exact reprText_ok (okS_of (by simpa [PyData.canLay0] using h))
  | .list xs, h => by rw [PyData.shown]; exact okS_lstN _ (shown_oks xs (by simpa [PyData.canLay0] using h))
  | .tuple xs, h => by rw [PyData.shown]; exact okS_tupN _ (shown_oks xs (by simpa [PyData.canLay0] using h))
  | .dict _, h => by simp [PyData.canLay0] at h
theorem shown_oks : ∀ ds : List PyData, PyData.canLayAll0 ds = true → ∀ t ∈ PyData.shownAll ds, okS t
  | [], _ => by intro t ht; rw [PyData.shownAll] at ht; cases ht
  | d :: r, h => by
    rw [PyData.canLayAll0, Bool.and_eq_true] at h
    intro t ht
    rw [PyData.shownAll] at ht
    rcases List.mem_cons.mp ht with rfl | ht
    · exact shown_ok d h.1
    · exact shown_oks r h.2 t ht
end
theorem shw_ok {d : D} (h : lay d = true) : okS (shw d) := shown_ok (toPy d) (by rw [canLay_toPy]; exact h)

mutual
def ib : D → Bool
  | .int i => decide (i.natAbs < 1000000000000)
  | .tup xs => ibs xs
  | .lst xs => ibs xs
  | .scr ns => ns.all fun i => decide (i.natAbs < 1000000000000)
  | _ => true
def ibs : List D → Bool
  | [] => true
  | x :: r => ib x && ibs r
end
def wtN (d : D) : Nat := (toPy d).weight
theorem int_ib {i : Int} (h : i.natAbs < 1000000000000) : i.natAbs.log2 < 1920 ∧ (PyData.shown (.int i)).length ≤ 13 := by
  have b := PyData.shown_int_le (i := i) (by have : (10 : Nat) ^ 12 = 1000000000000 := by decide
                                             omega)
  refine ⟨?_, b⟩
  rcases Nat.eq_zero_or_pos i.natAbs with e | e
  · rw [e]; decide
  · have : i.natAbs.log2 < 40 := (Nat.log2_lt (by omega)).mpr (by show i.natAbs < 1099511627776; omega)
    omega
theorem scr_ib : ∀ ns : List Int, (ns.all fun i => decide (i.natAbs < 1000000000000)) = true → PyData.showableAll (ns.map fun i => .int i) = true ∧ PyData.intsShortAll 13 (ns.map fun i => .int i) = true
  | [], _ => ⟨rfl, rfl⟩
  | i :: r, h => by
    rw [List.all_cons, Bool.and_eq_true] at h
    have a := scr_ib r h.2
    have b := int_ib (of_decide_eq_true h.1)
    rw [List.map_cons, PyData.showableAll, PyData.intsShortAll, a.1, a.2, PyData.showable, PyData.intsShort, decide_eq_true b.1, decide_eq_true b.2]
    exact ⟨rfl, rfl⟩
mutual
theorem ib_sh : ∀ d : D, ib d = true → (toPy d).showable = true ∧ (toPy d).intsShort 13 = true
  | .non, _ => by simp [toPy, PyData.showable, PyData.intsShort]
  | .bl b, _ => by simp [toPy, PyData.showable, PyData.intsShort]
  | .int i, h => by
    have b := int_ib (of_decide_eq_true (by rw [ib] at h; exact h))
    rw [toPy, PyData.showable, PyData.intsShort, decide_eq_true b.1, decide_eq_true b.2]
    exact ⟨rfl, rfl⟩
  | .str x, _ => by simp [toPy, PyData.showable, PyData.intsShort]
  | .tup xs, h => by rw [ib] at h; have := ibs_sh xs h; rw [toPy, PyData.showable, PyData.intsShort]; exact this
  | .lst xs, h => by rw [ib] at h; have := ibs_sh xs h; rw [toPy, PyData.showable, PyData.intsShort]; exact this
  | .scr ns, h => by rw [ib] at h; have := scr_ib ns h; rw [toPy, PyData.showable, PyData.intsShort]; exact this
  | .emp, _ => by simp [toPy, PyData.showable, PyData.intsShort]
  | .exc _ _, _ => by simp [toPy, PyData.showable, PyData.intsShort]
  | .o _, _ => by simp [toPy, PyData.showable, PyData.intsShort]
theorem ibs_sh : ∀ ds : List D, ibs ds = true → PyData.showableAll (toPys ds) = true ∧ PyData.intsShortAll 13 (toPys ds) = true
  | [], _ => by rw [toPys]; exact ⟨rfl, rfl⟩
  | d :: r, h => by
    rw [ibs, Bool.and_eq_true] at h
    have a := ib_sh d h.1
    have b := ibs_sh r h.2
    rw [toPys, PyData.showableAll, PyData.intsShortAll, a.1, a.2, b.1, b.2]
    exact ⟨rfl, rfl⟩
end
theorem showOk_of {d : D} (h1 : lay d = true) (h2 : ib d = true) (h3 : dep d ≤ 290) (h4 : wtN d ≤ 900000) : showOk d = true := by
  have s := ib_sh d h2
  have ln := PyData.shown_le 13 (by decide) (toPy d) (PyData.leavesShort_of_canLay0 13 _ (by rw [canLay_toPy]; exact h1) s.2)
  have e : (toPy d).weight = wtN d := rfl
  rw [e] at ln
  have hl : (shw d).length ≤ 15000000 := by
    show (toPy d).shown.length ≤ 15000000
    omega
  unfold showOk
  rw [h1, s.1, decide_eq_true h3, decide_eq_true hl]
  rfl
theorem reprT_of {xs : List D} (h1 : lays xs = true) (h2 : ibs xs = true) (h3 : deps xs ≤ 289) (h4 : wtN (.tup xs) ≤ 900000) : fRepr [.tup xs] = some (.d (.str (shw (.tup xs)))) ∧ PyData.strOk (shw (.tup xs)) = true := by
  have l : lay (.tup xs) = true := by rw [lay]; exact h1
  have ok := showOk_of (d := .tup xs) l (by rw [ib]; exact h2) (by rw [dep]; omega) h4
  refine ⟨?_, okS_toN (shw_ok l)⟩
  unfold fRepr
  exact if_pos ok
def wtsN (ds : List D) : Nat := PyData.weightAll (toPys ds)
theorem wtN_tup (ds : List D) : wtN (.tup ds) = wtsN ds := by unfold wtN wtsN; rw [toPy, PyData.weight]
theorem wtsN_nil : wtsN [] = 0 := by unfold wtsN; rw [toPys, PyData.weightAll]
theorem wtsN_cons (d : D) (r : List D) : wtsN (d :: r) = wtN d + 1 + wtsN r := by unfold wtsN wtN; rw [toPys, PyData.weightAll]
theorem wtN_str (s : Str) : wtN (.str s) = s.cps.size := by unfold wtN; rw [toPy, PyData.weight]
theorem wtN_non : wtN .non ≤ 1 := by unfold wtN; rw [toPy, PyData.weight]; omega
end G
namespace G
open PySem L2
/-! ### comprehensions with any targets -/
theorem lc_mapK {M : MI} {kk : D → Z M.T → Option (Z M.T)} {e : Sm M S} {vs : List Nat} {α : Type} (en : α → D) {g : α → D} {z : Z M.T} : ∀ (ts : List α) (acc : List D), acc.length + ts.length ≤ lim →
    (∀ t ∈ ts, ∃ z1 z2, kk (en t) z = some z1 ∧ escf e z1 = .ok (.d (g t)) z2 ∧ wipeZ z2 vs = z) → lcL kk (fun z => .ok true z) e vs (ts.map en) acc z = .ok (acc ++ ts.map g) z
  | [], acc, _, _ => by simp [lcL]
  | d :: r, acc, hl, h => by
    obtain ⟨z1, z2, h0, h1, h2⟩ := h d List.mem_cons_self
    rw [List.length_cons] at hl
    rw [List.map_cons]
    unfold lcL
    simp only [h0, nox, Rs.bind_ok, if_true, h1]
    rw [if_pos (by omega), h2, lc_mapK en r (acc ++ [g d]) (by rw [List.length_append, List.length_singleton]; omega) (fun d hd => h d (List.mem_cons_of_mem _ hd))]
    simp
theorem elc_mapK {M : MI} {its : Sm M (List D)} {kk : D → Z M.T → Option (Z M.T)} {e : Sm M S} {vs : List Nat} {α : Type} (en : α → D) {g : α → D} {ts : List α} {z z0 : Z M.T} (h0 : its z0 = .ok (ts.map en) z) (hn : noOwn z.rho vs = true) (hw : wipeZ z vs = z) (hr : restR z.rho z.rho vs = z.rho) (hl : ts.length ≤ lim)
    (h : ∀ t ∈ ts, ∃ z1 z2, kk (en t) z = some z1 ∧ escf e z1 = .ok (.d (g t)) z2 ∧ wipeZ z2 vs = z) : eLc its kk (fun z => .ok true z) e vs z0 = .ok (.l (ts.map g)) z := by
  unfold eLc
  rw [h0, Rs.bind_ok, if_pos hn, hw, lc_mapK en ts [] (by rw [List.length_nil]; omega) h, Rs.bind_ok, hr]
  rfl
end G
namespace G
open PySem L2 PySem.Spec PyProof.Rows
/-! ### attributes -/
def putFD (f : Str) (d : D) : List (Str × D) → List (Str × D)
  | [] => [(f, d)]
  | (g, x) :: r => if g = f then (g, d) :: r else (g, x) :: putFD f d r
theorem DaF.put {K : PySem.W.Frag} {F : Hp} (f : Str) {v : V} {d : D} (hv : Da K F v d) : ∀ {a b}, DaF K F a b → DaF K F (putF f v a) (putFD f d b)
  | _, _, .nil => .cons hv .nil
  | _, _, .cons (k := k) q r => by
    unfold putF putFD
    by_cases e : k = f
    · rw [if_pos e, if_pos e]; exact .cons hv r
    · rw [if_neg e, if_neg e]; exact .cons q (DaF.put f hv r)
theorem DaF.length {K : PySem.W.Frag} {F : Hp} : ∀ {a b}, DaF K F a b → a.length = b.length
  | _, _, .nil => rfl
  | _, _, .cons _ r => congrArg (· + 1) (DaF.length r)
theorem DaF.look {K : PySem.W.Frag} {F : Hp} (f : Str) : ∀ {a b}, DaF K F a b → (b.lookup f = none ∧ a.lookup f = none) ∨ ∃ v d, b.lookup f = some d ∧ a.lookup f = some v ∧ Da K F v d
  | _, _, .nil => .inl ⟨rfl, rfl⟩
  | _, _, .cons (k := k) q r => by
    rw [List.lookup_cons, List.lookup_cons]
    cases (f == k) with
    | true => exact .inr ⟨_, _, rfl, rfl, q⟩
    | false => exact DaF.look f r
/-- what of the text a class must have -/
structure ClF (K : PySem.W.Frag) (c : Str) (C : Addr) : Prop where
  at_ : xrK K c = some (.ref C)
  cls : Cls K C
def insAt (z : Z (List MO)) (s : S) : Option (Nat × Str × List (Str × D)) := match rd z s with
  | some (.o n) => (match z.m[n]? with
    | some (.ins c fs) => some (n, c, fs)
    | _ => none)
  | _ => none
theorem insAt_rv {G : Gx} {σ : L2.St} {H F : Hp} {z : Z (List MO)} (ok : Ok MX G σ H F z) {v : V} {s : S} {n : Nat} {c : Str} {fs : List (Str × D)} (e : EO G σ F v s) (h : insAt z s = some (n, c, fs)) : ∃ a C dx vs, v = .ref a ∧ F a = some (tag n) ∧ z.m[n]? = some (.ins c fs) ∧ xrK G.K c = some (.ref C) ∧ H a = some (.ins C dx vs) ∧ DaF G.K F vs fs := by
  unfold insAt at h
  split at h
  · rename_i k er
    split at h
    · rename_i c' qs em
      cases h
      have r := (EO.rv ok e er).da (fun _ q => by cases q)
      obtain ⟨a, rfl, h1, C, dx, vs, h0, h2, h3⟩ := ok.objAt r em
      exact ⟨a, C, dx, vs, rfl, h1, em, h0, h2, h3⟩
    · cases h
  · cases h
section
variable {ι : Type} {xr : Str → Option Value} {K : PySem.W.Frag} {X : ι → Cx} {W : WX} {N : List Str} {mg : Str → Option Value}
/-- e.x -/
def eFld (cs : List Str) (x : Str) (f : Sm MX S) : Sm MX S := fun z => (opd f z).bind fun s z1 => match insAt z1 s with
  | some (_, c, fs) => if c ∈ cs then (match fs.lookup x with
    | some d => .ok (.d d) z1
    | none => .bad) else .bad
  | none => .bad
theorem de_fld {cs : List Str} {x : Str} {e : Expr} {f : Sm MX S} {pos : Pos} (p : Pl K X N mg) (hc : ∀ c ∈ cs, ∃ C, ClF K c C ∧ NoAttr K C x) (he : DE MX xr K X W e f) (hb : ∀ j, attributeBase e x (X j).env (eval e (X j).env) = eval e (X j).env := by intro _; rfl) : DE MX xr K X W (.Attribute e x pos) (eFld cs x f) := by
  obtain ⟨t, pt, ct⟩ := he
  refine ⟨tFld K t x, fun j => by have := pe_fld (f := x) (pos := pos) (pt j) (hb j); rw [p.k j] at this; exact this, fun G σ H F z Q hK hx ok hh => ?_⟩
  refine cmp_opd ct G σ H F z _ hK hx ok (hit_bind hh fun s z1 v H1 F1 _ sm1 ok1 ev h1 => ?_)
  cases e1 : insAt z1 s with
  | none => rw [e1] at h1; exact h1.elim
  | some q =>
    obtain ⟨n, c, fs⟩ := q
    simp only [e1] at h1
    by_cases hm : c ∈ cs
    · rw [if_pos hm] at h1
      obtain ⟨a, C, dx, vs, rfl, ha, em, hC, hH, hk⟩ := insAt_rv ok1 ev e1
      obtain ⟨C', hC', hN⟩ := hc c hm
      rw [hK] at hC hk
      have e2 := hC'.at_
      rw [hC] at e2
      cases e2
      rcases hk.look x with ⟨e3, e4⟩ | ⟨v, d, e3, e4, e5⟩
      · rw [e3] at h1; exact h1.elim
      · rw [e3] at h1
        exact ⟨a, C, dx, vs, v, rfl, hH, hC'.cls, hN, e4, h1 v H1 F1 (Same.refl _) ok1 (show Da G.K F1 v d by rw [hK]; exact e5)⟩
    · rw [if_neg hm] at h1; exact h1.elim
/-- e.x = v -/
def sFldM (cs : List Str) (x : Str) (fv fo : Sm MX S) : Sm MX Out := fun z => (escf fv z).bind fun s z1 => (opd fo z1).bind fun s' z2 => match s, insAt z2 s' with
  | .d d, some (n, c, fs) => if c ∈ cs ∧ fs.length < 999 then .ok .nx { z2 with m := z2.m.set n (.ins c (putFD x d fs)) } else .bad
  | _, _ => .bad
theorem ds_fld {cs : List Str} {x : Str} {o value : Expr} {fv fo : Sm MX S} {pos pos' : Pos} (p : Pl K X N mg) (hc : ∀ c ∈ cs, ∃ C, ClF K c C ∧ NoAttr K C x) (hv : DE MX xr K X W value fv) (ho : DE MX xr K X W o fo) (hs : ∀ j, swapsWith value (some (.Attribute o x pos')) pos.line (X j).env = pure false := by intro _; rfl) : DS MX xr K X W (.Assign [.Attribute o x pos'] value pos) (sFldM cs x fv fo) := by
  obtain ⟨t1, p1, c1⟩ := hv
  obtain ⟨t2, p2, c2⟩ := ho
  refine ⟨sFld K t2 t1 x, fun j => by have := ps_fld (f := x) (pos := pos) (pos' := pos') (p2 j) (p1 j) (hs j); rw [p.k j] at this; exact this, fun G σ H F z D hK hx ok hh => ?_⟩
  refine cmp_esc c1 G σ H F z _ hK hx ok (hits_bind hh fun s z1 v H1 F1 _ sm1 ok1 ev h1 => ?_)
  refine cmp_opd c2 G σ H1 F1 z1 _ hK hx ok1 (hits_bind h1 fun s' z2 v' H2 F2 _ sm2 ok2 ev2 h2 => ?_)
  cases s with
  | d d =>
    cases e1 : insAt z2 s' with
    | none => simp only [e1] at h2; exact h2.elim
    | some q =>
      obtain ⟨n, c, fs⟩ := q
      simp only [e1] at h2
      by_cases hm : c ∈ cs ∧ fs.length < 999
      · rw [if_pos hm] at h2
        obtain ⟨a, C, dx, vs, rfl, ha, em, hC, hH, hk⟩ := insAt_rv ok2 ev2 e1
        obtain ⟨C', hC', hN⟩ := hc c hm.1
        have e2 := hC'.at_
        rw [← hK, hC] at e2
        cases e2
        have l := hk.length
        have dv : Da G.K F2 v d := Da.mono sm2 ev
        refine ⟨a, C, dx, vs, rfl, hH, hC'.cls, hN, by omega, ?_⟩
        exact h2 σ (upd H2 a (.ins C dx (putF x v vs))) F2 (Same.refl _) (ok2.putO ha ⟨C, dx, _, hC, upd_same, hk.put x dv⟩)
      · rw [if_neg hm] at h2; exact h2.elim
  | l _ => exact h2.elim
  | v _ => exact h2.elim
  | m _ => exact h2.elim
end
end G
namespace G
open PySem L2 PySem.Spec PyProof.Rows
/-! ### methods -/
/-- the receiver, then the arguments -/
def tArgM (C : Addr) (m : Str) (ta : TE) (t : TA) : TA := fun σ H Q => ta σ H fun x H1 => ∃ a dx fs, x = .ref a ∧ H1 a = some (.ins C dx fs) ∧ fs.lookup m = none ∧ t σ H1 fun vs H2 => Q (x :: vs) H2
section
variable {X : Cx} {CX : CXT} {n : Nat} {f C : Addr} {fd : FuncData} {ps : List Str} {sp : Sp} {E : L2.St → XK} {x m : Str} {p pos apos : Pos} {e o : Expr} {es : List Expr} {ta : TE} {t : TA}
theorem pe_methG {pl : Sem Bool} (he : PE X o ta) (c : Cls X.K C) (hm : Meth X.K C m f) (F : FnG X.prog X.w X.K X.mg X.base CX n f fd ps sp) (hr : Room n X.A) (hgu : X.A.guards = some []) (hb : Binds X.K fd ps []) (hx : ∀ σ, PassesAt CX X σ (E σ)) (ha : PA X (e :: es) t)
    (hst : starEach (e :: es) X.env = (false, eval e X.env) :: starEach es X.env) (hpl : (backTo pos (starEach es X.env)).any (·.1) = false)
    (ht : eval (.Call (.Attribute o m apos) (e :: es) [] pos) X.env = (do
      let ov ← eval o X.env
      standAt apos.atName
      let (f, first) ← holding [ov] (getMethod ov m pl)
      callWith pos f first (backTo pos (starEach (e :: es) X.env)) (backToKw pos (keywordEach [] X.env)))) :
    PE X (.Call (.Attribute o m apos) (e :: es) [] pos) (tCallS sp E (tArgM C m ta t)) := by
  refine ⟨fun pins s σ H Q I h => ?_⟩
  refine PySem.W.methodCall_KW (pl := pl) (thn (he.run pins s σ H _ I h) fun u s1 ⟨x, H1, I1, rx, a, dx, fs, ex, ea, l, q⟩ => ?_) ht
  subst ex
  obtain rfl : u = Value.ref a := rx
  refine getmeth_ok I1 ea c hm l ?_
  refine PySem.W.callWith_K (first := [.ref a]) (h₀ := X.base) I.ok.mod.kin hm.kp (thn (ha.run pos pins s1 σ H1 _ I1 q) fun us s2 ⟨vs, H2, I2, r, q2⟩ => ⟨I2.kIn, ?_⟩) hst hpl
  exact run_fnG (us := .ref a :: us) (ws := .ref a :: vs) (dvs := []) (ds := []) (E := E) F hr hgu hb .nil (hx σ) I2 (.cons rfl r) (by rw [List.append_nil]; exact q2)
theorem pe_meth0G {pl : Sem Bool} (he : PE X o ta) (c : Cls X.K C) (hm : Meth X.K C m f) (F : FnG X.prog X.w X.K X.mg X.base CX n f fd ps sp) (hr : Room n X.A) (hgu : X.A.guards = some []) (hb : Binds X.K fd ps []) (hx : ∀ σ, PassesAt CX X σ (E σ))
    (ht : eval (.Call (.Attribute o m apos) [] [] pos) X.env = (do
      let ov ← eval o X.env
      standAt apos.atName
      let (f, first) ← holding [ov] (getMethod ov m pl)
      callWith pos f first (backTo pos (starEach [] X.env)) (backToKw pos (keywordEach [] X.env)))) :
    PE X (.Call (.Attribute o m apos) [] [] pos) (tCallS sp E (tArgM C m ta tNil)) := by
  refine ⟨fun pins s σ H Q I h => ?_⟩
  refine PySem.W.methodCall_KW (pl := pl) (thn (he.run pins s σ H _ I h) fun u s1 ⟨x, H1, I1, rx, a, dx, fs, ex, ea, l, q⟩ => ?_) ht
  subst ex
  obtain rfl : u = Value.ref a := rx
  refine getmeth_ok I1 ea c hm l ?_
  exact PySem.W.callWith_K0 (first := [.ref a]) I1.kIn hm.kp (run_fnG (us := [.ref a]) (ws := [.ref a]) (dvs := []) (ds := []) (E := E) F hr hgu hb .nil (hx σ) I1 (.cons rfl .nil) q)
/-- a new instance: x and its dict dx -/
def tNewI (C : Addr) (sp : Sp) (E : L2.St → XK) (t : TA) : TE := fun σ H Q => t σ H fun vs H1 => ∀ x dx, H1 x = none → H1 dx = none → dx ≠ x → sp (.ref x :: vs) (upd (upd H1 dx (.own x)) x (.ins C dx [])) (fun v H2 => v = .non ∧ Q (.ref x) H2) (E σ)
theorem run_makeG {pins : List (Addr × Obj)} {σ : L2.St} {H : Hp} {s : Shared} {Q : VK} {us : List Value} {vs : List V} (M : Mk X.K C f) (F : FnG X.prog X.w X.K X.mg X.base CX n f fd ps sp) (hr : Room (n + 1) X.A) (hgu : X.A.guards = some []) (hb : Binds X.K fd ps [])
    (hx : PassesAt CX X σ (E σ)) (I : Inv X pins σ H s) (r : Vals vs us)
    (h : ∀ x dx, H x = none → H dx = none → dx ≠ x → sp (.ref x :: vs) (upd (upd H dx (.own x)) x (.ins C dx [])) (fun v H2 => v = .non ∧ Q (.ref x) H2) (E σ)) :
    wpAny (model X.prog X.w) X.A (call (.ref C) us) (EP X pins σ Q) X.xe s := by
  have hq := h (s.heap.objs.size + 1) s.heap.objs.size (I.hok.fresh (Nat.le_succ _)) (I.hok.fresh (Nat.le_refl _)) (Nat.ne_of_lt (Nat.lt_succ_self _))
  have I2 := Inv.made (C := C) I
  have r2 : Vals (V.ref (s.heap.objs.size + 1) :: vs) (Value.ref (s.heap.objs.size + 1) :: us) := .cons rfl r
  have hl : (Value.ref (s.heap.objs.size + 1) :: us).length = ps.length := by
    have e := r2.length
    rw [F.len _ _ _ _ hq] at e
    exact e.symm
  have hb2 := hb { s with heap := (s.heap.push PySem.W.emptyDict).push (PySem.W.instObj C s.heap.objs.size) } (Value.ref (s.heap.objs.size + 1) :: us) I2.kIn (by rw [List.append_nil]; exact hl)
  rw [List.append_nil] at hb2
  refine wpAny_call (make_map (f := f) I.kIn M.makes M.init (beq_iff_eq.mp M.fn) (codeAny_mono (F.run _ X.stack _ _ ⟨Value.ref (s.heap.objs.size + 1) :: us, []⟩ (Value.ref (s.heap.objs.size + 1) :: us) _ _ (E σ) (hr.make C us []) hgu
    (I2.env0.make C us []) hb2 r2 hq) fun r s' hq' => ?_))
  cases r with
  | error e => exact hx pins _ _ e s' I2 hq'
  | ok fl =>
    cases fl with
    | ret u =>
      obtain ⟨v, H', I3, rv, ev, q3⟩ := I2.after hq'
      subst ev
      exact ⟨rv, ⟨V.ref (s.heap.objs.size + 1), H', I3, rfl, q3⟩⟩
    | next => exact False.elim hq'
    | brk => exact False.elim hq'
    | cont => exact False.elim hq'
theorem pe_makeG (M : Mk X.K C f) (F : FnG X.prog X.w X.K X.mg X.base CX n f fd ps sp) (hr : Room (n + 1) X.A) (hgu : X.A.guards = some []) (hg : Gl X x) (hm : X.mg x = some (.ref C)) (hb : Binds X.K fd ps []) (hx : ∀ σ, PassesAt CX X σ (E σ))
    (ha : PA X (e :: es) t) (hdb : (x == ("__debug__" : Str)) = false) (he : starEach (e :: es) X.env = (false, eval e X.env) :: starEach es X.env) (hpl : (backTo pos (starEach es X.env)).any (·.1) = false) :
    PE X (.Call (.Name x p) (e :: es) [] pos) (tNewI C sp E t) := by
  refine ⟨fun pins s σ H Q I h => ?_⟩
  refine wpAny_Call_Name_kw (ld_glob I hg hm ?_ hdb)
  refine PySem.W.callWith_K (h₀ := X.base) I.ok.mod.kin M.kp (thn (ha.run pos pins s σ H _ I h) fun us s1 ⟨vs, H1, I1, r, q⟩ => ⟨I1.kIn, ?_⟩) he hpl
  exact run_makeG (E := E) M F hr hgu hb (hx σ) I1 r q
theorem pe_make0G (M : Mk X.K C f) (F : FnG X.prog X.w X.K X.mg X.base CX n f fd ps sp) (hr : Room (n + 1) X.A) (hgu : X.A.guards = some []) (hg : Gl X x) (hm : X.mg x = some (.ref C)) (hb : Binds X.K fd ps []) (hx : ∀ σ, PassesAt CX X σ (E σ)) (hdb : (x == ("__debug__" : Str)) = false) :
    PE X (.Call (.Name x p) [] [] pos) (tNewI C sp E tNil) := by
  refine ⟨fun pins s σ H Q I h => ?_⟩
  refine wpAny_Call_Name_kw (ld_glob I hg hm ?_ hdb)
  exact PySem.W.callWith_K0 I.kIn M.kp (run_makeG (us := []) (E := E) M F hr hgu hb (hx σ) I .nil h)
end
section
variable {ι : Type} {P : Program} {w : World} {base : Heap} {n : Nat} {xr : Str → Option Value} {K : PySem.W.Frag} {X : ι → Cx} {W : WX} {N : List Str} {mg : Str → Option Value}
/-- a method of a class keeps the mirror c at level n -/
def MeAt (P : Program) (w : World) (K : PySem.W.Frag) (mg : Str → Option Value) (base : Heap) (xr : Str → Option Value) (n : Nat) (cl m : Str) (ps : List Str) (c : List S → List MO → Rs S (List MO)) : Prop :=
  ∃ C f fd, ClF K cl C ∧ Meth K C m f ∧ FnG P w K mg base (L2.CX P w) (n + 8) f fd ps (spM MX K xr ps.length c) ∧ Binds K fd ps []
def aMeth (cl m : Str) (f : Sm MX S) (g : Sm MX (List S)) : Sm MX (List S) := fun z => (opd f z).bind fun s z1 => match insAt z1 s with
  | some (k, c, fs) => if c = cl ∧ fs.lookup m = none then (g z1).bind fun ss z2 => .ok (.d (.o k) :: ss) z2 else .bad
  | none => .bad
theorem cmp_argM {cl m : Str} {C : Addr} {ta : TE} {t : TA} {f : Sm MX S} {g : Sm MX (List S)} (hC : ClF K cl C) (cf : Cmp MX K xr W ta RelE f) (cg : Cmp MX K xr W t RelA g) : Cmp MX K xr W (tArgM C m ta t) RelA (aMeth cl m f g) := by
  intro G σ H F z Q hK hx ok hh
  refine cmp_opd cf G σ H F z _ hK hx ok (hit_bind hh fun s z1 v H1 F1 _ sm1 ok1 ev h1 => ?_)
  cases e1 : insAt z1 s with
  | none => rw [e1] at h1; exact h1.elim
  | some q =>
    obtain ⟨k, c, fs⟩ := q
    simp only [e1] at h1
    by_cases hm : c = cl ∧ fs.lookup m = none
    · rw [if_pos hm] at h1
      obtain ⟨a, C', dx, vs, rfl, ha, em, hC', hH, hk⟩ := insAt_rv ok1 ev e1
      have e2 := hC.at_
      rw [← hm.1, ← hK, hC'] at e2
      cases e2
      have l : vs.lookup m = none := by
        rcases hk.look m with ⟨_, e4⟩ | ⟨_, _, e3, _, _⟩
        · exact e4
        · rw [hm.2] at e3; cases e3
      refine ⟨a, dx, vs, rfl, hH, l, ?_⟩
      refine cg G σ H1 F1 z1 _ hK hx ok1 (hit_bind h1 fun ss z2 us H2 F2 _ sm2 ok2 ea h2 => ?_)
      exact h2 (.ref a :: us) H2 F2 (Same.refl _) ok2 (.cons (show Da G.K F2 (.ref a) (.o k) from Da.o (sm2 _ _ ha)) ea)
    · rw [if_neg hm] at h1; exact h1.elim
theorem len_meth {cl m : Str} {f : Sm MX S} {g : Sm MX (List S)} {k : Nat} (hn : ∀ z ss z1, g z = .ok ss z1 → ss.length = k) : ∀ z ss z1, aMeth cl m f g z = .ok ss z1 → ss.length = k + 1 := by
  intro z ss z1 h
  unfold aMeth at h
  cases e1 : opd f z with
  | ex _ _ => rw [e1] at h; cases h
  | bad => rw [e1] at h; cases h
  | ok s z2 =>
    rw [e1, Rs.bind_ok] at h
    cases e2 : insAt z2 s with
    | none => rw [e2] at h; cases h
    | some q =>
      obtain ⟨i, c, fs⟩ := q
      simp only [e2] at h
      by_cases hm : c = cl ∧ fs.lookup m = none
      · rw [if_pos hm] at h
        cases e3 : g z2 with
        | ex _ _ => rw [e3] at h; cases h
        | bad => rw [e3] at h; cases h
        | ok ts z3 =>
          rw [e3, Rs.bind_ok] at h
          cases h
          rw [List.length_cons, hn _ _ _ e3]
      · rw [if_neg hm] at h; cases h
theorem de_meth {cl m : Str} {pl : Sem Bool} {ps : List Str} {o e : Expr} {es : List Expr} {f : Sm MX S} {g : Sm MX (List S)} {c : List S → List MO → Rs S (List MO)} {apos pos : Pos} {k : Nat} (p : Pc P w K mg base N W n X) (h : MeAt P w K mg base xr n cl m ps c) (ho : DE MX xr K X W o f) (ha : DA MX xr K X W (e :: es) g) (hn : ∀ z ss z1, g z = .ok ss z1 → ss.length = k) (hk : ps.length = k + 1 := by rfl)
    (he : ∀ j, starEach (e :: es) (X j).env = (false, eval e (X j).env) :: starEach es (X j).env := by intro _; rfl) (hpl : ∀ j, (backTo pos (starEach es (X j).env)).any (·.1) = false := by intro _; rfl)
    (ht : ∀ j, eval (.Call (.Attribute o m apos) (e :: es) [] pos) (X j).env = (do
      let ov ← eval o (X j).env
      standAt apos.atName
      let (f, first) ← holding [ov] (getMethod ov m pl)
      callWith pos f first (backTo pos (starEach (e :: es) (X j).env)) (backToKw pos (keywordEach [] (X j).env))) := by intro _; rfl) :
    DE MX xr K X W (.Call (.Attribute o m apos) (e :: es) [] pos) (eCall c (aMeth cl m f g)) := by
  obtain ⟨C, fa, fd, hC, hm, hF, hb⟩ := h
  obtain ⟨t1, p1, c1⟩ := ho
  obtain ⟨t2, p2, c2⟩ := ha
  refine ⟨_, fun j => pe_methG (CX := L2.CX P w) (E := WE W) (p1 j) (by rw [p.k j]; exact hC.cls) (by rw [p.k j]; exact hm) (by rw [p.pr j, p.pw j, p.k j, p.g j, p.pb j]; exact hF) (p.room j) (p.gd j) (by rw [p.k j]; exact hb) (p.pass j) (p2 j) (he j) (hpl j) (ht j), ?_⟩
  exact cmp_call (cmp_argM hC c1 c2) (by rw [hk]; exact len_meth hn)
theorem de_meth0 {cl m : Str} {pl : Sem Bool} {ps : List Str} {o : Expr} {f : Sm MX S} {c : List S → List MO → Rs S (List MO)} {apos pos : Pos} (p : Pc P w K mg base N W n X) (h : MeAt P w K mg base xr n cl m ps c) (ho : DE MX xr K X W o f) (hk : ps.length = 1 := by rfl)
    (ht : ∀ j, eval (.Call (.Attribute o m apos) [] [] pos) (X j).env = (do
      let ov ← eval o (X j).env
      standAt apos.atName
      let (f, first) ← holding [ov] (getMethod ov m pl)
      callWith pos f first (backTo pos (starEach [] (X j).env)) (backToKw pos (keywordEach [] (X j).env))) := by intro _; rfl) :
    DE MX xr K X W (.Call (.Attribute o m apos) [] [] pos) (eCall c (aMeth cl m f aNil)) := by
  obtain ⟨C, fa, fd, hC, hm, hF, hb⟩ := h
  obtain ⟨t1, p1, c1⟩ := ho
  refine ⟨_, fun j => pe_meth0G (CX := L2.CX P w) (E := WE W) (p1 j) (by rw [p.k j]; exact hC.cls) (by rw [p.k j]; exact hm) (by rw [p.pr j, p.pw j, p.k j, p.g j, p.pb j]; exact hF) (p.room j) (p.gd j) (by rw [p.k j]; exact hb) (p.pass j) (ht j), ?_⟩
  exact cmp_call (cmp_argM hC c1 (fun G σ H F z Q _ _ ok h => h [] H F (Same.refl _) ok .nil)) (by rw [hk]; exact len_meth (fun _ _ _ h => len_nil h))
theorem paired_imp {α β : Type} {R R' : α → β → Prop} (h : ∀ a b, R a b → R' a b) : ∀ {as : List α} {bs : List β}, Paired R as bs → Paired R' as bs
  | _, _, .nil => .nil
  | _, _, .cons r t => .cons (h _ _ r) (paired_imp h t)
/-! ### making -/
def MkAt (P : Program) (w : World) (K : PySem.W.Frag) (mg : Str → Option Value) (base : Heap) (xr : Str → Option Value) (n : Nat) (cl : Str) (ps : List Str) (c : List S → List MO → Rs S (List MO)) : Prop :=
  ∃ C f fd, ClF K cl C ∧ Mk K C f ∧ mg cl = some (.ref C) ∧ FnG P w K mg base (L2.CX P w) (n + 7) f fd ps (spM MX K xr ps.length c) ∧ Binds K fd ps []
def eMake (cl : Str) (c : List S → List MO → Rs S (List MO)) (g : Sm MX (List S)) : Sm MX S := fun z => (g z).bind fun ss z1 => if ss.all okArg = true then (match c (.d (.o z1.m.length) :: ss) (z1.m ++ [.ins cl []]) with
  | .ok (.d .non) t => .ok (.d (.o z1.m.length)) { z1 with m := t }
  | .ok _ _ => .bad
  | .ex x t => .ex x { z1 with m := t }
  | .bad => .bad) else .bad
theorem cmp_make {cl : Str} {C : Addr} {k : Nat} {t : TA} {g : Sm MX (List S)} {c : List S → List MO → Rs S (List MO)} (hC : ClF K cl C) (cg : Cmp MX K xr W t RelA g) (hn : ∀ z ss z1, g z = .ok ss z1 → ss.length + 1 = k) : Cmp MX K xr W (tNewI C (spM MX K xr k c) (WE W) t) RelE (eMake cl c g) := by
  intro G σ H F z Q hK hx ok hh
  refine cg G σ H F z _ hK hx ok (hit_bind hh fun ss z1 vs H1 F1 eg sm ok1 ea h1 => ?_)
  intro x dx nx nd ne
  by_cases hd : ss.all okArg = true
  · rw [if_pos hd] at h1
    have hv := paired_av ea hd
    have okd := ok1.new nd (.own x)
    have nx2 : upd H1 dx (.own x) x = none := by rw [upd_ne (Ne.symm ne)]; exact nx
    have ok2 := okd.alloc (p := x) nx2 (ho := .ins C dx []) (o := .ins cl []) ⟨C, dx, [], by rw [hK]; exact hC.at_, upd_same, .nil⟩
    have sF : Same F1 (upd F1 x (tag z1.m.length)) := same_upd (okd.freshF nx2)
    have av : Paired (AV G.K (upd F1 x (tag z1.m.length)) G.ms) (.ref x :: vs) (.d (.o z1.m.length) :: ss) := .cons (show Da G.K _ (.ref x) (.o z1.m.length) from Da.o upd_same) (paired_av (paired_imp (fun _ _ q => EO.mono sF q) ea) hd)
    refine ⟨by rw [List.length_cons, hv.length, hn z ss z1 eg], G.ms, upd F1 x (tag z1.m.length), .d (.o z1.m.length) :: ss, z1.m ++ [.ins cl []], ok2.sub, by rw [← hK]; exact ok2.mach, fun a ha => ⟨ok2.msF a ha, ok2.msH a ha⟩, fun a ps e => (ok2.tg a ps e).1, by rw [← hK]; exact av, ?_⟩
    subst hK hx
    cases e : c (.d (.o z1.m.length) :: ss) (z1.m ++ [.ins cl []]) with
    | bad => rw [e] at h1; exact h1
    | ex x' t' =>
      rw [e] at h1
      exact fun cls d H' F' s' r xo => h1 cls d H' F' (sF.trans s') (ok2.call s' r) xo
    | ok s t' =>
      rw [e] at h1
      intro v H' F' s' r rv
      cases s with
      | d y =>
        cases y with
        | non =>
          cases (show Da G.K F' v .non from rv)
          exact ⟨rfl, h1 (.ref x) H' F' (sF.trans s') (ok2.call s' r) (show Da G.K F' (.ref x) (.o z1.m.length) from Da.o (s' _ _ upd_same))⟩
        | _ => exact h1.elim
      | _ => exact h1.elim
  · rw [if_neg hd] at h1; exact h1.elim
theorem de_make {cl : Str} {ps : List Str} {e : Expr} {es : List Expr} {g : Sm MX (List S)} {c : List S → List MO → Rs S (List MO)} {pp pos : Pos} (p : Pc P w K mg base N W n X) (h : MkAt P w K mg base xr n cl ps c) (ha : DA MX xr K X W (e :: es) g) (hn : ∀ z ss z1, g z = .ok ss z1 → ss.length + 1 = ps.length) (hg : ∀ j, Gl (X j) cl := by intro _; rfl)
    (hdb : (cl == ("__debug__" : Str)) = false := by decide) (he : ∀ j, starEach (e :: es) (X j).env = (false, eval e (X j).env) :: starEach es (X j).env := by intro _; rfl) (hpl : ∀ j, (backTo pos (starEach es (X j).env)).any (·.1) = false := by intro _; rfl) :
    DE MX xr K X W (.Call (.Name cl pp) (e :: es) [] pos) (eMake cl c g) := by
  obtain ⟨C, fa, fd, hC, hm, hmg, hF, hb⟩ := h
  obtain ⟨t2, p2, c2⟩ := ha
  refine ⟨_, fun j => pe_makeG (CX := L2.CX P w) (E := WE W) (n := n + 7) (by rw [p.k j]; exact hm) (by rw [p.pr j, p.pw j, p.k j, p.g j, p.pb j]; exact hF) (p.room j) (p.gd j) (hg j) (by rw [p.g j]; exact hmg) (by rw [p.k j]; exact hb) (p.pass j) (p2 j) hdb (he j) (hpl j), cmp_make hC c2 hn⟩
theorem de_make0 {cl : Str} {ps : List Str} {c : List S → List MO → Rs S (List MO)} {pp pos : Pos} (p : Pc P w K mg base N W n X) (h : MkAt P w K mg base xr n cl ps c) (hk : ps.length = 1 := by rfl) (hg : ∀ j, Gl (X j) cl := by intro _; rfl)
    (hdb : (cl == ("__debug__" : Str)) = false := by decide) : DE MX xr K X W (.Call (.Name cl pp) [] [] pos) (eMake cl c aNil) := by
  obtain ⟨C, fa, fd, hC, hm, hmg, hF, hb⟩ := h
  refine ⟨_, fun j => pe_make0G (CX := L2.CX P w) (E := WE W) (n := n + 7) (by rw [p.k j]; exact hm) (by rw [p.pr j, p.pw j, p.k j, p.g j, p.pb j]; exact hF) (p.room j) (p.gd j) (hg j) (by rw [p.g j]; exact hmg) (by rw [p.k j]; exact hb) (p.pass j) hdb, cmp_make hC (fun G σ H F z Q _ _ ok h => h [] H F (Same.refl _) ok .nil) (fun z ss z1 h => by rw [hk, len_nil h])⟩
/-! ### where methods stand in the text -/
def MeIn (K : PySem.W.Frag) (cl m qual : Str) (st : Stmt) (ps : List Str) : Prop := ∃ C f fd, ClF K cl C ∧ Meth K C m f ∧ FunD K m qual (defArgs st) (defBody st) (defScope st) [] [] f fd ∧ Binds K fd ps []
def MkIn (K : PySem.W.Frag) (mg : Str → Option Value) (cl qual : Str) (st : Stmt) (ps : List Str) : Prop := ∃ C f fd, ClF K cl C ∧ Mk K C f ∧ mg cl = some (.ref C) ∧ FunD K "__init__" qual (defArgs st) (defBody st) (defScope st) [] [] f fd ∧ Binds K fd ps []
theorem spBad {ps : List Str} {k : Nat} {f : Addr} {fd : FuncData} : FnG P w K mg base (L2.CX P w) k f fd ps (spM MX K xr ps.length (fun _ _ => .bad)) := by
  have no : ∀ vs H Q E, ¬ spM MX K xr ps.length (fun _ _ => .bad) vs H Q E := fun vs H Q E h => by
    obtain ⟨_, _, _, _, _, _, _, _, _, _, z⟩ := h
    exact z
  exact ⟨fun vs H Q E h => absurd h (no vs H Q E), fun A outer s H args us vs Q E _ _ _ _ _ h => absurd h (no vs H Q E)⟩
theorem meAt_zero {cl m qual : Str} {st : Stmt} {ps : List Str} (h : MeIn K cl m qual st ps) : MeAt P w K mg base xr 0 cl m ps (fun _ _ => .bad) := by
  obtain ⟨C, f, fd, hC, hm, hF, hb⟩ := h
  exact ⟨C, f, fd, hC, hm, spBad, hb⟩
theorem meAt_succ {cl m qual : Str} {st : Stmt} {ps : List Str} {b : Sm MX Out} (h : MeIn K cl m qual st ps) (Sc : FnScope N ps (defScope st))
    (hb : ∀ (f : Addr) (cdv : Value) (A : Around) (outer : List Env) (s : Shared) (H : Hp) (E : XK), Room (n + 8) (A.deeper (PyProof.Rows.envOfC qual (defScope st) s.heap.objs.size f cdv)) → A.guards = some [] →
      DSs MX xr K (fun _ : Unit => cxOf (L2.CX P w) P w K mg base N qual (defScope st) f cdv A outer s H E) (fun cls d _ H => E cls d H) (defBody st) b) : MeAt P w K mg base xr (n + 1) cl m ps (fnM N.length b) := by
  obtain ⟨C, f, fd, hC, hm, hF, hbd⟩ := h
  exact ⟨C, f, fd, hC, hm, okM hF Sc (hb f), hbd⟩
/-- __init__, one level lower -/
theorem mkAt_zero {cl qual : Str} {st : Stmt} {ps : List Str} (h : MkIn K mg cl qual st ps) (k : Nat) : MkAt P w K mg base xr k cl ps (fun _ _ => .bad) := by
  obtain ⟨C, f, fd, hC, hm, hg, hF, hb⟩ := h
  exact ⟨C, f, fd, hC, hm, hg, spBad, hb⟩
theorem mkAt_succ {cl qual : Str} {st : Stmt} {ps : List Str} {b : Sm MX Out} (h : MkIn K mg cl qual st ps) (Sc : FnScope N ps (defScope st))
    (hb : ∀ (f : Addr) (cdv : Value) (A : Around) (outer : List Env) (s : Shared) (H : Hp) (E : XK), Room (n + 8) (A.deeper (PyProof.Rows.envOfC qual (defScope st) s.heap.objs.size f cdv)) → A.guards = some [] →
      DSs MX xr K (fun _ : Unit => cxOf (L2.CX P w) P w K mg base N qual (defScope st) f cdv A outer s H E) (fun cls d _ H => E cls d H) (defBody st) b) : MkAt P w K mg base xr (n + 2) cl ps (fnM N.length b) := by
  obtain ⟨C, f, fd, hC, hm, hg, hF, hbd⟩ := h
  exact ⟨C, f, fd, hC, hm, hg, okM hF Sc (hb f), hbd⟩
end
theorem clF_mk {K : PySem.W.Frag} {c : Str} {C : Addr} (a : PySem.W.nsIn K mainGlobals c = some (some (.ref C))) (c1 : PySem.W.plainGet K C Str.empty = true) (c2 : PySem.W.hasDictIn K C = true) (c3 : PySem.W.plainOver K C = true) (c4 : PySem.W.findIn K (.ref C) "__setattr__" = some (some (.builtin "object.__setattr__"))) : ClF K c C :=
  ⟨by unfold xrK; rw [a], c1, c2, c3, c4⟩
theorem funQ_mk {K : PySem.W.Frag} {x qual : Str} {st : Stmt} {f : Addr} {oc : Value} {od an : Option Addr} {osl : Array (Option Value)} {kV doc pm cdv ct : Value} (l : K.lookup f = some ⟨oc, od, .func (PySem.W.fnOf x qual (defArgs st) (defBody st) (defScope st) .none kV doc pm an cdv ct), osl⟩) (c : PySem.W.codeIn K cdv qual = true) (k : PySem.W.keepIn K (.ref f) = true) :
    FunD K x qual (defArgs st) (defBody st) (defScope st) [] [] f (PySem.W.fnOf x qual (defArgs st) (defBody st) (defScope st) .none kV doc pm an cdv ct) := ⟨⟨oc, od, .none, kV, doc, pm, an, cdv, ct, osl, rfl, l, c, .inl ⟨rfl, rfl⟩, .inl rfl⟩, k⟩
theorem meIn_mk {K : PySem.W.Frag} {cl m qual : Str} {st : Stmt} {ps : List Str} {C f : Addr} {oc : Value} {od an : Option Addr} {osl : Array (Option Value)} {kV doc pm cdv ct : Value} (hC : ClF K cl C) (a : PySem.W.findIn K (.ref C) m = some (some (.ref f))) (fn : PySem.W.isFn K (.ref f) = true)
    (l : K.lookup f = some ⟨oc, od, .func (PySem.W.fnOf m qual (defArgs st) (defBody st) (defScope st) .none kV doc pm an cdv ct), osl⟩) (c : PySem.W.codeIn K cdv qual = true) (k : PySem.W.keepIn K (.ref f) = true)
    (hb : ∀ (kV doc pm : Value) (an : Option Addr) (cdv ct : Value) (us : List Value), us.length = ps.length → bindArgs (PySem.W.fnOf m qual (defArgs st) (defBody st) (defScope st) .none kV doc pm an cdv ct) ⟨us, []⟩ = pure (ps.zip us)) : MeIn K cl m qual st ps :=
  ⟨C, f, _, hC, ⟨a, fn, k⟩, funQ_mk (st := st) l c k, fun s us _ hl => by rw [List.append_nil] at hl ⊢; exact .of_eq (hb _ _ _ _ _ _ us hl)⟩
theorem mkIn_mk {K : PySem.W.Frag} {h : Heap} {mg : Str → Option Value} {cl qual : Str} {st : Stmt} {ps : List Str} {C f : Addr} {oc : Value} {od an : Option Addr} {osl : Array (Option Value)} {kV doc pm cdv ct : Value} (X : K.In h) (G : h.Ns mainGlobals mg) (hC : ClF K cl C) (ca : PySem.W.nsIn K mainGlobals cl = some (some (.ref C))) (mk : PySem.W.makesIn K C = true) (kC : PySem.W.keepIn K (.ref C) = true) (a : PySem.W.findIn K (.ref C) "__init__" = some (some (.ref f))) (fn : PySem.W.isFn K (.ref f) = true)
    (l : K.lookup f = some ⟨oc, od, .func (PySem.W.fnOf "__init__" qual (defArgs st) (defBody st) (defScope st) .none kV doc pm an cdv ct), osl⟩) (c : PySem.W.codeIn K cdv qual = true) (k : PySem.W.keepIn K (.ref f) = true)
    (hb : ∀ (kV doc pm : Value) (an : Option Addr) (cdv ct : Value) (us : List Value), us.length = ps.length → bindArgs (PySem.W.fnOf "__init__" qual (defArgs st) (defBody st) (defScope st) .none kV doc pm an cdv ct) ⟨us, []⟩ = pure (ps.zip us)) : MkIn K mg cl qual st ps :=
  ⟨C, f, _, hC, ⟨mk, a, fn, kC⟩, PySem.W.mg_of X G ca, funQ_mk (st := st) l c k, fun s us _ hl => by rw [List.append_nil] at hl ⊢; exact .of_eq (hb _ _ _ _ _ _ us hl)⟩
end G
namespace G
open PySem L2 PySem.Spec PyProof.Rows
/-! ### texts in order -/
def ltL (a b : List Nat) : Bool := ltCps a b
def leS (a b : Str) : Bool := !ltCps b.cps.toList a.cps.toList
theorem lt_irr : ∀ a : List Nat, ltCps a a = false
  | [] => by simp [ltCps]
  | x :: r => by simp [ltCps, lt_irr r]
theorem lt_tri : ∀ a b : List Nat, ltCps a b = false → ltCps b a = false → a = b
  | [], [], _, _ => rfl
  | [], _ :: _, h, _ => by simp [ltCps] at h
  | _ :: _, [], _, h => by simp [ltCps] at h
  | x :: r, y :: s, h1, h2 => by
    by_cases q : x = y
    · subst q
      simp only [ltCps, Nat.lt_irrefl, decide_false, Bool.false_or, beq_self_eq_true, Bool.true_and] at h1 h2
      rw [lt_tri r s (by simpa using h1) (by simpa using h2)]
    · exfalso
      simp only [ltCps] at h1 h2
      rcases Nat.lt_or_gt_of_ne q with z | z
      · simp [z] at h1
      · simp [z] at h2
theorem lt_asy : ∀ a b : List Nat, ltCps a b = true → ltCps b a = false
  | [], [], h => by simp [ltCps] at h
  | [], _ :: _, _ => by simp [ltCps]
  | _ :: _, [], h => by simp [ltCps] at h
  | x :: r, y :: s, h => by
    simp only [ltCps] at h ⊢
    by_cases q : x = y
    · subst q
      simp at h ⊢
      exact lt_asy r s h
    · rcases Nat.lt_or_gt_of_ne q with z | z
      · have : ¬ y < x := by omega
        simp [z, this, Ne.symm q]
        try omega
      · have : ¬ x < y := by omega
        simp [this, q] at h
theorem lt_trn : ∀ a b c : List Nat, ltCps a b = true → ltCps b c = true → ltCps a c = true
  | [], _, [], _, h => by cases ‹List Nat› <;> simp [ltCps] at h
  | [], _, _ :: _, _, _ => by simp [ltCps]
  | _ :: _, [], _, h, _ => by simp [ltCps] at h
  | _ :: _, _ :: _, [], _, h => by simp [ltCps] at h
  | x :: r, y :: s, z :: t, h1, h2 => by
    simp only [ltCps] at h1 h2 ⊢
    by_cases q : x = y
    · subst q
      by_cases q2 : x = z
      · subst q2
        simp at h1 h2 ⊢
        exact lt_trn r s t h1 h2
      · have z1 : x < z := by
          rcases Nat.lt_or_gt_of_ne q2 with w | w
          · exact w
          · have : ¬ x < z := by omega
            simp [this, q2] at h2
        simp [z1]
    · have z1 : x < y := by
        rcases Nat.lt_or_gt_of_ne q with w | w
        · exact w
        · have : ¬ x < y := by omega
          simp [this, q] at h1
      have z2 : y ≤ z := by
        by_cases q3 : y = z
        · omega
        · rcases Nat.lt_or_gt_of_ne q3 with w | w
          · omega
          · have : ¬ y < z := by omega
            simp [this, q3] at h2
      have : x < z := by omega
      simp [this]
theorem str_ext {a b : Str} (h : a.cps.toList = b.cps.toList) : a = b := by
  cases a; cases b
  simp only at h
  congr 1
  exact Array.toList_inj.mp h
theorem leS_anti {a b : Str} (h1 : leS a b = true) (h2 : leS b a = true) : a = b := by
  unfold leS at h1 h2
  exact str_ext (lt_tri _ _ (by simpa using h2) (by simpa using h1))
theorem leS_total (a b : Str) : leS a b = true ∨ leS b a = true := by
  unfold leS
  cases h : ltCps b.cps.toList a.cps.toList with
  | false => exact .inl rfl
  | true => rw [lt_asy _ _ h]; exact .inr rfl
theorem leS_trans {a b c : Str} (h1 : leS a b = true) (h2 : leS b c = true) : leS a c = true := by
  unfold leS at *
  cases h : ltCps c.cps.toList a.cps.toList with
  | false => rfl
  | true =>
    cases hb : ltCps a.cps.toList b.cps.toList with
    | true => rw [lt_trn _ _ _ h hb] at h2; cases h2
    | false =>
      have e := lt_tri _ _ hb (by simpa using h1)
      rw [e] at h
      rw [h] at h2
      cases h2
theorem rising_pw : ∀ (ys : List Str) (p : Str), risingS p ys = true → (p :: ys).Pairwise (fun a b => leS a b = true)
  | [], p, _ => List.pairwise_singleton _ _
  | y :: r, p, h => by
    rw [risingS, Bool.and_eq_true] at h
    have ih := rising_pw r y h.2
    refine List.pairwise_cons.mpr ⟨fun z hz => ?_, ih⟩
    rcases List.mem_cons.mp hz with rfl | hz
    · exact h.1
    · exact leS_trans (show leS p y = true from h.1) ((List.pairwise_cons.mp ih).1 z hz)
theorem sorted_pw {ys : List Str} (h : sortedS ys = true) : ys.Pairwise (fun a b => leS a b = true) := by
  cases ys with
  | nil => exact List.Pairwise.nil
  | cons y r => exact rising_pw r y h
theorem perm_uniq : ∀ {xs ys : List Str}, xs.Perm ys → xs.Pairwise (fun a b => leS a b = true) → ys.Pairwise (fun a b => leS a b = true) → xs = ys
  | [], ys, p, _, _ => by have := p.length_eq; cases ys with
    | nil => rfl
    | cons _ _ => cases this
  | x :: r, [], p, _, _ => by have := p.length_eq; cases this
  | x :: r, y :: s, p, h1, h2 => by
    have a := List.pairwise_cons.mp h1
    have b := List.pairwise_cons.mp h2
    have e : x = y := by
      rcases List.mem_cons.mp (p.mem_iff.mp List.mem_cons_self : x ∈ y :: s) with e | hx
      · exact e
      · rcases List.mem_cons.mp (p.mem_iff.mpr List.mem_cons_self : y ∈ x :: r) with e | hy
        · exact e.symm
        · exact leS_anti (a.1 y hy) (b.1 x hx)
    subst e
    rw [perm_uniq (List.Perm.cons_inv p) a.2 b.2]
def srtS (ks : List Str) : List Str := ks.mergeSort leS
theorem srt_perm (ks : List Str) : (srtS ks).Perm ks := List.mergeSort_perm ks leS
theorem srt_pw (ks : List Str) : (srtS ks).Pairwise (fun a b => leS a b = true) := List.pairwise_mergeSort (le := leS) (fun a b c h1 h2 => leS_trans h1 h2) (fun a b => by rcases leS_total a b with h | h <;> simp [h]) ks
theorem srt_uniq {ks ys : List Str} (p : ys.Perm ks) (h : sortedS ys = true) : ys = srtS ks := perm_uniq (p.trans (srt_perm ks).symm) (sorted_pw h) (srt_pw ks)
/-! ### dicts of the store, more -/
theorem DaK.keys {K : PySem.W.Frag} {F : Hp} : ∀ {a b}, DaK K F a b → a.map (·.1) = b.map (·.1)
  | _, _, .nil => rfl
  | _, _, .cons _ r => by rw [List.map_cons, List.map_cons, DaK.keys r]
def keyS : List Key → Option (List Str)
  | [] => some []
  | .inr x :: r => (keyS r).map (x :: ·)
  | .inl _ :: _ => none
theorem keyS_eq : ∀ {ks : List Key} {ss : List Str}, keyS ks = some ss → ks = ss.map Sum.inr
  | [], ss, h => by cases h; rfl
  | .inr x :: r, ss, h => by
    rw [keyS] at h
    cases e : keyS r with
    | none => rw [e] at h; cases h
    | some ts => rw [e] at h; cases h; rw [List.map_cons, keyS_eq e]
  | .inl _ :: _, ss, h => by cases h
def kD : Key → D
  | .inl i => .int i
  | .inr x => .str x
section
variable {ι : Type} {xr : Str → Option Value} {K : PySem.W.Frag} {X : ι → Cx} {W : WX} {N : List Str} {mg : Str → Option Value}
/-- o[k] of a dict of the store -/
def eDIx (f g : Sm MX S) : Sm MX S := fun z => (opd f z).bind fun s z1 => (opd g z1).bind fun s' z2 => match dictAt z2 s, (rd z2 s').bind keyD with
  | some (_, ps), some k => (match valD ps k with
    | some d => .ok (.d d) z2
    | none => .bad)
  | _, _ => .bad
theorem de_dix {o i : Expr} {f g : Sm MX S} {pos : Pos} (p : Pl K X N mg) (ho : DE MX xr K X W o f) (hi : DE MX xr K X W i g) (hs : NoSl i := by exact fun _ _ => rfl) : DE MX xr K X W (.Subscript o i pos) (eDIx f g) := by
  obtain ⟨t1, p1, c1⟩ := ho
  obtain ⟨t2, p2, c2⟩ := hi
  refine ⟨tDGet t1 t2, fun j => pe_dget (by have := p.u j; omega) (p1 j) (p2 j) hs, fun G σ H F z Q hK hx ok hh => ?_⟩
  refine cmp_opd c1 G σ H F z _ hK hx ok (hit_bind hh fun s z1 v H1 F1 _ sm1 ok1 ev h1 => ?_)
  refine cmp_opd c2 G σ H1 F1 z1 _ hK hx ok1 (hit_bind h1 fun s' z2 v' H2 F2 _ sm2 ok2 ev2 h2 => ?_)
  cases e2 : dictAt z2 s with
  | none => simp only [e2] at h2; exact h2.elim
  | some q =>
    obtain ⟨n, ps⟩ := q
    cases e3 : (rd z2 s').bind keyD with
    | none => simp only [e2, e3] at h2; exact h2.elim
    | some k =>
      simp only [e2, e3] at h2
      obtain ⟨a, kvs, rfl, ha, em, hH, hk⟩ := dictAt_rv ok2 (EO.mono sm2 ev) e2
      cases er : rd z2 s' with
      | none => rw [er] at e3; cases e3
      | some d =>
        rw [er] at e3
        have hv := keyD_v (EO.rv ok2 ev2 er) e3
        subst hv
        rcases hk.val k with ⟨e4, e5⟩ | ⟨v, d, e4, e5, e6⟩
        · rw [e4] at h2; exact h2.elim
        · rw [e4] at h2
          have dg := DGet.k (k := k) hH
          rw [e5] at dg
          exact ⟨a, v, rfl, dg, h2 v H2 F2 (Same.refl _) ok2 e6⟩
/-- k in o -/
def eDIn (b : Bool) (g f : Sm MX S) : Sm MX S := fun z => (opd g z).bind fun s' z1 => (opd f z1).bind fun s z2 => match dictAt z2 s, (rd z2 s').bind keyD with
  | some (_, ps), some k => .ok (.d (.bl (if b = true then (valD ps k).isSome else !(valD ps k).isSome))) z2
  | _, _ => .bad
theorem cmp_din {b : Bool} {t1 t2 : TE} {f g : Sm MX S} (c2 : Cmp MX K xr W t2 RelE g) (c1 : Cmp MX K xr W t1 RelE f) : Cmp MX K xr W (fun σ H Q => t2 σ H fun y H1 => t1 σ H1 fun x H2 => ∃ a o, x = .ref a ∧ DGet H2 a y o ∧ Q (.bl (if b = true then o.isSome else !o.isSome)) H2) RelE (eDIn b g f) := by
  intro G σ H F z Q hK hx ok hh
  refine cmp_opd c2 G σ H F z _ hK hx ok (hit_bind hh fun s' z1 v' H1 F1 _ sm1 ok1 ev2 h1 => ?_)
  refine cmp_opd c1 G σ H1 F1 z1 _ hK hx ok1 (hit_bind h1 fun s z2 v H2 F2 _ sm2 ok2 ev h2 => ?_)
  cases e2 : dictAt z2 s with
  | none => simp only [e2] at h2; exact h2.elim
  | some q =>
    obtain ⟨n, ps⟩ := q
    cases e3 : (rd z2 s').bind keyD with
    | none => simp only [e2, e3] at h2; exact h2.elim
    | some k =>
      simp only [e2, e3] at h2
      obtain ⟨a, kvs, rfl, ha, em, hH, hk⟩ := dictAt_rv ok2 ev e2
      cases er : rd z2 s' with
      | none => rw [er] at e3; cases e3
      | some d =>
        rw [er] at e3
        have hv := keyD_v (EO.rv ok2 (EO.mono sm2 ev2) er) e3
        subst hv
        have es : (valD ps k).isSome = (valV kvs k).isSome := by
          rcases hk.val k with ⟨e4, e5⟩ | ⟨v, d, e4, e5, e6⟩ <;> rw [e4, e5] <;> rfl
        rw [es] at h2
        exact ⟨a, _, rfl, DGet.k hH, h2 _ H2 F2 (Same.refl _) ok2 (Da.bl _)⟩
theorem de_din {o i : Expr} {f g : Sm MX S} {pos : Pos} (p : Pl K X N mg) (hi : DE MX xr K X W i g) (ho : DE MX xr K X W o f) (hb : behindInMarks .In o = false := by first | exact nobehind _ (by decide) (by decide) | rfl) : DE MX xr K X W (.Compare i [.In] [o] pos) (eDIn true g f) := by
  obtain ⟨t1, p1, c1⟩ := ho
  obtain ⟨t2, p2, c2⟩ := hi
  exact ⟨_, fun j => pe_cmp (pc_din (by have := p.u j; omega) (p2 j) (p1 j)) hb, cmp_din (b := true) c2 c1⟩
theorem de_dnotin {o i : Expr} {f g : Sm MX S} {pos : Pos} (p : Pl K X N mg) (hi : DE MX xr K X W i g) (ho : DE MX xr K X W o f) (hb : behindInMarks .NotIn o = false := by first | exact nobehind _ (by decide) (by decide) | rfl) : DE MX xr K X W (.Compare i [.NotIn] [o] pos) (eDIn false g f) := by
  obtain ⟨t1, p1, c1⟩ := ho
  obtain ⟨t2, p2, c2⟩ := hi
  exact ⟨_, fun j => pe_cmp (pc_dnotin (by have := p.u j; omega) (p2 j) (p1 j)) hb, cmp_din (b := false) c2 c1⟩
/-- dict(o) -/
def eDCopy (f : Sm MX S) : Sm MX S := fun z => (opd f z).bind fun s z1 => match dictAt z1 s with
  | some (_, ps) => .ok (.d (.o z1.m.length)) { z1 with m := z1.m ++ [.dK ps] }
  | none => .bad
theorem de_dcopy {e : Expr} {f : Sm MX S} {pp pos : Pos} (p : Pl K X N mg) (hm : mg "dict" = none) (he : DE MX xr K X W e f) (hg : ∀ j, Gl (X j) "dict" := by intro _; rfl) (hst : ∀ j, starEach [e] (X j).env = (false, eval e (X j).env) :: starEach [] (X j).env := by intro _; rfl) : DE MX xr K X W (.Call (.Name "dict" pp) [e] [] pos) (eDCopy f) := by
  obtain ⟨t1, p1, c1⟩ := he
  refine ⟨_, fun j => pe_callTy call_dictD (hg j) (by rw [p.g j]; exact hm) (by decide +kernel) (pa_cons (p1 j) pa_nil (hst j)) (by decide) (by decide) (hst j) (by rfl), fun G σ H F z Q hK hx ok hh => ?_⟩
  refine cmp_opd c1 G σ H F z _ hK hx ok (hit_bind hh fun s z1 v H1 F1 _ sm1 ok1 ev h1 => ?_)
  cases e2 : dictAt z1 s with
  | none => simp only [e2] at h1; exact h1.elim
  | some q =>
    obtain ⟨n, ps⟩ := q
    simp only [e2] at h1
    obtain ⟨a, kvs, rfl, ha, em, hH, hk⟩ := dictAt_rv ok1 ev e2
    refine ⟨a, kvs, rfl, .inl hH, fun q hq => ?_⟩
    have sF : Same F1 (upd F1 q (tag z1.m.length)) := same_upd (ok1.freshF hq)
    exact h1 (.ref q) (upd H1 q (.dK kvs)) (upd F1 q (tag z1.m.length)) sF (ok1.alloc hq ⟨kvs, upd_same, hk.mono sF⟩) (Da.o upd_same)
/-- sorted(o), o a dict of texts -/
def eDSort (f : Sm MX S) : Sm MX S := fun z => (opd f z).bind fun s z1 => match dictAt z1 s with
  | some (_, ps) => (match keyS (ps.map (·.1)) with
    | some ss => if ss.length < 64 then .ok (.l ((srtS ss).map D.str)) z1 else .bad
    | none => .bad)
  | none => .bad
theorem de_dsort {e : Expr} {f : Sm MX S} {pp pos : Pos} (p : Pl K X N mg) (hm : mg "sorted" = none) (he : DE MX xr K X W e f) (hg : ∀ j, Gl (X j) "sorted" := by intro _; rfl) (hst : ∀ j, starEach [e] (X j).env = (false, eval e (X j).env) :: starEach [] (X j).env := by intro _; rfl) : DE MX xr K X W (.Call (.Name "sorted" pp) [e] [] pos) (eDSort f) := by
  obtain ⟨t1, p1, c1⟩ := he
  refine ⟨_, fun j => pe_callB (call_sortedD (p.c j)) (hg j) (by rw [p.g j]; exact hm) (by decide +kernel) (pa_cons (p1 j) pa_nil (hst j)) (by decide) (by decide) (hst j) (by rfl), fun G σ H F z Q hK hx ok hh => ?_⟩
  refine cmp_opd c1 G σ H F z _ hK hx ok (hit_bind hh fun s z1 v H1 F1 _ sm1 ok1 ev h1 => ?_)
  cases e2 : dictAt z1 s with
  | none => simp only [e2] at h1; exact h1.elim
  | some q =>
    obtain ⟨n, ps⟩ := q
    simp only [e2] at h1
    obtain ⟨a, kvs, rfl, ha, em, hH, hk⟩ := dictAt_rv ok1 ev e2
    cases e3 : keyS (ps.map (·.1)) with
    | none => rw [e3] at h1; exact h1.elim
    | some ss =>
      simp only [e3] at h1
      by_cases hl : ss.length < 64
      · rw [if_pos hl] at h1
        refine ⟨a, kvs, ss, rfl, .inl hH, by rw [hk.keys]; exact keyS_eq e3, hl, fun ys q pm so hq => ?_⟩
        have := srt_uniq pm so
        subst this
        exact h1 (.ref q) (upd H1 q (.lst ((srtS ss).map V.str))) F1 (Same.refl _) (ok1.new hq _) ⟨q, _, rfl, upd_same, daAll_strs _, ok1.freshF hq, ok1.freshP hq, ok1.freshM hq, ok1.freshO hq⟩
      · rw [if_neg hl] at h1; exact h1.elim
/-- list(o) -/
def eDList (f : Sm MX S) : Sm MX S := fun z => (opd f z).bind fun s z1 => match dictAt z1 s with
  | some (_, ps) => .ok (.l (ps.map fun kv => kD kv.1)) z1
  | none => .bad
theorem daAll_keys {F : Hp} : ∀ ks : List Key, DaAll K F (ks.map kV) (ks.map kD)
  | [] => .nil
  | .inl i :: r => .cons (.int i) (daAll_keys r)
  | .inr x :: r => .cons (.str x) (daAll_keys r)
theorem de_dlist {e : Expr} {f : Sm MX S} {pp pos : Pos} (p : Pl K X N mg) (hm : mg "list" = none) (he : DE MX xr K X W e f) (hg : ∀ j, Gl (X j) "list" := by intro _; rfl) (hst : ∀ j, starEach [e] (X j).env = (false, eval e (X j).env) :: starEach [] (X j).env := by intro _; rfl) : DE MX xr K X W (.Call (.Name "list" pp) [e] [] pos) (eDList f) := by
  obtain ⟨t1, p1, c1⟩ := he
  refine ⟨_, fun j => pe_callTy (call_listD (p.c j)) (hg j) (by rw [p.g j]; exact hm) (by decide +kernel) (pa_cons (p1 j) pa_nil (hst j)) (by decide) (by decide) (hst j) (by rfl), fun G σ H F z Q hK hx ok hh => ?_⟩
  refine cmp_opd c1 G σ H F z _ hK hx ok (hit_bind hh fun s z1 v H1 F1 _ sm1 ok1 ev h1 => ?_)
  cases e2 : dictAt z1 s with
  | none => simp only [e2] at h1; exact h1.elim
  | some q =>
    obtain ⟨n, ps⟩ := q
    simp only [e2] at h1
    obtain ⟨a, kvs, rfl, ha, em, hH, hk⟩ := dictAt_rv ok1 ev e2
    refine ⟨a, kvs, rfl, .inl hH, fun q hq => ?_⟩
    have ek : (kvs.map fun kv => kV kv.1) = (ps.map (·.1)).map kV := by rw [← hk.keys, List.map_map]; rfl
    have ed : (ps.map fun kv => kD kv.1) = (ps.map (·.1)).map kD := by rw [List.map_map]; rfl
    rw [ek]
    rw [ed] at h1
    exact h1 (.ref q) (upd H1 q (.lst ((ps.map (·.1)).map kV))) F1 (Same.refl _) (ok1.new hq _) ⟨q, _, rfl, upd_same, daAll_keys _, ok1.freshF hq, ok1.freshP hq, ok1.freshM hq, ok1.freshO hq⟩
/-! ### (..) * k -/
def dRepT : D → D → Option R := fun a b => match a, b with
  | .tup xs, .int k => if xs ≠ [] ∧ 2 ≤ k ∧ k ≤ 1000 ∧ xs.length ≤ 1000 then some (.t (List.replicate k.toNat xs).flatten) else none
  | _, _ => none
theorem op2_repT : Op2 K (rRepT K) dRepT := by
  intro F H x y a b Q s ha hb h
  unfold dRepT at h
  split at h
  · rename_i xs k
    by_cases c : xs ≠ [] ∧ 2 ≤ k ∧ k ≤ 1000 ∧ xs.length ≤ 1000
    · rw [if_pos c] at h
      obtain ⟨l, vs, rfl, q, r⟩ := ha.tup s
      have hl := r.length
      refine ⟨l, k, vs, rfl, hb.int, q, fun e => c.1 (by rw [e] at hl; cases xs with
        | nil => rfl
        | cons _ _ => cases hl), c.2.1, c.2.2.1, by omega, fun p hp => h.2 p _ hp (r.rep _)⟩
    · rw [if_neg c] at h; exact h.elim
  · exact h.elim
theorem de_repT {a b : Expr} {f f' : Sm MX S} {pos : Pos} (p : Pl K X N mg) (ha : DE MX xr K X W a f) (hb : DE MX xr K X W b f') : DE MX xr K X W (.BinOp a .Mult b pos) (eBin dRepT f f') := de_bin (fun j => by rw [← p.k j]; exact op_repT) op2_repT ha hb
end
end G
namespace G
open PySem L2
def methS (st : Stmt) (j : Nat) : Stmt := match st with
  | .ClassDef _ _ _ body _ _ _ _ _ _ _ => body.getD j (.Pass ⟨0, 0, 0, 0⟩)
  | _ => .Pass ⟨0, 0, 0, 0⟩
theorem cls1 {K : PySem.W.Frag} {c x : Str} {C : Addr} (h : ClF K c C) (n : NoAttr K C x) : ∀ c' ∈ [c], ∃ C, ClF K c' C ∧ NoAttr K C x := by
  intro c' hc
  rcases List.mem_singleton.mp hc with rfl
  exact ⟨C, h, n⟩
end G
namespace G
open PySem L2
section
variable {ι : Type} {M : MI} {xr : Str → Option Value} {K : PySem.W.Frag} {X : ι → Cx} {W : WX}
/-- a, b, c = x, y, z -/
def sPar3 (i j l : Nat) (g : Sm M (List S)) : Sm M Out := fun z => (g z).bind fun ss z1 => match ss with
  | [.d x, .d y, .d w] => .ok .nx { z1 with rho := ((z1.rho.set i (some (.d x))).set j (some (.d y))).set l (some (.d w)) }
  | _ => .bad
theorem ds_par3 {i j l : Nat} {x y w : Str} {a b c : Expr} {g : Sm M (List S)} {px py pw pt pos : Pos} {kt k2 pt2} (hc : ∀ q, (X q).calm = true) (hN : ∀ q, (X q).N.Nodup) (hi : ∀ q, (X q).N[i]? = some x) (hj : ∀ q, (X q).N[j]? = some y) (hl : ∀ q, (X q).N[l]? = some w) (hij : i ≠ j) (hil : i ≠ l) (hjl : j ≠ l) (hx : ∀ q, (X q).env.scope.names.lookup x = some .local) (hy : ∀ q, (X q).env.scope.names.lookup y = some .local) (hz : ∀ q, (X q).env.scope.names.lookup w = some .local) (ha : DA M xr K X W [a, b, c] g)
    (hw : ∀ q, swappedStores [.Tuple [.Name x px, .Name y py, .Name w pw] kt pt] (.Tuple [a, b, c] k2 pt2) (X q).env = pure (some [x, y, w]) := by intro _; rfl) (hs : ∀ q, swapsWithSole [.Tuple [.Name x px, .Name y py, .Name w pw] kt pt] (.Tuple [a, b, c] k2 pt2) pos.line (X q).env = pure false := by intro _; rfl) :
    DS M xr K X W (.Assign [.Tuple [.Name x px, .Name y py, .Name w pw] kt pt] (.Tuple [a, b, c] k2 pt2) pos) (sPar3 i j l g) := by
  obtain ⟨t, p, cc⟩ := ha
  refine ⟨_, fun q => ps_par3 (hc q) (hN q) (hi q) (hj q) (hl q) hij hil hjl (hx q) (hy q) (hz q) (p q) (hw q) (hs q), fun G σ H F z D hK hx ok hh => ?_⟩
  refine cc G σ H F z _ hK hx ok (hits_bind hh fun ss z1 vs H1 F1 _ sm ok1 ea h2 => ?_)
  match ss, vs, ea, h2 with
  | [.d x, .d y, .d w], _, .cons a (.cons b (.cons c .nil)), h2 =>
    refine ⟨_, _, _, rfl, h2 _ H1 F1 (Same.refl _) ?_⟩
    have ok2 := ok1.set (i := i) (s := .d x) (show Da G.K F1 _ x from a) (fun _ e => by cases e)
    have ok3 := ok2.set (i := j) (s := .d y) (show Da G.K F1 _ y from b) (fun _ e => by cases e)
    exact ok3.set (i := l) (s := .d w) (show Da G.K F1 _ w from c) (fun _ e => by cases e)
  | [], _, _, h2 => exact h2.elim
  | [.d _], _, _, h2 => exact h2.elim
  | [.d _, .d _], _, _, h2 => exact h2.elim
  | .l _ :: _, _, _, h2 => exact h2.elim
  | .v _ :: _, _, _, h2 => exact h2.elim
  | .m _ :: _, _, _, h2 => exact h2.elim
  | .d _ :: .l _ :: _, _, _, h2 => exact h2.elim
  | .d _ :: .v _ :: _, _, _, h2 => exact h2.elim
  | .d _ :: .m _ :: _, _, _, h2 => exact h2.elim
  | .d _ :: .d _ :: .l _ :: _, _, _, h2 => exact h2.elim
  | .d _ :: .d _ :: .v _ :: _, _, _, h2 => exact h2.elim
  | .d _ :: .d _ :: .m _ :: _, _, _, h2 => exact h2.elim
  | .d _ :: .d _ :: .d _ :: _ :: _, _, _, h2 => exact h2.elim
end
end G
namespace L
open PySem L2 G
def topS (i : Nat) : Stmt := PySem.Challenge.pw_groundroom_k64_rules_known.main.body.getD i (.Pass ⟨0, 0, 0, 0⟩)
abbrev s_within : Stmt := topS 5
abbrev s_parts_of : Stmt := topS 6
abbrev s_Known___init__ : Stmt := methS (topS 8) 0
abbrev s_Known_again : Stmt := methS (topS 8) 1
abbrev s_Known_with_entry : Stmt := methS (topS 8) 2
abbrev s_Known_statement : Stmt := methS (topS 8) 7
abbrev s_known_of : Stmt := topS 10
abbrev s_Rule___init__ : Stmt := methS (topS 13) 0
abbrev s_times_in : Stmt := topS 14
abbrev s_rule_of : Stmt := topS 15
abbrev s_is_rule : Stmt := topS 16
abbrev s__law_cell : Stmt := topS 18
abbrev s__law_entries : Stmt := topS 19
abbrev s__law_kids : Stmt := topS 21
abbrev s__law_sames : Stmt := topS 22
abbrev s__law_whole : Stmt := topS 23
abbrev s__law_ruled : Stmt := topS 24
abbrev s__law_parts : Stmt := topS 25
abbrev s__law_times : Stmt := topS 26
abbrev s__law_is_rule : Stmt := topS 27
abbrev s__law_shaped : Stmt := topS 28
abbrev s__law_odd : Stmt := topS 29
abbrev s_law : Stmt := topS 30
inductive Fn where
  | within
  | parts_of
  | Known___init__
  | Known_again
  | Known_with_entry
  | Known_statement
  | known_of
  | Rule___init__
  | times_in
  | rule_of
  | is_rule
  | _law_cell
  | _law_entries
  | _law_kids
  | _law_sames
  | _law_whole
  | _law_ruled
  | _law_parts
  | _law_times
  | _law_is_rule
  | _law_shaped
  | _law_odd
def c_BOUND : D := (.tup [(.str "all"), (.str "some")])
def c_CALLED : D := (.tup [(.str "call"), (.str "rel")])
def c_JOINED : D := (.tup [(.str "same"), (.str "and"), (.str "or"), (.str "if")])
def c_MOST_ALLS : D := (.int 6)
abbrev lawLevel : Nat := 200
abbrev whileN : Nat := 1000000000
def m_within (call : Fn → List S → (List MO) → Rs S (List MO)) : Sm MX Out :=
    (sSeq (sIf (tOf (eBin dIn (eBin dIx (eVar 0) (eC (.int 0))) (eC c_CALLED))) (sRet (eFn fList (aCons (opd (eBin dIx (eVar 0) (eC (.int 2)))) aNil))) sNil)
    (sSeq (sIf (tOf (eBin dIn (eBin dIx (eVar 0) (eC (.int 0))) (eC c_JOINED))) (sRet (eFn fList (aCons (opd (eSl dSl (eVar 0) (oInt (eC (.int 1))) (fun z => .ok none z))) aNil))) sNil)
    (sRet (eIf (tOf (eBin dIn (eBin dIx (eVar 0) (eC (.int 0))) (eC c_BOUND))) (eLst (aCons (escf (eBin dIx (eVar 0) (eC (.int 2)))) aNil)) (eLst aNil)))))
def m_parts_of (call : Fn → List S → (List MO) → Rs S (List MO)) : Sm MX Out :=
    (sSeq (sSet 1 (eC (.int 0)))
    (sSeq (sSet 2 (eLst (aCons (escf (eVar 0)) aNil)))
    (sSeq (sWhile (tOf (eBin dNe (eVar 2) (eLst aNil))) (sSeq (sSet 1 (eBin dAdd (eVar 1) (eC (.int 1))))
    (sExpr (eExt 2 (eCall (call .within) (aCons (escf (ePop 2)) aNil))))) whileN)
    (sRet (eVar 1)))))
def m_Known___init__ (call : Fn → List S → (List MO) → Rs S (List MO)) : Sm MX Out :=
    (sSeq (sFldM ["Known"] "told_sorts" eNewD (eVar 0))
    (sSeq (sFldM ["Known"] "told_calls" eNewD (eVar 0))
    (sSeq (sFldM ["Known"] "told_rels" eNewD (eVar 0))
    (sSeq (sFldM ["Known"] "told_means" eNewD (eVar 0))
    (sFldM ["Known"] "told_facts" eNewD (eVar 0))))))
def m_Known_again (call callI : Fn → List S → (List MO) → Rs S (List MO)) : Sm MX Out :=
    (sSeq (sSet 1 (eMake "Known" (callI .Known___init__) aNil))
    (sSeq (sFldM ["Known"] "told_sorts" (eDCopy (eFld ["Known"] "told_sorts" (eVar 0))) (eVar 1))
    (sSeq (sFldM ["Known"] "told_calls" (eDCopy (eFld ["Known"] "told_calls" (eVar 0))) (eVar 1))
    (sSeq (sFldM ["Known"] "told_rels" (eDCopy (eFld ["Known"] "told_rels" (eVar 0))) (eVar 1))
    (sSeq (sFldM ["Known"] "told_means" (eDCopy (eFld ["Known"] "told_means" (eVar 0))) (eVar 1))
    (sSeq (sFldM ["Known"] "told_facts" (eDCopy (eFld ["Known"] "told_facts" (eVar 0))) (eVar 1))
    (sRet (eVar 1))))))))
def m_Known_with_entry (call : Fn → List S → (List MO) → Rs S (List MO)) : Sm MX Out :=
    (sSeq (sSet 2 (eCall (call .Known_again) (aMeth "Known" "again" (eVar 0) aNil)))
    (sSeq (sAsg (eSl dSl (eVar 1) (fun z => .ok none z) (oInt (eC (.int 2)))) (kTup 2 (ksCons (kName 3) (ksCons (kName 4) ksNil))))
    (sSeq (sIf (tOf (eBin dEq (eVar 3) (eC (.str "sort")))) (sSeq (sDPutM (eBin dIx (eVar 1) (eC (.int 2))) (eFld ["Known"] "told_sorts" (eVar 2)) (eVar 4))
    (sFor (iAnyM (eBin dIx (eVar 1) (eC (.int 2)))) (kName 5) (sDPutM (eTup (aCons (escf (eTup aNil)) (aCons (escf (eVar 4)) aNil))) (eFld ["Known"] "told_calls" (eVar 2)) (eVar 5)))) (sIf (tOf (eBin dEq (eVar 3) (eC (.str "func")))) (sDPutM (eTup (aCons (escf (eBin dIx (eVar 1) (eC (.int 2)))) (aCons (escf (eBin dIx (eVar 1) (eC (.int 3)))) aNil))) (eFld ["Known"] "told_calls" (eVar 2)) (eVar 4)) (sIf (tOf (eBin dIn (eVar 3) (eTup (aCons (escf (eC (.str "taken"))) (aCons (escf (eC (.str "shown"))) aNil))))) (sDPutM (eBin dIx (eVar 1) (eC (.int 2))) (eFld ["Known"] "told_facts" (eVar 2)) (eVar 4)) (sSeq (sDPutM (eBin dIx (eVar 1) (eC (.int 2))) (eFld ["Known"] "told_rels" (eVar 2)) (eVar 4))
    (sIf (tOf (eBin dEq (eVar 3) (eC (.str "mean")))) (sDPutM (eBin dIx (eVar 1) (eC (.int 3))) (eFld ["Known"] "told_means" (eVar 2)) (eVar 4)) sNil)))))
    (sRet (eVar 2)))))
def m_Known_statement (call : Fn → List S → (List MO) → Rs S (List MO)) : Sm MX Out :=
    (sRet (eDGet2 (eFld ["Known"] "told_facts" (eVar 0)) (eVar 1) (eC .non)))
def m_known_of (call callI : Fn → List S → (List MO) → Rs S (List MO)) : Sm MX Out :=
    (sSeq (sSet 1 (eMake "Known" (callI .Known___init__) aNil))
    (sSeq (sFor (iAnyM (eVar 0)) (kName 2) (sSet 1 (eCall (call .Known_with_entry) (aMeth "Known" "with_entry" (eVar 1) (aCons (escf (eVar 2)) aNil)))))
    (sRet (eVar 1))))
def m_Rule___init__ (call : Fn → List S → (List MO) → Rs S (List MO)) : Sm MX Out :=
    (sSeq (sFldM ["Rule"] "name" (eVar 1) (eVar 0))
    (sSeq (sFldM ["Rule"] "many" (eVar 2) (eVar 0))
    (sSeq (sFldM ["Rule"] "left" (eVar 3) (eVar 0))
    (sFldM ["Rule"] "right" (eVar 4) (eVar 0)))))
def m_times_in (call : Fn → List S → (List MO) → Rs S (List MO)) : Sm MX Out :=
    (sRet (eBin dAdd (eFn fInt (aCons (opd (eBin dEq (eVar 0) (eTup (aCons (escf (eC (.str "var"))) (aCons (escf (eVar 1)) aNil))))) aNil)) (eFn fSum (aCons (opd (eLc (iAnyM (eCall (call .within) (aCons (escf (eVar 0)) aNil))) (kName 2) (fun z => .ok true z) (eCall (call .times_in) (aCons (escf (eVar 2)) (aCons (escf (eVar 1)) aNil))) [2])) aNil))))
def m_rule_of (call callI : Fn → List S → (List MO) → Rs S (List MO)) : Sm MX Out :=
    (sSeq (sSet 2 (eIf (tTru dTru (eUn (dIsiN "str") (eVar 1))) (eCall (call .Known_statement) (aMeth "Known" "statement" (eVar 0) (aCons (escf (eVar 1)) aNil))) (eC .non)))
    (sSeq (sSet 3 (eC (.int 0)))
    (sSeq (sWhile (tAndM (tOf (eBin dIsNot (eVar 2) (eC .non))) (tOf (eBin dEq (eBin dIx (eVar 2) (eC (.int 0))) (eC (.str "all"))))) (sSeq (sSet 2 (eBin dIx (eVar 2) (eC (.int 2))))
    (sSet 3 (eBin dAdd (eVar 3) (eC (.int 1))))) whileN)
    (sSeq (sIf (tOrM (tOf (eBin dIs (eVar 2) (eC .non))) (tOrM (tOf (eBin dGt (eVar 3) (eC c_MOST_ALLS))) (tOrM (tOf (eBin dNe (eBin dIx (eVar 2) (eC (.int 0))) (eC (.str "same")))) (tOrM (tOf (eBin dNe (eBin dIx (eBin dIx (eVar 2) (eC (.int 1))) (eC (.int 0))) (eC (.str "call")))) (tOf (eBin dGe (eCall (call .parts_of) (aCons (escf (eBin dIx (eVar 2) (eC (.int 2)))) aNil)) (eCall (call .parts_of) (aCons (escf (eBin dIx (eVar 2) (eC (.int 1)))) aNil)))))))) (sRet (eC .non)) sNil)
    (sSeq (sFor (iRg1M (aCons (opd (eVar 3)) aNil)) (kName 4) (sIf (tNotM (tOf (eBin dLe (eFn fMax (aCons (opd (eC (.int 1))) (aCons (opd (eCall (call .times_in) (aCons (escf (eBin dIx (eVar 2) (eC (.int 2)))) (aCons (escf (eVar 4)) aNil)))) aNil))) (eCall (call .times_in) (aCons (escf (eBin dIx (eVar 2) (eC (.int 1)))) (aCons (escf (eVar 4)) aNil)))))) (sRet (eC .non)) sNil))
    (sRet (eMake "Rule" (callI .Rule___init__) (aCons (escf (eVar 1)) (aCons (escf (eVar 3)) (aCons (escf (eBin dIx (eVar 2) (eC (.int 1)))) (aCons (escf (eBin dIx (eVar 2) (eC (.int 2)))) aNil)))))))))))
def m_is_rule (call : Fn → List S → (List MO) → Rs S (List MO)) : Sm MX Out :=
    (sRet (eBin dIsNot (eCall (call .rule_of) (aCons (escf (eCall (call .known_of) (aCons (escf (eVar 0)) aNil))) (aCons (escf (eVar 1)) aNil))) (eC .non)))
def m__law_cell (call : Fn → List S → (List MO) → Rs S (List MO)) : Sm MX Out :=
    (sSeq (sLPutM (eBin dAdd (eIxO (eVar 1) (eC (.int 0))) (eC (.int 1))) (eVar 1) (eC (.int 0)))
    (sSeq (sSet 2 (eIxO (eVar 1) (eC (.int 0))))
    (sSeq (sSet 3 (eBin dAdd (eBin dMul (eBin dMul (eC (.int 31)) (eVar 2)) (eVar 2)) (eBin dMul (eC (.int 7919)) (eVar 2))))
    (sSeq (sIf (tAndM (tOf (eBin dGt (eFn fLen (aCons (opd (eVar 0)) aNil)) (eC (.int 0)))) (tAndM (tOf (eBin dEq (eBin dMod (eBin dIx (eVar 0) (eC (.int 0))) (eC (.int 2))) (eC (.int 1)))) (tOf (eBin dLt (eBin dFdiv (eVar 2) (eFn fLen (aCons (opd (eVar 0)) aNil))) (eC (.int 60)))))) (sSeq (sSet 4 (eBin dFdiv (eBin dIx (eVar 0) (eBin dMod (eVar 2) (eFn fLen (aCons (opd (eVar 0)) aNil)))) (eC (.int 2))))
    (sSeq (sFor (iRg1M (aCons (opd (eBin dFdiv (eVar 2) (eFn fLen (aCons (opd (eVar 0)) aNil)))) aNil)) (kName 5) (sSet 4 (eBin dFdiv (eVar 4) (eC (.int 306783379)))))
    (sIf (tOf (eBin dGt (eVar 4) (eC (.int 0)))) (sRet (eBin dMod (eVar 4) (eC (.int 306783379)))) sNil))) sNil)
    (sSeq (sIf (tOf (eBin dGt (eFn fLen (aCons (opd (eVar 0)) aNil)) (eC (.int 0)))) (sSet 3 (eBin dAdd (eVar 3) (eBin dMul (eBin dIx (eVar 0) (eBin dMod (eVar 2) (eFn fLen (aCons (opd (eVar 0)) aNil)))) (eBin dAdd (eC (.int 1)) (eBin dFdiv (eVar 2) (eFn fLen (aCons (opd (eVar 0)) aNil))))))) sNil)
    (sRet (eBin dFdiv (eBin dMod (eBin dMul (eVar 3) (eC (.int 48271))) (eC (.int 2147483647))) (eC (.int 7)))))))))
def m__law_entries (call : Fn → List S → (List MO) → Rs S (List MO)) : Sm MX Out :=
    (sSeq (sSet 1 (eBin dIx (eLst (aCons (escf (eC (.str ""))) (aCons (escf (eC (.str "a"))) (aCons (escf (eC (.str "x1"))) (aCons (escf (eC (.str "7"))) (aCons (escf (eC (.str "bb"))) aNil)))))) (eBin dMod (eVar 0) (eC (.int 5)))))
    (sSeq (sAsg (eTup (aCons (escf (eBin dAdd (eC (.str "s")) (eVar 1))) (aCons (escf (eBin dAdd (eC (.str "m")) (eVar 1))) (aCons (escf (eTup (aCons (escf (eC (.str "call"))) (aCons (escf (eBin dAdd (eC (.str "c")) (eVar 1))) (aCons (escf (eTup aNil)) aNil))))) (aCons (escf (eTup (aCons (escf (eC (.str "var"))) (aCons (escf (eC (.int 0))) aNil)))) (aCons (escf (eTup (aCons (escf (eC (.str "var"))) (aCons (escf (eC (.int 1))) aNil)))) aNil)))))) (kTup 5 (ksCons (kName 2) (ksCons (kName 3) (ksCons (kName 4) (ksCons (kName 5) (ksCons (kName 6) ksNil)))))))
    (sSeq (sSet 7 (eFn fTuple (aCons (opd (eLc (iAnyM (eSl dSl (eC (.str "abcd")) (fun z => .ok none z) (oInt (eBin dAdd (eC (.int 2)) (eBin dMod (eBin dFdiv (eVar 0) (eC (.int 5))) (eC (.int 3))))))) (kName 9) (fun z => .ok true z) (eBin dAdd (eBin dAdd (eC (.str "k")) (eVar 9)) (eVar 1)) [9])) aNil)))
    (sSeq (sSet 8 (eLst (aCons (escf (eTup (aCons (escf (eC (.str "sort"))) (aCons (escf (eVar 2)) (aCons (escf (eTup aNil)) aNil))))) (aCons (escf (eTup (aCons (escf (eC (.str "sort"))) (aCons (escf (eVar 3)) (aCons (escf (eVar 7)) aNil))))) (aCons (escf (eTup (aCons (escf (eC (.str "func"))) (aCons (escf (eBin dAdd (eC (.str "c")) (eVar 1))) (aCons (escf (eTup aNil)) (aCons (escf (eVar 2)) aNil)))))) (aCons (escf (eTup (aCons (escf (eC (.str "func"))) (aCons (escf (eBin dAdd (eC (.str "f")) (eVar 1))) (aCons (escf (eTup (aCons (escf (eVar 2)) aNil))) (aCons (escf (eVar 2)) aNil)))))) aNil))))))
    (sSeq (sSet 8 (eBin dAdd (eVar 8) (eLst (aCons (escf (eTup (aCons (escf (eC (.str "func"))) (aCons (escf (eBin dAdd (eC (.str "g")) (eVar 1))) (aCons (escf (eTup (aCons (escf (eVar 2)) (aCons (escf (eVar 3)) aNil)))) (aCons (escf (eVar 2)) aNil)))))) (aCons (escf (eTup (aCons (escf (eC (.str "rel"))) (aCons (escf (eBin dAdd (eC (.str "p")) (eVar 1))) (aCons (escf (eTup (aCons (escf (eVar 2)) aNil))) aNil))))) (aCons (escf (eTup (aCons (escf (eC (.str "rel"))) (aCons (escf (eBin dAdd (eC (.str "q")) (eVar 1))) (aCons (escf (eTup (aCons (escf (eVar 2)) (aCons (escf (eVar 3)) aNil)))) aNil))))) (aCons (escf (eTup (aCons (escf (eC (.str "rel"))) (aCons (escf (eBin dAdd (eC (.str "z")) (eVar 1))) (aCons (escf (eTup aNil)) aNil))))) aNil)))))))
    (sSeq (sSet 8 (eBin dAdd (eVar 8) (eLst (aCons (escf (eTup (aCons (escf (eC (.str "mean"))) (aCons (escf (eBin dAdd (eC (.str "top")) (eVar 1))) (aCons (escf (eTup (aCons (escf (eVar 2)) aNil))) (aCons (escf (eTup (aCons (escf (eC (.str "same"))) (aCons (escf (eVar 5)) (aCons (escf (eVar 5)) aNil))))) aNil)))))) (aCons (escf (eTup (aCons (escf (eC (.str "mean"))) (aCons (escf (eBin dAdd (eC (.str "eq")) (eVar 1))) (aCons (escf (eTup (aCons (escf (eVar 2)) (aCons (escf (eVar 2)) aNil)))) (aCons (escf (eTup (aCons (escf (eC (.str "same"))) (aCons (escf (eVar 6)) (aCons (escf (eVar 5)) aNil))))) aNil)))))) aNil)))))
    (sSeq (sSet 8 (eBin dAdd (eVar 8) (eLst (aCons (escf (eTup (aCons (escf (eC (.str "taken"))) (aCons (escf (eBin dAdd (eC (.str "hp")) (eVar 1))) (aCons (escf (eTup (aCons (escf (eC (.str "all"))) (aCons (escf (eVar 2)) (aCons (escf (eTup (aCons (escf (eC (.str "rel"))) (aCons (escf (eBin dAdd (eC (.str "p")) (eVar 1))) (aCons (escf (eTup (aCons (escf (eVar 5)) aNil))) aNil))))) aNil))))) aNil))))) (aCons (escf (eTup (aCons (escf (eC (.str "taken"))) (aCons (escf (eBin dAdd (eC (.str "hz")) (eVar 1))) (aCons (escf (eTup (aCons (escf (eC (.str "rel"))) (aCons (escf (eBin dAdd (eC (.str "z")) (eVar 1))) (aCons (escf (eTup aNil)) aNil))))) aNil))))) aNil)))))
    (sSeq (sExpr (eApp 8 (eTup (aCons (escf (eC (.str "taken"))) (aCons (escf (eBin dAdd (eC (.str "hq")) (eVar 1))) (aCons (escf (eTup (aCons (escf (eC (.str "some"))) (aCons (escf (eVar 3)) (aCons (escf (eTup (aCons (escf (eC (.str "rel"))) (aCons (escf (eBin dAdd (eC (.str "q")) (eVar 1))) (aCons (escf (eTup (aCons (escf (eVar 4)) (aCons (escf (eVar 5)) aNil)))) aNil))))) aNil))))) aNil))))))
    (sRet (eFn fTuple (aCons (opd (eVar 8)) aNil)))))))))))
def m__law_kids (call : Fn → List S → (List MO) → Rs S (List MO)) : Sm MX Out :=
    (sSeq (sIf (tOf (eBin dIn (eBin dIx (eVar 0) (eC (.int 0))) (eTup (aCons (escf (eC (.str "call"))) (aCons (escf (eC (.str "rel"))) aNil))))) (sRet (eFn fList (aCons (opd (eBin dIx (eVar 0) (eC (.int 2)))) aNil))) sNil)
    (sSeq (sIf (tOf (eBin dIn (eBin dIx (eVar 0) (eC (.int 0))) (eTup (aCons (escf (eC (.str "all"))) (aCons (escf (eC (.str "some"))) aNil))))) (sRet (eLst (aCons (escf (eBin dIx (eVar 0) (eC (.int 2)))) aNil))) sNil)
    (sRet (eLc (iAnyM (eSl dSl (eVar 0) (oInt (eC (.int 1))) (fun z => .ok none z))) (kName 1) (tTru dTru (eUn (dIsiN "tuple") (eVar 1))) (eVar 1) [1]))))
def m__law_sames (call : Fn → List S → (List MO) → Rs S (List MO)) : Sm MX Out :=
    (sSeq (sPar3 1 2 3 (aCons (escf (eBin dIx (eBin dIx (eVar 0) (eC (.int 0))) (eC (.int 1)))) (aCons (escf (eBin dIx (eBin dIx (eVar 0) (eC (.int 1))) (eC (.int 1)))) (aCons (escf (eBin dIx (eBin dIx (eVar 0) (eC (.int 4))) (eC (.int 1)))) aNil))))
    (sSeq (sAsg (eTup (aCons (escf (eTup (aCons (escf (eC (.str "var"))) (aCons (escf (eC (.int 0))) aNil)))) (aCons (escf (eTup (aCons (escf (eC (.str "var"))) (aCons (escf (eC (.int 1))) aNil)))) (aCons (escf (eTup (aCons (escf (eC (.str "call"))) (aCons (escf (eBin dIx (eBin dIx (eVar 0) (eC (.int 2))) (eC (.int 1)))) (aCons (escf (eTup aNil)) aNil))))) (aCons (escf (eTup (aCons (escf (eC (.str "call"))) (aCons (escf (eBin dIx (eBin dIx (eBin dIx (eVar 0) (eC (.int 1))) (eC (.int 2))) (eC (.int 0)))) (aCons (escf (eTup aNil)) aNil))))) aNil))))) (kTup 4 (ksCons (kName 4) (ksCons (kName 5) (ksCons (kName 6) (ksCons (kName 7) ksNil))))))
    (sSeq (sPar 8 9 (aCons (escf (eTup (aCons (escf (eC (.str "call"))) (aCons (escf (eBin dIx (eBin dIx (eVar 0) (eC (.int 3))) (eC (.int 1)))) (aCons (escf (eTup (aCons (escf (eVar 4)) aNil))) aNil))))) (aCons (escf (eTup (aCons (escf (eC (.str "call"))) (aCons (escf (eBin dIx (eBin dIx (eVar 0) (eC (.int 3))) (eC (.int 1)))) (aCons (escf (eTup (aCons (escf (eVar 5)) aNil))) aNil))))) aNil)))
    (sSeq (sPar3 10 11 12 (aCons (escf (eTup (aCons (escf (eC (.str "call"))) (aCons (escf (eBin dIx (eBin dIx (eVar 0) (eC (.int 3))) (eC (.int 1)))) (aCons (escf (eTup (aCons (escf (eVar 8)) aNil))) aNil))))) (aCons (escf (eTup (aCons (escf (eC (.str "call"))) (aCons (escf (eBin dIx (eBin dIx (eVar 0) (eC (.int 3))) (eC (.int 1)))) (aCons (escf (eTup (aCons (escf (eVar 6)) aNil))) aNil))))) (aCons (escf (eTup (aCons (escf (eC (.str "call"))) (aCons (escf (eVar 3)) (aCons (escf (eTup (aCons (escf (eVar 4)) (aCons (escf (eVar 7)) aNil)))) aNil))))) aNil))))
    (sSeq (sPar3 13 14 15 (aCons (escf (eTup (aCons (escf (eC (.str "call"))) (aCons (escf (eVar 3)) (aCons (escf (eTup (aCons (escf (eVar 5)) (aCons (escf (eVar 4)) aNil)))) aNil))))) (aCons (escf (eTup (aCons (escf (eC (.str "call"))) (aCons (escf (eVar 3)) (aCons (escf (eTup (aCons (escf (eVar 9)) (aCons (escf (eVar 4)) aNil)))) aNil))))) (aCons (escf (eTup (aCons (escf (eC (.str "call"))) (aCons (escf (eVar 3)) (aCons (escf (eTup (aCons (escf (eVar 6)) (aCons (escf (eVar 7)) aNil)))) aNil))))) aNil))))
    (sSeq (sSet 16 (eLst (aCons (escf (eTup (aCons (escf (eTup (aCons (escf (eVar 1)) aNil))) (aCons (escf (eVar 8)) (aCons (escf (eVar 4)) aNil))))) (aCons (escf (eTup (aCons (escf (eTup (aCons (escf (eVar 1)) aNil))) (aCons (escf (eVar 10)) (aCons (escf (eVar 8)) aNil))))) (aCons (escf (eTup (aCons (escf (eTup aNil)) (aCons (escf (eVar 11)) (aCons (escf (eVar 6)) aNil))))) (aCons (escf (eTup (aCons (escf (eTup (aCons (escf (eVar 1)) (aCons (escf (eVar 2)) aNil)))) (aCons (escf (eVar 13)) (aCons (escf (eVar 5)) aNil))))) (aCons (escf (eTup (aCons (escf (eTup (aCons (escf (eVar 1)) aNil))) (aCons (escf (eVar 12)) (aCons (escf (eVar 8)) aNil))))) (aCons (escf (eTup (aCons (escf (eTup (aCons (escf (eVar 1)) (aCons (escf (eVar 2)) aNil)))) (aCons (escf (eVar 14)) (aCons (escf (eVar 13)) aNil))))) aNil))))))))
    (sSeq (sSet 16 (eBin dAdd (eVar 16) (eLst (aCons (escf (eTup (aCons (escf (eTup aNil)) (aCons (escf (eVar 15)) (aCons (escf (eVar 6)) aNil))))) (aCons (escf (eTup (aCons (escf (eTup (aCons (escf (eVar 1)) (aCons (escf (eVar 2)) aNil)))) (aCons (escf (eVar 13)) (aCons (escf (eVar 6)) aNil))))) (aCons (escf (eTup (aCons (escf (eTup (aCons (escf (eVar 1)) aNil))) (aCons (escf (eTup (aCons (escf (eC (.str "call"))) (aCons (escf (eVar 3)) (aCons (escf (eTup (aCons (escf (eVar 8)) (aCons (escf (eVar 7)) aNil)))) aNil))))) (aCons (escf (eVar 4)) aNil))))) (aCons (escf (eTup (aCons (escf (eTup (aCons (escf (eVar 1)) (aCons (escf (eVar 2)) aNil)))) (aCons (escf (eVar 14)) (aCons (escf (eVar 9)) aNil))))) aNil)))))))
    (sSeq (sSet 17 (eVar 13))
    (sSeq (sFor (iRg1M (aCons (opd (eC (.int 4))) aNil)) (kName 18) (sSet 17 (eTup (aCons (escf (eC (.str "call"))) (aCons (escf (eBin dIx (eBin dIx (eVar 0) (eC (.int 3))) (eC (.int 1)))) (aCons (escf (eTup (aCons (escf (eVar 17)) aNil))) aNil))))))
    (sSeq (sSet 16 (eBin dAdd (eVar 16) (eLst (aCons (escf (eTup (aCons (escf (eTup (aCons (escf (eVar 1)) aNil))) (aCons (escf (eVar 4)) (aCons (escf (eVar 8)) aNil))))) (aCons (escf (eTup (aCons (escf (eTup (aCons (escf (eVar 1)) aNil))) (aCons (escf (eVar 8)) (aCons (escf (eVar 12)) aNil))))) (aCons (escf (eTup (aCons (escf (eTup (aCons (escf (eVar 1)) (aCons (escf (eVar 1)) aNil)))) (aCons (escf (eVar 8)) (aCons (escf (eVar 4)) aNil))))) (aCons (escf (eTup (aCons (escf (eTup aNil)) (aCons (escf (eVar 6)) (aCons (escf (eVar 6)) aNil))))) (aCons (escf (eTup (aCons (escf (eTup (aCons (escf (eVar 1)) aNil))) (aCons (escf (eVar 8)) (aCons (escf (eVar 8)) aNil))))) (aCons (escf (eTup (aCons (escf (eTup (aCons (escf (eVar 1)) (aCons (escf (eVar 2)) aNil)))) (aCons (escf (eVar 13)) (aCons (escf (eVar 14)) aNil))))) aNil)))))))))
    (sSeq (sSet 16 (eBin dAdd (eVar 16) (eLst (aCons (escf (eTup (aCons (escf (eTup (aCons (escf (eVar 1)) (aCons (escf (eVar 2)) aNil)))) (aCons (escf (eVar 17)) (aCons (escf (eTup (aCons (escf (eC (.str "call"))) (aCons (escf (eVar 3)) (aCons (escf (eTup (aCons (escf (eVar 13)) (aCons (escf (eVar 4)) aNil)))) aNil))))) aNil))))) (aCons (escf (eTup (aCons (escf (eTup (aCons (escf (eVar 1)) (aCons (escf (eVar 2)) aNil)))) (aCons (escf (eVar 17)) (aCons (escf (eVar 13)) aNil))))) aNil)))))
    (sSeq (sSet 19 (eVar 6))
    (sSeq (sFor (iRg1M (aCons (opd (eC (.int 6))) aNil)) (kName 20) (sSet 19 (eTup (aCons (escf (eC (.str "call"))) (aCons (escf (eVar 3)) (aCons (escf (eTup (aCons (escf (eVar 19)) (aCons (escf (eTup (aCons (escf (eC (.str "var"))) (aCons (escf (eVar 20)) aNil)))) aNil)))) aNil))))))
    (sRet (eBin dAdd (eVar 16) (eLst (aCons (escf (eTup (aCons (escf (eBin dRepT (eTup (aCons (escf (eVar 2)) aNil)) (eC (.int 6)))) (aCons (escf (eVar 19)) (aCons (escf (eVar 6)) aNil))))) (aCons (escf (eTup (aCons (escf (eBin dRepT (eTup (aCons (escf (eVar 2)) aNil)) (eC (.int 7)))) (aCons (escf (eTup (aCons (escf (eC (.str "call"))) (aCons (escf (eVar 3)) (aCons (escf (eTup (aCons (escf (eVar 19)) (aCons (escf (eTup (aCons (escf (eC (.str "var"))) (aCons (escf (eC (.int 6))) aNil)))) aNil)))) aNil))))) (aCons (escf (eVar 6)) aNil))))) (aCons (escf (eTup (aCons (escf (eBin dRepT (eTup (aCons (escf (eVar 2)) aNil)) (eC (.int 7)))) (aCons (escf (eVar 19)) (aCons (escf (eVar 6)) aNil))))) aNil)))))))))))))))))))
def m__law_whole (call : Fn → List S → (List MO) → Rs S (List MO)) : Sm MX Out :=
    (sSeq (sSet 1 (eTup (aCons (escf (eC (.str "same"))) (aCons (escf (eBin dIx (eVar 0) (eC (.int 1)))) (aCons (escf (eBin dIx (eVar 0) (eC (.int 2)))) aNil)))))
    (sSeq (sFor (iAnyM (eUn dRev (eBin dIx (eVar 0) (eC (.int 0))))) (kName 2) (sSet 1 (eTup (aCons (escf (eC (.str "all"))) (aCons (escf (eVar 2)) (aCons (escf (eVar 1)) aNil))))))
    (sRet (eVar 1))))
def m__law_ruled (call : Fn → List S → (List MO) → Rs S (List MO)) : Sm MX Out :=
    (sSeq (sSet 3 (eCall (call ._law_sames) (aCons (escf (eVar 0)) aNil)))
    (sSeq (sSet 4 eNewD)
    (sSeq (sFor (iRg1M (aCons (opd (eBin dAdd (eC (.int 1)) (eBin dMod (eCall (call ._law_cell) (aCons (escf (eVar 1)) (aCons (escf (eVar 2)) aNil))) (eC (.int 5))))) aNil)) (kName 5) (sSeq (sSet 6 (eCall (call ._law_cell) (aCons (escf (eVar 1)) (aCons (escf (eVar 2)) aNil))))
    (sSeq (sSet 7 (eBin dIx (eVar 3) (eBin dIx (eLst (aCons (escf (eBin dMod (eBin dFdiv (eVar 6) (eC (.int 2))) (eC (.int 10)))) (aCons (escf (eBin dMod (eBin dFdiv (eVar 6) (eC (.int 2))) (eFn fLen (aCons (opd (eVar 3)) aNil)))) aNil))) (eBin dMod (eVar 6) (eC (.int 2))))))
    (sSeq (sSet 8 (eBin dAdd (eBin dAdd (eC (.str "r")) (eBin dIx (eC (.str "abcde")) (eVar 5))) (eSl dSl (eBin dIx (eBin dIx (eVar 0) (eC (.int 0))) (eC (.int 1))) (oInt (eC (.int 1))) (fun z => .ok none z))))
    (sSeq (sSet 9 (eLc (iAnyM (eDSort (eVar 4))) (kName 11) (tOf (eBin dEq (eDIx (eVar 4) (eVar 11)) (eVar 7))) (eVar 11) [11]))
    (sSeq (sSet 10 (eTup (aCons (escf (eC (.str "taken"))) (aCons (escf (eVar 8)) (aCons (escf (eCall (call ._law_whole) (aCons (escf (eVar 7)) aNil))) aNil)))))
    (sSeq (sIf (tOf (eBin dNe (eVar 9) (eLst aNil))) (sSet 10 (eTup (aCons (escf (eC (.str "shown"))) (aCons (escf (eVar 8)) (aCons (escf (eCall (call ._law_whole) (aCons (escf (eVar 7)) aNil))) (aCons (escf (eTup (aCons (escf (eC (.str "use"))) (aCons (escf (eBin dIx (eVar 9) (eC (.int 0)))) aNil)))) aNil)))))) sNil)
    (sSeq (sSet 0 (eBin dAdd (eVar 0) (eTup (aCons (escf (eVar 10)) aNil))))
    (sDPutM (eVar 7) (eVar 4) (eVar 8))))))))))
    (sRet (eTup (aCons (escf (eVar 0)) (aCons (escf (eVar 4)) aNil)))))))
def m__law_parts (call : Fn → List S → (List MO) → Rs S (List MO)) : Sm MX Out :=
    (sRet (eBin dAdd (eC (.int 1)) (eFn fSum (aCons (opd (eLc (iAnyM (eCall (call ._law_kids) (aCons (escf (eVar 0)) aNil))) (kName 1) (fun z => .ok true z) (eCall (call ._law_parts) (aCons (escf (eVar 1)) aNil)) [1])) aNil))))
def m__law_times (call : Fn → List S → (List MO) → Rs S (List MO)) : Sm MX Out :=
    (sRet (eBin dAdd (eFn fInt (aCons (opd (eBin dEq (eVar 0) (eTup (aCons (escf (eC (.str "var"))) (aCons (escf (eVar 1)) aNil))))) aNil)) (eFn fSum (aCons (opd (eLc (iAnyM (eCall (call ._law_kids) (aCons (escf (eVar 0)) aNil))) (kName 2) (fun z => .ok true z) (eCall (call ._law_times) (aCons (escf (eVar 2)) (aCons (escf (eVar 1)) aNil))) [2])) aNil))))
def m__law_is_rule (call : Fn → List S → (List MO) → Rs S (List MO)) : Sm MX Out :=
    (sSeq (sAsg (eVar 0) (kTup 3 (ksCons (kName 1) (ksCons (kName 2) (ksCons (kName 3) ksNil)))))
    (sSeq (sIf (tOrM (tOf (eBin dGt (eFn fLen (aCons (opd (eVar 1)) aNil)) (eC (.int 6)))) (tOrM (tOf (eBin dNe (eBin dIx (eVar 2) (eC (.int 0))) (eC (.str "call")))) (tOf (eBin dGe (eCall (call ._law_parts) (aCons (escf (eVar 3)) aNil)) (eCall (call ._law_parts) (aCons (escf (eVar 2)) aNil)))))) (sRet (eC (.bl false))) sNil)
    (sSeq (sSet 4 (eLc (iRg1M (aCons (opd (eFn fLen (aCons (opd (eVar 1)) aNil))) aNil)) (kName 5) (fun z => .ok true z) (eTup (aCons (escf (eCall (call ._law_times) (aCons (escf (eVar 2)) (aCons (escf (eVar 5)) aNil)))) (aCons (escf (eCall (call ._law_times) (aCons (escf (eVar 3)) (aCons (escf (eVar 5)) aNil)))) aNil))) [5]))
    (sRet (eBin dEq (eLc (iAnyM (eVar 4)) (kName 6) (tOrM (tOf (eBin dEq (eBin dIx (eVar 6) (eC (.int 0))) (eC (.int 0)))) (tOf (eBin dGt (eBin dIx (eVar 6) (eC (.int 1))) (eBin dIx (eVar 6) (eC (.int 0)))))) (eVar 6) [6]) (eLst aNil))))))
def m__law_shaped (call : Fn → List S → (List MO) → Rs S (List MO)) : Sm MX Out :=
    (sSeq (sPar 2 3 (aCons (escf (eBin dIx (eBin dIx (eVar 0) (eC (.int 0))) (eC (.int 1)))) (aCons (escf (eTup (aCons (escf (eC (.str "var"))) (aCons (escf (eC (.int 0))) aNil)))) aNil)))
    (sSeq (sSet 4 (eTup (aCons (escf (eC (.str "call"))) (aCons (escf (eBin dIx (eBin dIx (eVar 0) (eC (.int 3))) (eC (.int 1)))) (aCons (escf (eTup (aCons (escf (eVar 3)) aNil))) aNil)))))
    (sSeq (sSet 5 (eLst (aCons (escf (eTup (aCons (escf (eC (.str "rel"))) (aCons (escf (eBin dIx (eBin dIx (eVar 0) (eC (.int 5))) (eC (.int 1)))) (aCons (escf (eTup (aCons (escf (eVar 3)) aNil))) aNil))))) (aCons (escf (eTup (aCons (escf (eC (.str "and"))) (aCons (escf (eTup (aCons (escf (eC (.str "same"))) (aCons (escf (eVar 4)) (aCons (escf (eVar 3)) aNil))))) (aCons (escf (eTup (aCons (escf (eC (.str "same"))) (aCons (escf (eVar 4)) (aCons (escf (eVar 3)) aNil))))) aNil))))) (aCons (escf (eTup (aCons (escf (eC (.str "if"))) (aCons (escf (eTup (aCons (escf (eC (.str "no"))) aNil))) (aCons (escf (eTup (aCons (escf (eC (.str "same"))) (aCons (escf (eVar 4)) (aCons (escf (eVar 3)) aNil))))) aNil))))) aNil)))))
    (sSeq (sSet 5 (eBin dAdd (eVar 5) (eLst (aCons (escf (eTup (aCons (escf (eC (.str "some"))) (aCons (escf (eVar 2)) (aCons (escf (eTup (aCons (escf (eC (.str "same"))) (aCons (escf (eVar 4)) (aCons (escf (eVar 3)) aNil))))) aNil))))) (aCons (escf (eTup (aCons (escf (eC (.str "if"))) (aCons (escf (eTup (aCons (escf (eC (.str "same"))) (aCons (escf (eVar 4)) (aCons (escf (eVar 3)) aNil))))) (aCons (escf (eTup (aCons (escf (eC (.str "no"))) aNil))) aNil))))) (aCons (escf (eTup (aCons (escf (eC (.str "or"))) (aCons (escf (eTup (aCons (escf (eC (.str "same"))) (aCons (escf (eVar 4)) (aCons (escf (eVar 3)) aNil))))) (aCons (escf (eTup (aCons (escf (eC (.str "no"))) aNil))) aNil))))) aNil))))))
    (sRet (eTup (aCons (escf (eC (.str "all"))) (aCons (escf (eVar 2)) (aCons (escf (eBin dIx (eVar 5) (eBin dMod (eVar 1) (eC (.int 6))))) aNil)))))))))
def m__law_odd (call : Fn → List S → (List MO) → Rs S (List MO)) : Sm MX Out :=
    (sSeq (sSet 2 (eLst (aCons (escf (eC .non)) (aCons (escf (eC (.int 5))) (aCons (escf (eC (.bl true))) (aCons (escf (eTup (aCons (escf (eC (.str "ra"))) aNil))) (aCons (escf (eLst (aCons (escf (eC (.str "ra"))) aNil))) (aCons (escf (eC .emp)) (aCons (escf (eC (.str ""))) (aCons (escf (eC (.str "no"))) (aCons (escf (eC (.str "zz9"))) (aCons (escf (eBin dIx (eBin dIx (eVar 0) (eC (.int 0))) (eC (.int 1)))) (aCons (escf (eBin dIx (eBin dIx (eVar 0) (eC (.int 3))) (eC (.int 1)))) (aCons (escf (eBin dIx (eBin dIx (eVar 0) (eC (.int 5))) (eC (.int 1)))) (aCons (escf (eBin dIx (eBin dIx (eVar 0) (eC (.int 8))) (eC (.int 1)))) aNil)))))))))))))))
    (sRet (eBin dIx (eBin dAdd (eVar 2) (eLst (aCons (escf (eBin dIx (eBin dIx (eBin dIx (eVar 0) (eC (.int 1))) (eC (.int 2))) (eC (.int 0)))) (aCons (escf (eBin dAdd (eBin dIx (eBin dIx (eVar 0) (eC (.int 10))) (eC (.int 1))) (eC (.str "x")))) aNil)))) (eBin dMod (eVar 1) (eC (.int 15))))))
def m_law (call : Fn → List S → (List MO) → Rs S (List MO)) : Sm MX Out :=
    (sSeq (sSet 1 (eLc (iAnyM (eVar 0)) (kName 14) (fun z => .ok true z) (eVar 14) [14]))
    (sSeq (sSet 2 (eNewL (aCons (escf (eC (.int 0))) aNil)))
    (sSeq (sFor (iRg1M (aCons (opd (eFn fMax (aCons (opd (eC (.int 3))) (aCons (opd (eFn fMin (aCons (opd (eC (.int 21))) (aCons (opd (eBin dAdd (eBin dFdiv (eFn fLen (aCons (opd (eVar 1)) aNil)) (eC (.int 3))) (eC (.int 1)))) aNil)))) aNil)))) aNil)) (kName 3) (sSeq (sAsg (eCall (call ._law_ruled) (aCons (escf (eCall (call ._law_entries) (aCons (escf (eCall (call ._law_cell) (aCons (escf (eVar 1)) (aCons (escf (eVar 2)) aNil)))) aNil))) (aCons (escf (eVar 1)) (aCons (escf (eVar 2)) aNil)))) (kTup 2 (ksCons (kName 4) (ksCons (kName 5) ksNil))))
    (sSeq (sSet 6 (eCall (call ._law_cell) (aCons (escf (eVar 1)) (aCons (escf (eVar 2)) aNil))))
    (sSeq (sSet 4 (eBin dAdd (eVar 4) (eTup (aCons (escf (eTup (aCons (escf (eC (.str "taken"))) (aCons (escf (eBin dAdd (eC (.str "t")) (eSl dSl (eBin dIx (eBin dIx (eVar 4) (eC (.int 0))) (eC (.int 1))) (oInt (eC (.int 1))) (fun z => .ok none z)))) (aCons (escf (eCall (call ._law_shaped) (aCons (escf (eVar 4)) (aCons (escf (eVar 6)) aNil)))) aNil))))) aNil))))
    (sSeq (sFor (iAnyM (eVar 4)) (kName 7) (sSeq (sSet 8 (eBin dIx (eVar 7) (eC (.int 1))))
    (sSeq (sSet 9 (eAndM (eDIn true (eVar 8) (eVar 5)) (eCall (call ._law_is_rule) (aCons (escf (eDIx (eVar 5) (eVar 8))) aNil))))
    (sFor (iRg1M (aCons (opd (eC (.int 2))) aNil)) (kName 10) (sSeq (sSet 11 (eCall (call .is_rule) (aCons (escf (eVar 4)) (aCons (escf (eVar 8)) aNil))))
    (sIf (tOrM (tNotM (tTru dTru (eUn (dIsiN "bool") (eVar 11)))) (tOf (eBin dNe (eVar 11) (eVar 9)))) (sRet (eC (.bl false))) sNil))))))
    (sIf (tOf (eBin dIsNot (eCall (call .is_rule) (aCons (escf (eVar 4)) (aCons (escf (eCall (call ._law_odd) (aCons (escf (eVar 4)) (aCons (escf (eBin dFdiv (eVar 6) (eC (.int 6)))) aNil)))) aNil))) (eC (.bl false)))) (sRet (eC (.bl false))) sNil))))))
    (sSeq (sSet 4 (eCall (call ._law_entries) (aCons (escf (eCall (call ._law_cell) (aCons (escf (eVar 1)) (aCons (escf (eVar 2)) aNil)))) aNil)))
    (sSeq (sFor (iEnM (eCall (call ._law_sames) (aCons (escf (eVar 4)) aNil))) (kTup 2 (ksCons (kName 12) (ksCons (kName 13) ksNil))) (sSeq (sSet 11 (eCall (call .is_rule) (aCons (escf (eBin dAdd (eVar 4) (eTup (aCons (escf (eTup (aCons (escf (eC (.str "taken"))) (aCons (escf (eC (.str "ra"))) (aCons (escf (eCall (call ._law_whole) (aCons (escf (eVar 13)) aNil))) aNil))))) aNil)))) (aCons (escf (eC (.str "ra"))) aNil))))
    (sIf (tOrM (tOf (eBin dNe (eVar 11) (eCall (call ._law_is_rule) (aCons (escf (eVar 13)) aNil)))) (tOf (eBin dNe (eVar 11) (eOrM (eBin dLt (eVar 12) (eC (.int 10))) (eBin dIn (eVar 12) (eTup (aCons (escf (eC (.int 17))) (aCons (escf (eC (.int 18))) aNil)))))))) (sRet (eC (.bl false))) sNil)))
    (sRet (eC (.bl true))))))))
def stepM (call callI : Fn → List S → (List MO) → Rs S (List MO)) : Fn → List S → (List MO) → Rs S (List MO)
  | .within => fnM 1 (m_within call)
  | .parts_of => fnM 3 (m_parts_of call)
  | .Known___init__ => fnM 1 (m_Known___init__ call)
  | .Known_again => fnM 2 (m_Known_again call callI)
  | .Known_with_entry => fnM 6 (m_Known_with_entry call)
  | .Known_statement => fnM 2 (m_Known_statement call)
  | .known_of => fnM 3 (m_known_of call callI)
  | .Rule___init__ => fnM 5 (m_Rule___init__ call)
  | .times_in => fnM 3 (m_times_in call)
  | .rule_of => fnM 5 (m_rule_of call callI)
  | .is_rule => fnM 2 (m_is_rule call)
  | ._law_cell => fnM 6 (m__law_cell call)
  | ._law_entries => fnM 10 (m__law_entries call)
  | ._law_kids => fnM 2 (m__law_kids call)
  | ._law_sames => fnM 21 (m__law_sames call)
  | ._law_whole => fnM 3 (m__law_whole call)
  | ._law_ruled => fnM 12 (m__law_ruled call)
  | ._law_parts => fnM 2 (m__law_parts call)
  | ._law_times => fnM 3 (m__law_times call)
  | ._law_is_rule => fnM 7 (m__law_is_rule call)
  | ._law_shaped => fnM 6 (m__law_shaped call)
  | ._law_odd => fnM 3 (m__law_odd call)
def mirP : Nat → (Fn → List S → (List MO) → Rs S (List MO)) × (Fn → List S → (List MO) → Rs S (List MO))
  | 0 => (fun _ _ _ => .bad, fun _ _ _ => .bad)
  | n + 1 => (stepM (mirP n).1 (mirP n).2, (mirP n).1)
def mir (n : Nat) : Fn → List S → (List MO) → Rs S (List MO) := (mirP n).1
def mirI (n : Nat) : Fn → List S → (List MO) → Rs S (List MO) := (mirP n).2
end L
namespace L
open PySem L2 G
theorem sc_within : FnScope ["thing"] ["thing"] (defScope s_within) := ⟨rfl, rfl, rfl, by decide +kernel, rfl, by decide +kernel, by decide +kernel⟩
theorem sc_parts_of : FnScope ["thing", "found", "waiting"] ["thing"] (defScope s_parts_of) := ⟨rfl, rfl, rfl, by decide +kernel, rfl, by decide +kernel, by decide +kernel⟩
theorem sc_Known___init__ : FnScope ["self"] ["self"] (defScope s_Known___init__) := ⟨rfl, rfl, rfl, by decide +kernel, rfl, by decide +kernel, by decide +kernel⟩
theorem sc_Known_again : FnScope ["self", "found"] ["self"] (defScope s_Known_again) := ⟨rfl, rfl, rfl, by decide +kernel, rfl, by decide +kernel, by decide +kernel⟩
theorem sc_Known_with_entry : FnScope ["self", "entry", "found", "word", "name", "member"] ["self", "entry"] (defScope s_Known_with_entry) := ⟨rfl, rfl, rfl, by decide +kernel, rfl, by decide +kernel, by decide +kernel⟩
theorem sc_Known_statement : FnScope ["self", "x"] ["self", "x"] (defScope s_Known_statement) := ⟨rfl, rfl, rfl, by decide +kernel, rfl, by decide +kernel, by decide +kernel⟩
theorem sc_known_of : FnScope ["room", "known", "entry"] ["room"] (defScope s_known_of) := ⟨rfl, rfl, rfl, by decide +kernel, rfl, by decide +kernel, by decide +kernel⟩
theorem sc_Rule___init__ : FnScope ["self", "name", "many", "left", "right"] ["self", "name", "many", "left", "right"] (defScope s_Rule___init__) := ⟨rfl, rfl, rfl, by decide +kernel, rfl, by decide +kernel, by decide +kernel⟩
theorem sc_times_in : FnScope ["term", "number", "part"] ["term", "number"] (defScope s_times_in) := ⟨rfl, rfl, rfl, by decide +kernel, rfl, by decide +kernel, by decide +kernel⟩
theorem sc_rule_of : FnScope ["known", "name", "a", "many", "number"] ["known", "name"] (defScope s_rule_of) := ⟨rfl, rfl, rfl, by decide +kernel, rfl, by decide +kernel, by decide +kernel⟩
theorem sc_is_rule : FnScope ["room", "name"] ["room", "name"] (defScope s_is_rule) := ⟨rfl, rfl, rfl, by decide +kernel, rfl, by decide +kernel, by decide +kernel⟩
theorem sc__law_cell : FnScope ["_law_cells", "_law_spot", "_law_k", "_law_base", "_law_own", "_law_turn"] ["_law_cells", "_law_spot"] (defScope s__law_cell) := ⟨rfl, rfl, rfl, by decide +kernel, rfl, by decide +kernel, by decide +kernel⟩
theorem sc__law_entries : FnScope ["_law_n", "_law_e", "_law_s", "_law_m", "_law_c", "_law_x", "_law_y", "_law_names", "_law_rows", "_law_sign"] ["_law_n"] (defScope s__law_entries) := ⟨rfl, rfl, rfl, by decide +kernel, rfl, by decide +kernel, by decide +kernel⟩
theorem sc__law_kids : FnScope ["_law_thing", "_law_one"] ["_law_thing"] (defScope s__law_kids) := ⟨rfl, rfl, rfl, by decide +kernel, rfl, by decide +kernel, by decide +kernel⟩
theorem sc__law_sames : FnScope ["_law_room", "_law_s", "_law_m", "_law_g", "_law_x", "_law_y", "_law_c", "_law_k", "_law_fx", "_law_fy", "_law_ffx", "_law_fc", "_law_gxk", "_law_gyx", "_law_gfyx", "_law_gck", "_law_rows", "_law_far", "_law_turn", "_law_chain", "_law_number"] ["_law_room"] (defScope s__law_sames) := ⟨rfl, rfl, rfl, by decide +kernel, rfl, by decide +kernel, by decide +kernel⟩
theorem sc__law_whole : FnScope ["_law_row", "_law_found", "_law_sort"] ["_law_row"] (defScope s__law_whole) := ⟨rfl, rfl, rfl, by decide +kernel, rfl, by decide +kernel, by decide +kernel⟩
theorem sc__law_ruled : FnScope ["_law_room", "_law_cells", "_law_spot", "_law_some", "_law_called", "_law_at", "_law_n", "_law_row", "_law_name", "_law_last", "_law_entry", "_law_one"] ["_law_room", "_law_cells", "_law_spot"] (defScope s__law_ruled) := ⟨rfl, rfl, rfl, by decide +kernel, rfl, by decide +kernel, by decide +kernel⟩
theorem sc__law_parts : FnScope ["_law_thing", "_law_one"] ["_law_thing"] (defScope s__law_parts) := ⟨rfl, rfl, rfl, by decide +kernel, rfl, by decide +kernel, by decide +kernel⟩
theorem sc__law_times : FnScope ["_law_thing", "_law_number", "_law_one"] ["_law_thing", "_law_number"] (defScope s__law_times) := ⟨rfl, rfl, rfl, by decide +kernel, rfl, by decide +kernel, by decide +kernel⟩
theorem sc__law_is_rule : FnScope ["_law_row", "_law_kinds", "_law_left", "_law_right", "_law_counts", "_law_number", "_law_one"] ["_law_row"] (defScope s__law_is_rule) := ⟨rfl, rfl, rfl, by decide +kernel, rfl, by decide +kernel, by decide +kernel⟩
theorem sc__law_shaped : FnScope ["_law_room", "_law_n", "_law_s", "_law_x", "_law_fx", "_law_some"] ["_law_room", "_law_n"] (defScope s__law_shaped) := ⟨rfl, rfl, rfl, by decide +kernel, rfl, by decide +kernel, by decide +kernel⟩
theorem sc__law_odd : FnScope ["_law_room", "_law_n", "_law_some"] ["_law_room", "_law_n"] (defScope s__law_odd) := ⟨rfl, rfl, rfl, by decide +kernel, rfl, by decide +kernel, by decide +kernel⟩
theorem sc_law : FnScope ["_law_script", "_law_cells", "_law_spot", "_law_turn", "_law_room", "_law_called", "_law_n", "_law_entry", "_law_name", "_law_due", "_law_again", "_law_found", "_law_at", "_law_row", "_law_one"] ["_law_script"] (defScope s_law) := ⟨rfl, rfl, rfl, by decide +kernel, rfl, by decide +kernel, by decide +kernel⟩
/-- what the top has written -/
structure Tt (K : PySem.W.Frag) (mg : Str → Option Value) (C_Known C_Rule : Addr) : Prop where
  cl_Known : ClF K "Known" C_Known
  cl_Rule : ClF K "Rule" C_Rule
  na_Known_told_calls : NoAttr K C_Known "told_calls"
  na_Known_told_facts : NoAttr K C_Known "told_facts"
  na_Known_told_means : NoAttr K C_Known "told_means"
  na_Known_told_rels : NoAttr K C_Known "told_rels"
  na_Known_told_sorts : NoAttr K C_Known "told_sorts"
  na_Rule_left : NoAttr K C_Rule "left"
  na_Rule_many : NoAttr K C_Rule "many"
  na_Rule_name : NoAttr K C_Rule "name"
  na_Rule_right : NoAttr K C_Rule "right"
  within : FnIn K mg "within" s_within ["thing"] []
  parts_of : FnIn K mg "parts_of" s_parts_of ["thing"] []
  mk_Known : MkIn K mg "Known" "Known.__init__" s_Known___init__ ["self"]
  Known_again : MeIn K "Known" "again" "Known.again" s_Known_again ["self"]
  Known_with_entry : MeIn K "Known" "with_entry" "Known.with_entry" s_Known_with_entry ["self", "entry"]
  Known_statement : MeIn K "Known" "statement" "Known.statement" s_Known_statement ["self", "x"]
  known_of : FnIn K mg "known_of" s_known_of ["room"] []
  mk_Rule : MkIn K mg "Rule" "Rule.__init__" s_Rule___init__ ["self", "name", "many", "left", "right"]
  times_in : FnIn K mg "times_in" s_times_in ["term", "number"] []
  rule_of : FnIn K mg "rule_of" s_rule_of ["known", "name"] []
  is_rule : FnIn K mg "is_rule" s_is_rule ["room", "name"] []
  _law_cell : FnIn K mg "_law_cell" s__law_cell ["_law_cells", "_law_spot"] []
  _law_entries : FnIn K mg "_law_entries" s__law_entries ["_law_n"] []
  _law_kids : FnIn K mg "_law_kids" s__law_kids ["_law_thing"] []
  _law_sames : FnIn K mg "_law_sames" s__law_sames ["_law_room"] []
  _law_whole : FnIn K mg "_law_whole" s__law_whole ["_law_row"] []
  _law_ruled : FnIn K mg "_law_ruled" s__law_ruled ["_law_room", "_law_cells", "_law_spot"] []
  _law_parts : FnIn K mg "_law_parts" s__law_parts ["_law_thing"] []
  _law_times : FnIn K mg "_law_times" s__law_times ["_law_thing", "_law_number"] []
  _law_is_rule : FnIn K mg "_law_is_rule" s__law_is_rule ["_law_row"] []
  _law_shaped : FnIn K mg "_law_shaped" s__law_shaped ["_law_room", "_law_n"] []
  _law_odd : FnIn K mg "_law_odd" s__law_odd ["_law_room", "_law_n"] []
  b_bool : mg "bool" = none
  b_dict : mg "dict" = none
  b_enumerate : mg "enumerate" = none
  b_int : mg "int" = none
  b_isinstance : mg "isinstance" = none
  b_len : mg "len" = none
  b_list : mg "list" = none
  b_max : mg "max" = none
  b_min : mg "min" = none
  b_range : mg "range" = none
  b_sorted : mg "sorted" = none
  b_str : mg "str" = none
  b_sum : mg "sum" = none
  b_tuple : mg "tuple" = none
  c_BOUND : GlD K mg "BOUND" c_BOUND
  c_CALLED : GlD K mg "CALLED" c_CALLED
  c_JOINED : GlD K mg "JOINED" c_JOINED
  c_MOST_ALLS : GlD K mg "MOST_ALLS" c_MOST_ALLS
structure Tx (P : Program) (w : World) (K : PySem.W.Frag) (mg : Str → Option Value) (base : Heap) (n : Nat) : Prop where
  within : FnAt MX P w K mg base (xrK K) n "within" ["thing"] [] (mir n .within)
  parts_of : FnAt MX P w K mg base (xrK K) n "parts_of" ["thing"] [] (mir n .parts_of)
  mk_Known : MkAt P w K mg base (xrK K) n "Known" ["self"] (mirI n .Known___init__)
  ini_Known : MkAt P w K mg base (xrK K) (n + 1) "Known" ["self"] (mir n .Known___init__)
  Known_again : MeAt P w K mg base (xrK K) n "Known" "again" ["self"] (mir n .Known_again)
  Known_with_entry : MeAt P w K mg base (xrK K) n "Known" "with_entry" ["self", "entry"] (mir n .Known_with_entry)
  Known_statement : MeAt P w K mg base (xrK K) n "Known" "statement" ["self", "x"] (mir n .Known_statement)
  known_of : FnAt MX P w K mg base (xrK K) n "known_of" ["room"] [] (mir n .known_of)
  mk_Rule : MkAt P w K mg base (xrK K) n "Rule" ["self", "name", "many", "left", "right"] (mirI n .Rule___init__)
  ini_Rule : MkAt P w K mg base (xrK K) (n + 1) "Rule" ["self", "name", "many", "left", "right"] (mir n .Rule___init__)
  times_in : FnAt MX P w K mg base (xrK K) n "times_in" ["term", "number"] [] (mir n .times_in)
  rule_of : FnAt MX P w K mg base (xrK K) n "rule_of" ["known", "name"] [] (mir n .rule_of)
  is_rule : FnAt MX P w K mg base (xrK K) n "is_rule" ["room", "name"] [] (mir n .is_rule)
  _law_cell : FnAt MX P w K mg base (xrK K) n "_law_cell" ["_law_cells", "_law_spot"] [] (mir n ._law_cell)
  _law_entries : FnAt MX P w K mg base (xrK K) n "_law_entries" ["_law_n"] [] (mir n ._law_entries)
  _law_kids : FnAt MX P w K mg base (xrK K) n "_law_kids" ["_law_thing"] [] (mir n ._law_kids)
  _law_sames : FnAt MX P w K mg base (xrK K) n "_law_sames" ["_law_room"] [] (mir n ._law_sames)
  _law_whole : FnAt MX P w K mg base (xrK K) n "_law_whole" ["_law_row"] [] (mir n ._law_whole)
  _law_ruled : FnAt MX P w K mg base (xrK K) n "_law_ruled" ["_law_room", "_law_cells", "_law_spot"] [] (mir n ._law_ruled)
  _law_parts : FnAt MX P w K mg base (xrK K) n "_law_parts" ["_law_thing"] [] (mir n ._law_parts)
  _law_times : FnAt MX P w K mg base (xrK K) n "_law_times" ["_law_thing", "_law_number"] [] (mir n ._law_times)
  _law_is_rule : FnAt MX P w K mg base (xrK K) n "_law_is_rule" ["_law_row"] [] (mir n ._law_is_rule)
  _law_shaped : FnAt MX P w K mg base (xrK K) n "_law_shaped" ["_law_room", "_law_n"] [] (mir n ._law_shaped)
  _law_odd : FnAt MX P w K mg base (xrK K) n "_law_odd" ["_law_room", "_law_n"] [] (mir n ._law_odd)
section
variable {P : Program} {w : World} {K : PySem.W.Frag} {mg : Str → Option Value} {base : Heap} {n : Nat} {C_Known C_Rule : Addr}
theorem d_within (T : Tt K mg C_Known C_Rule) (H : Tx P w K mg base n) : FnAt MX P w K mg base (xrK K) (n + 1) "within" ["thing"] [] (fnM 1 (m_within (mir n))) := by
  refine fnAt_succ T.within sc_within (fun f cdv A outer s Hp E hr hgu => ?_)
  have p := pc_def (P := P) (w := w) (K := K) (mg := mg) (base := base) (outer := outer) (H := Hp) (E := E) sc_within hr hgu
  exact (dss_cons (ds_if (Cp.dt (cp_in p.toPl) (de_ixA p.toPl (de_var 0) de_int) (de_const p.toPl T.c_CALLED) rfl) (dss_one (ds_ret (Fb.de (fb_list p.toPl) p.toPl T.b_list (da_rd (de_ixA p.toPl (de_var 0) de_int) da_nil)))) dss_nil)
    (dss_cons (ds_if (Cp.dt (cp_in p.toPl) (de_ixA p.toPl (de_var 0) de_int) (de_const p.toPl T.c_JOINED) rfl) (dss_one (ds_ret (Fb.de (fb_list p.toPl) p.toPl T.b_list (da_rd (de_sl p.toPl (de_var 0) (do_some de_int) do_none) da_nil)))) dss_nil)
    (dss_one (ds_ret (de_if (Cp.dt (cp_in p.toPl) (de_ixA p.toPl (de_var 0) de_int) (de_const p.toPl T.c_BOUND) rfl) (de_lst (da_es (de_ixA p.toPl (de_var 0) de_int) da_nil)) (de_lst da_nil))))))
theorem d_parts_of (T : Tt K mg C_Known C_Rule) (H : Tx P w K mg base n) : FnAt MX P w K mg base (xrK K) (n + 1) "parts_of" ["thing"] [] (fnM 3 (m_parts_of (mir n))) := by
  refine fnAt_succ T.parts_of sc_parts_of (fun f cdv A outer s Hp E hr hgu => ?_)
  have p := pc_def (P := P) (w := w) (K := K) (mg := mg) (base := base) (outer := outer) (H := Hp) (E := E) sc_parts_of hr hgu
  exact (dss_cons (ds_set (i := 1) p.toPl.nds (fun _ => rfl) (fun _ => by first | exact Or.inl rfl | exact Or.inr rfl) de_int)
    (dss_cons (ds_set (i := 2) p.toPl.nds (fun _ => rfl) (fun _ => by first | exact Or.inl rfl | exact Or.inr rfl) (de_lst (da_es (de_var 0) da_nil)))
    (dss_cons (ds_while whileN own_def (Cp.dt (cp_ne p.toPl) (de_var 2) (de_lst da_nil) (nomark _)) (dss_cons (ds_set (i := 1) p.toPl.nds (fun _ => rfl) (fun _ => by first | exact Or.inl rfl | exact Or.inr rfl) (de_add p.toPl (de_var 1) de_int))
    (dss_one (ds_expr (de_extend (i := 2) p.k (fun _ => rfl) (fun _ => by first | exact Or.inl rfl | exact Or.inr (Or.inl rfl) | exact Or.inr (Or.inr rfl)) (by decide) (by decide) (de_fn p H.within (da_es (de_pop (i := 2) p.k (fun _ => rfl) (fun _ => by first | exact Or.inl rfl | exact Or.inr (Or.inl rfl) | exact Or.inr (Or.inr rfl)) (by decide) (by decide)) da_nil) (len_cons (fun _ _ _ h => len_nil h))))))))
    (dss_one (ds_ret (de_var 1))))))
theorem d_Known___init__ (T : Tt K mg C_Known C_Rule) (H : Tx P w K mg base n) : MkAt P w K mg base (xrK K) (n + 2) "Known" ["self"] (fnM 1 (m_Known___init__ (mir n))) := by
  refine mkAt_succ T.mk_Known sc_Known___init__ (fun f cdv A outer s Hp E hr hgu => ?_)
  have p := pc_def (P := P) (w := w) (K := K) (mg := mg) (base := base) (outer := outer) (H := Hp) (E := E) sc_Known___init__ hr hgu
  exact (dss_cons (ds_fld p.toPl (cls1 T.cl_Known T.na_Known_told_sorts) de_newD (de_var 0))
    (dss_cons (ds_fld p.toPl (cls1 T.cl_Known T.na_Known_told_calls) de_newD (de_var 0))
    (dss_cons (ds_fld p.toPl (cls1 T.cl_Known T.na_Known_told_rels) de_newD (de_var 0))
    (dss_cons (ds_fld p.toPl (cls1 T.cl_Known T.na_Known_told_means) de_newD (de_var 0))
    (dss_one (ds_fld p.toPl (cls1 T.cl_Known T.na_Known_told_facts) de_newD (de_var 0)))))))
theorem d_Known_again (T : Tt K mg C_Known C_Rule) (H : Tx P w K mg base n) : MeAt P w K mg base (xrK K) (n + 1) "Known" "again" ["self"] (fnM 2 (m_Known_again (mir n) (mirI n))) := by
  refine meAt_succ T.Known_again sc_Known_again (fun f cdv A outer s Hp E hr hgu => ?_)
  have p := pc_def (P := P) (w := w) (K := K) (mg := mg) (base := base) (outer := outer) (H := Hp) (E := E) sc_Known_again hr hgu
  exact (dss_cons (ds_set (i := 1) p.toPl.nds (fun _ => rfl) (fun _ => by first | exact Or.inl rfl | exact Or.inr rfl) (de_make0 p H.mk_Known))
    (dss_cons (ds_fld p.toPl (cls1 T.cl_Known T.na_Known_told_sorts) (de_dcopy p.toPl T.b_dict (de_fld p.toPl (cls1 T.cl_Known T.na_Known_told_sorts) (de_var 0))) (de_var 1))
    (dss_cons (ds_fld p.toPl (cls1 T.cl_Known T.na_Known_told_calls) (de_dcopy p.toPl T.b_dict (de_fld p.toPl (cls1 T.cl_Known T.na_Known_told_calls) (de_var 0))) (de_var 1))
    (dss_cons (ds_fld p.toPl (cls1 T.cl_Known T.na_Known_told_rels) (de_dcopy p.toPl T.b_dict (de_fld p.toPl (cls1 T.cl_Known T.na_Known_told_rels) (de_var 0))) (de_var 1))
    (dss_cons (ds_fld p.toPl (cls1 T.cl_Known T.na_Known_told_means) (de_dcopy p.toPl T.b_dict (de_fld p.toPl (cls1 T.cl_Known T.na_Known_told_means) (de_var 0))) (de_var 1))
    (dss_cons (ds_fld p.toPl (cls1 T.cl_Known T.na_Known_told_facts) (de_dcopy p.toPl T.b_dict (de_fld p.toPl (cls1 T.cl_Known T.na_Known_told_facts) (de_var 0))) (de_var 1))
    (dss_one (ds_ret (de_var 1)))))))))
theorem d_Known_with_entry (T : Tt K mg C_Known C_Rule) (H : Tx P w K mg base n) : MeAt P w K mg base (xrK K) (n + 1) "Known" "with_entry" ["self", "entry"] (fnM 6 (m_Known_with_entry (mir n))) := by
  refine meAt_succ T.Known_with_entry sc_Known_with_entry (fun f cdv A outer s Hp E hr hgu => ?_)
  have p := pc_def (P := P) (w := w) (K := K) (mg := mg) (base := base) (outer := outer) (H := Hp) (E := E) sc_Known_with_entry hr hgu
  exact (dss_cons (ds_set (i := 2) p.toPl.nds (fun _ => rfl) (fun _ => by first | exact Or.inl rfl | exact Or.inr rfl) (de_meth0 p H.Known_again (de_var 0)))
    (dss_cons (ds_asg (de_sl p.toPl (de_var 1) do_none (do_some de_int)) (dg_tup p.k p.c (dgs_cons (dg_name p.toPl.nds (fun _ => rfl) (fun _ => by first | exact Or.inl rfl | exact Or.inr rfl)) (dgs_cons (dg_name p.toPl.nds (fun _ => rfl) (fun _ => by first | exact Or.inl rfl | exact Or.inr rfl)) dgs_nil))))
    (dss_cons (ds_if (Cp.dt (cp_eq p.toPl) (de_var 3) de_str (nomark _)) (dss_cons (ds_dput p.toPl (de_ixA p.toPl (de_var 1) de_int) (de_fld p.toPl (cls1 T.cl_Known T.na_Known_told_sorts) (de_var 2)) (de_var 4))
    (dss_one (ds_for own_def p.c (di_any p.toPl (de_ixA p.toPl (de_var 1) de_int)) (dg_name p.toPl.nds (fun _ => rfl) (fun _ => by first | exact Or.inl rfl | exact Or.inr rfl)) (dss_one (ds_dput p.toPl (de_tup (da_es (de_tup da_nil) (da_es (de_var 4) da_nil))) (de_fld p.toPl (cls1 T.cl_Known T.na_Known_told_calls) (de_var 2)) (de_var 5)))))) (dss_one (ds_if (Cp.dt (cp_eq p.toPl) (de_var 3) de_str (nomark _)) (dss_one (ds_dput p.toPl (de_tup (da_es (de_ixA p.toPl (de_var 1) de_int) (da_es (de_ixA p.toPl (de_var 1) de_int) da_nil))) (de_fld p.toPl (cls1 T.cl_Known T.na_Known_told_calls) (de_var 2)) (de_var 4))) (dss_one (ds_if (Cp.dt (cp_in p.toPl) (de_var 3) (de_tup (da_es de_str (da_es de_str da_nil))) rfl) (dss_one (ds_dput p.toPl (de_ixA p.toPl (de_var 1) de_int) (de_fld p.toPl (cls1 T.cl_Known T.na_Known_told_facts) (de_var 2)) (de_var 4))) (dss_cons (ds_dput p.toPl (de_ixA p.toPl (de_var 1) de_int) (de_fld p.toPl (cls1 T.cl_Known T.na_Known_told_rels) (de_var 2)) (de_var 4))
    (dss_one (ds_if (Cp.dt (cp_eq p.toPl) (de_var 3) de_str (nomark _)) (dss_one (ds_dput p.toPl (de_ixA p.toPl (de_var 1) de_int) (de_fld p.toPl (cls1 T.cl_Known T.na_Known_told_means) (de_var 2)) (de_var 4))) dss_nil))))))))
    (dss_one (ds_ret (de_var 2))))))
theorem d_Known_statement (T : Tt K mg C_Known C_Rule) (H : Tx P w K mg base n) : MeAt P w K mg base (xrK K) (n + 1) "Known" "statement" ["self", "x"] (fnM 2 (m_Known_statement (mir n))) := by
  refine meAt_succ T.Known_statement sc_Known_statement (fun f cdv A outer s Hp E hr hgu => ?_)
  have p := pc_def (P := P) (w := w) (K := K) (mg := mg) (base := base) (outer := outer) (H := Hp) (E := E) sc_Known_statement hr hgu
  exact (dss_one (ds_ret (de_dget2 p.toPl (de_fld p.toPl (cls1 T.cl_Known T.na_Known_told_facts) (de_var 0)) (de_var 1) de_non (fun _ => ⟨rfl, rfl, rfl, rfl⟩))))
theorem d_known_of (T : Tt K mg C_Known C_Rule) (H : Tx P w K mg base n) : FnAt MX P w K mg base (xrK K) (n + 1) "known_of" ["room"] [] (fnM 3 (m_known_of (mir n) (mirI n))) := by
  refine fnAt_succ T.known_of sc_known_of (fun f cdv A outer s Hp E hr hgu => ?_)
  have p := pc_def (P := P) (w := w) (K := K) (mg := mg) (base := base) (outer := outer) (H := Hp) (E := E) sc_known_of hr hgu
  exact (dss_cons (ds_set (i := 1) p.toPl.nds (fun _ => rfl) (fun _ => by first | exact Or.inl rfl | exact Or.inr rfl) (de_make0 p H.mk_Known))
    (dss_cons (ds_for own_def p.c (di_any p.toPl (de_var 0)) (dg_name p.toPl.nds (fun _ => rfl) (fun _ => by first | exact Or.inl rfl | exact Or.inr rfl)) (dss_one (ds_set (i := 1) p.toPl.nds (fun _ => rfl) (fun _ => by first | exact Or.inl rfl | exact Or.inr rfl) (de_meth p H.Known_with_entry (de_var 1) (da_es (de_var 2) da_nil) (len_cons (fun _ _ _ h => len_nil h))))))
    (dss_one (ds_ret (de_var 1)))))
theorem d_Rule___init__ (T : Tt K mg C_Known C_Rule) (H : Tx P w K mg base n) : MkAt P w K mg base (xrK K) (n + 2) "Rule" ["self", "name", "many", "left", "right"] (fnM 5 (m_Rule___init__ (mir n))) := by
  refine mkAt_succ T.mk_Rule sc_Rule___init__ (fun f cdv A outer s Hp E hr hgu => ?_)
  have p := pc_def (P := P) (w := w) (K := K) (mg := mg) (base := base) (outer := outer) (H := Hp) (E := E) sc_Rule___init__ hr hgu
  exact (dss_cons (ds_fld p.toPl (cls1 T.cl_Rule T.na_Rule_name) (de_var 1) (de_var 0))
    (dss_cons (ds_fld p.toPl (cls1 T.cl_Rule T.na_Rule_many) (de_var 2) (de_var 0))
    (dss_cons (ds_fld p.toPl (cls1 T.cl_Rule T.na_Rule_left) (de_var 3) (de_var 0))
    (dss_one (ds_fld p.toPl (cls1 T.cl_Rule T.na_Rule_right) (de_var 4) (de_var 0))))))
theorem d_times_in (T : Tt K mg C_Known C_Rule) (H : Tx P w K mg base n) : FnAt MX P w K mg base (xrK K) (n + 1) "times_in" ["term", "number"] [] (fnM 3 (m_times_in (mir n))) := by
  refine fnAt_succ T.times_in sc_times_in (fun f cdv A outer s Hp E hr hgu => ?_)
  have p := pc_def (P := P) (w := w) (K := K) (mg := mg) (base := base) (outer := outer) (H := Hp) (E := E) sc_times_in hr hgu
  exact (dss_one (ds_ret (de_add p.toPl (Fb.de fb_int p.toPl T.b_int (da_rd (Cp.de (cp_eq p.toPl) (de_var 0) (de_tup (da_es de_str (da_es (de_var 1) da_nil))) (nomark _)) da_nil)) (Fb.de (fb_sum p.toPl) p.toPl T.b_sum (da_rd (de_lc (own := [("part", 2)]) p.c p.toPl.nds (fun _ => blkOk_by (N := ["term", "number", "part"]) (sc := defScope s_times_in) (by decide +kernel)) (di_any p.toPl (de_fn p H.within (da_es (de_var 0) da_nil) (len_cons (fun _ _ _ h => len_nil h)))) (dg_name (p.blk _).toPl.nds (fun _ => rfl) (fun _ => by first | exact Or.inl rfl | exact Or.inr rfl)) dts_nil (de_fn (p.blk _) H.times_in (da_es (de_var 2) (da_es (de_var 1) da_nil)) (len_cons (len_cons (fun _ _ _ h => len_nil h))))) da_nil)))))
theorem d_rule_of (T : Tt K mg C_Known C_Rule) (H : Tx P w K mg base n) : FnAt MX P w K mg base (xrK K) (n + 1) "rule_of" ["known", "name"] [] (fnM 5 (m_rule_of (mir n) (mirI n))) := by
  refine fnAt_succ T.rule_of sc_rule_of (fun f cdv A outer s Hp E hr hgu => ?_)
  have p := pc_def (P := P) (w := w) (K := K) (mg := mg) (base := base) (outer := outer) (H := Hp) (E := E) sc_rule_of hr hgu
  exact (dss_cons (ds_set (i := 2) p.toPl.nds (fun _ => rfl) (fun _ => by first | exact Or.inl rfl | exact Or.inr rfl) (de_if (dt_tru p.toPl (de_isi p.toPl T.b_isinstance T.b_str PyProof.Rows.boot_str (de_var 1))) (de_meth p H.Known_statement (de_var 0) (da_es (de_var 1) da_nil) (len_cons (fun _ _ _ h => len_nil h))) de_non))
    (dss_cons (ds_set (i := 3) p.toPl.nds (fun _ => rfl) (fun _ => by first | exact Or.inl rfl | exact Or.inr rfl) de_int)
    (dss_cons (ds_while whileN own_def (dt_w (dw_and (Cp.dt cp_isNot (de_var 2) de_non (nomark _)) (dw_and1 (Cp.dt (cp_eq p.toPl) (de_ixA p.toPl (de_var 2) de_int) de_str (nomark _))))) (dss_cons (ds_set (i := 2) p.toPl.nds (fun _ => rfl) (fun _ => by first | exact Or.inl rfl | exact Or.inr rfl) (de_ixA p.toPl (de_var 2) de_int))
    (dss_one (ds_set (i := 3) p.toPl.nds (fun _ => rfl) (fun _ => by first | exact Or.inl rfl | exact Or.inr rfl) (de_add p.toPl (de_var 3) de_int)))))
    (dss_cons (ds_if (dt_w (dw_or (Cp.dt cp_is (de_var 2) de_non (nomark _)) (dw_or (Cp.dt cp_gt (de_var 3) (de_const p.toPl T.c_MOST_ALLS) (nomark _)) (dw_or (Cp.dt (cp_ne p.toPl) (de_ixA p.toPl (de_var 2) de_int) de_str (nomark _)) (dw_or (Cp.dt (cp_ne p.toPl) (de_ixA p.toPl (de_ixA p.toPl (de_var 2) de_int) de_int) de_str (nomark _)) (dw_or1 (Cp.dt cp_ge (de_fn p H.parts_of (da_es (de_ixA p.toPl (de_var 2) de_int) da_nil) (len_cons (fun _ _ _ h => len_nil h))) (de_fn p H.parts_of (da_es (de_ixA p.toPl (de_var 2) de_int) da_nil) (len_cons (fun _ _ _ h => len_nil h))) (nomark _)))))))) (dss_one (ds_ret de_non)) dss_nil)
    (dss_cons (ds_for own_def p.c (di_range1 p.toPl T.b_range (da_rd (de_var 3) da_nil)) (dg_name p.toPl.nds (fun _ => rfl) (fun _ => by first | exact Or.inl rfl | exact Or.inr rfl)) (dss_one (ds_if (dt_not (Cp.dt cp_le (Fb.de (fb_max p.toPl) p.toPl T.b_max (da_rd de_int (da_rd (de_fn p H.times_in (da_es (de_ixA p.toPl (de_var 2) de_int) (da_es (de_var 4) da_nil)) (len_cons (len_cons (fun _ _ _ h => len_nil h)))) da_nil))) (de_fn p H.times_in (da_es (de_ixA p.toPl (de_var 2) de_int) (da_es (de_var 4) da_nil)) (len_cons (len_cons (fun _ _ _ h => len_nil h)))) (nomark _))) (dss_one (ds_ret de_non)) dss_nil)))
    (dss_one (ds_ret (de_make p H.mk_Rule (da_es (de_var 1) (da_es (de_var 3) (da_es (de_ixA p.toPl (de_var 2) de_int) (da_es (de_ixA p.toPl (de_var 2) de_int) da_nil)))) (fun z ss z1 h => congrArg (· + 1) ((len_cons (len_cons (len_cons (len_cons (fun _ _ _ h => len_nil h))))) z ss z1 h))))))))))
theorem d_is_rule (T : Tt K mg C_Known C_Rule) (H : Tx P w K mg base n) : FnAt MX P w K mg base (xrK K) (n + 1) "is_rule" ["room", "name"] [] (fnM 2 (m_is_rule (mir n))) := by
  refine fnAt_succ T.is_rule sc_is_rule (fun f cdv A outer s Hp E hr hgu => ?_)
  have p := pc_def (P := P) (w := w) (K := K) (mg := mg) (base := base) (outer := outer) (H := Hp) (E := E) sc_is_rule hr hgu
  exact (dss_one (ds_ret (Cp.de cp_isNot (de_fn p H.rule_of (da_es (de_fn p H.known_of (da_es (de_var 0) da_nil) (len_cons (fun _ _ _ h => len_nil h))) (da_es (de_var 1) da_nil)) (len_cons (len_cons (fun _ _ _ h => len_nil h)))) de_non (nomark _))))
theorem d__law_cell (T : Tt K mg C_Known C_Rule) (H : Tx P w K mg base n) : FnAt MX P w K mg base (xrK K) (n + 1) "_law_cell" ["_law_cells", "_law_spot"] [] (fnM 6 (m__law_cell (mir n))) := by
  refine fnAt_succ T._law_cell sc__law_cell (fun f cdv A outer s Hp E hr hgu => ?_)
  have p := pc_def (P := P) (w := w) (K := K) (mg := mg) (base := base) (outer := outer) (H := Hp) (E := E) sc__law_cell hr hgu
  exact (dss_cons (ds_lput p.toPl (de_add p.toPl (de_ixO p.toPl (de_var 1) de_int) de_int) (de_var 1) de_int)
    (dss_cons (ds_set (i := 2) p.toPl.nds (fun _ => rfl) (fun _ => by first | exact Or.inl rfl | exact Or.inr rfl) (de_ixO p.toPl (de_var 1) de_int))
    (dss_cons (ds_set (i := 3) p.toPl.nds (fun _ => rfl) (fun _ => by first | exact Or.inl rfl | exact Or.inr rfl) (de_add p.toPl (de_mul (de_mul de_int (de_var 2)) (de_var 2)) (de_mul de_int (de_var 2))))
    (dss_cons (ds_if (dt_w (dw_and (Cp.dt cp_gt (Fb.de (fb_len p.toPl) p.toPl T.b_len (da_rd (de_var 0) da_nil)) de_int (nomark _)) (dw_and (Cp.dt (cp_eq p.toPl) (de_mod (de_ixA p.toPl (de_var 0) de_int) de_int) de_int (nomark _)) (dw_and1 (Cp.dt cp_lt (de_fdiv (de_var 2) (Fb.de (fb_len p.toPl) p.toPl T.b_len (da_rd (de_var 0) da_nil))) de_int (nomark _)))))) (dss_cons (ds_set (i := 4) p.toPl.nds (fun _ => rfl) (fun _ => by first | exact Or.inl rfl | exact Or.inr rfl) (de_fdiv (de_ixA p.toPl (de_var 0) (de_mod (de_var 2) (Fb.de (fb_len p.toPl) p.toPl T.b_len (da_rd (de_var 0) da_nil)))) de_int))
    (dss_cons (ds_for own_def p.c (di_range1 p.toPl T.b_range (da_rd (de_fdiv (de_var 2) (Fb.de (fb_len p.toPl) p.toPl T.b_len (da_rd (de_var 0) da_nil))) da_nil)) (dg_name p.toPl.nds (fun _ => rfl) (fun _ => by first | exact Or.inl rfl | exact Or.inr rfl)) (dss_one (ds_set (i := 4) p.toPl.nds (fun _ => rfl) (fun _ => by first | exact Or.inl rfl | exact Or.inr rfl) (de_fdiv (de_var 4) de_int))))
    (dss_one (ds_if (Cp.dt cp_gt (de_var 4) de_int (nomark _)) (dss_one (ds_ret (de_mod (de_var 4) de_int))) dss_nil)))) dss_nil)
    (dss_cons (ds_if (Cp.dt cp_gt (Fb.de (fb_len p.toPl) p.toPl T.b_len (da_rd (de_var 0) da_nil)) de_int (nomark _)) (dss_one (ds_set (i := 3) p.toPl.nds (fun _ => rfl) (fun _ => by first | exact Or.inl rfl | exact Or.inr rfl) (de_add p.toPl (de_var 3) (de_mul (de_ixA p.toPl (de_var 0) (de_mod (de_var 2) (Fb.de (fb_len p.toPl) p.toPl T.b_len (da_rd (de_var 0) da_nil)))) (de_add p.toPl de_int (de_fdiv (de_var 2) (Fb.de (fb_len p.toPl) p.toPl T.b_len (da_rd (de_var 0) da_nil)))))))) dss_nil)
    (dss_one (ds_ret (de_fdiv (de_mod (de_mul (de_var 3) de_int) de_int) de_int))))))))
theorem d__law_entries (T : Tt K mg C_Known C_Rule) (H : Tx P w K mg base n) : FnAt MX P w K mg base (xrK K) (n + 1) "_law_entries" ["_law_n"] [] (fnM 10 (m__law_entries (mir n))) := by
  refine fnAt_succ T._law_entries sc__law_entries (fun f cdv A outer s Hp E hr hgu => ?_)
  have p := pc_def (P := P) (w := w) (K := K) (mg := mg) (base := base) (outer := outer) (H := Hp) (E := E) sc__law_entries hr hgu
  exact (dss_cons (ds_set (i := 1) p.toPl.nds (fun _ => rfl) (fun _ => by first | exact Or.inl rfl | exact Or.inr rfl) (de_ixA p.toPl (de_lst (da_es de_str (da_es de_str (da_es de_str (da_es de_str (da_es de_str da_nil)))))) (de_mod (de_var 0) de_int)))
    (dss_cons (ds_asg (de_tup (da_es (de_add p.toPl de_str (de_var 1)) (da_es (de_add p.toPl de_str (de_var 1)) (da_es (de_tup (da_es de_str (da_es (de_add p.toPl de_str (de_var 1)) (da_es (de_tup da_nil) da_nil)))) (da_es (de_tup (da_es de_str (da_es de_int da_nil))) (da_es (de_tup (da_es de_str (da_es de_int da_nil))) da_nil)))))) (dg_tup p.k p.c (dgs_cons (dg_name p.toPl.nds (fun _ => rfl) (fun _ => by first | exact Or.inl rfl | exact Or.inr rfl)) (dgs_cons (dg_name p.toPl.nds (fun _ => rfl) (fun _ => by first | exact Or.inl rfl | exact Or.inr rfl)) (dgs_cons (dg_name p.toPl.nds (fun _ => rfl) (fun _ => by first | exact Or.inl rfl | exact Or.inr rfl)) (dgs_cons (dg_name p.toPl.nds (fun _ => rfl) (fun _ => by first | exact Or.inl rfl | exact Or.inr rfl)) (dgs_cons (dg_name p.toPl.nds (fun _ => rfl) (fun _ => by first | exact Or.inl rfl | exact Or.inr rfl)) dgs_nil)))))))
    (dss_cons (ds_set (i := 7) p.toPl.nds (fun _ => rfl) (fun _ => by first | exact Or.inl rfl | exact Or.inr rfl) (Fb.de (fb_tuple p.toPl) p.toPl T.b_tuple (da_rd (de_lc (own := [("_law_sign", 9)]) p.c p.toPl.nds (fun _ => blkOk_by (N := ["_law_n", "_law_e", "_law_s", "_law_m", "_law_c", "_law_x", "_law_y", "_law_names", "_law_rows", "_law_sign"]) (sc := defScope s__law_entries) (by decide +kernel)) (di_any p.toPl (de_sl p.toPl de_str do_none (do_some (de_add p.toPl de_int (de_mod (de_fdiv (de_var 0) de_int) de_int))))) (dg_name (p.blk _).toPl.nds (fun _ => rfl) (fun _ => by first | exact Or.inl rfl | exact Or.inr rfl)) dts_nil (de_add (p.blk _).toPl (de_add (p.blk _).toPl de_str (de_var 9)) (de_var 1))) da_nil)))
    (dss_cons (ds_set (i := 8) p.toPl.nds (fun _ => rfl) (fun _ => by first | exact Or.inl rfl | exact Or.inr rfl) (de_lst (da_es (de_tup (da_es de_str (da_es (de_var 2) (da_es (de_tup da_nil) da_nil)))) (da_es (de_tup (da_es de_str (da_es (de_var 3) (da_es (de_var 7) da_nil)))) (da_es (de_tup (da_es de_str (da_es (de_add p.toPl de_str (de_var 1)) (da_es (de_tup da_nil) (da_es (de_var 2) da_nil))))) (da_es (de_tup (da_es de_str (da_es (de_add p.toPl de_str (de_var 1)) (da_es (de_tup (da_es (de_var 2) da_nil)) (da_es (de_var 2) da_nil))))) da_nil))))))
    (dss_cons (ds_set (i := 8) p.toPl.nds (fun _ => rfl) (fun _ => by first | exact Or.inl rfl | exact Or.inr rfl) (de_add p.toPl (de_var 8) (de_lst (da_es (de_tup (da_es de_str (da_es (de_add p.toPl de_str (de_var 1)) (da_es (de_tup (da_es (de_var 2) (da_es (de_var 3) da_nil))) (da_es (de_var 2) da_nil))))) (da_es (de_tup (da_es de_str (da_es (de_add p.toPl de_str (de_var 1)) (da_es (de_tup (da_es (de_var 2) da_nil)) da_nil)))) (da_es (de_tup (da_es de_str (da_es (de_add p.toPl de_str (de_var 1)) (da_es (de_tup (da_es (de_var 2) (da_es (de_var 3) da_nil))) da_nil)))) (da_es (de_tup (da_es de_str (da_es (de_add p.toPl de_str (de_var 1)) (da_es (de_tup da_nil) da_nil)))) da_nil)))))))
    (dss_cons (ds_set (i := 8) p.toPl.nds (fun _ => rfl) (fun _ => by first | exact Or.inl rfl | exact Or.inr rfl) (de_add p.toPl (de_var 8) (de_lst (da_es (de_tup (da_es de_str (da_es (de_add p.toPl de_str (de_var 1)) (da_es (de_tup (da_es (de_var 2) da_nil)) (da_es (de_tup (da_es de_str (da_es (de_var 5) (da_es (de_var 5) da_nil)))) da_nil))))) (da_es (de_tup (da_es de_str (da_es (de_add p.toPl de_str (de_var 1)) (da_es (de_tup (da_es (de_var 2) (da_es (de_var 2) da_nil))) (da_es (de_tup (da_es de_str (da_es (de_var 6) (da_es (de_var 5) da_nil)))) da_nil))))) da_nil)))))
    (dss_cons (ds_set (i := 8) p.toPl.nds (fun _ => rfl) (fun _ => by first | exact Or.inl rfl | exact Or.inr rfl) (de_add p.toPl (de_var 8) (de_lst (da_es (de_tup (da_es de_str (da_es (de_add p.toPl de_str (de_var 1)) (da_es (de_tup (da_es de_str (da_es (de_var 2) (da_es (de_tup (da_es de_str (da_es (de_add p.toPl de_str (de_var 1)) (da_es (de_tup (da_es (de_var 5) da_nil)) da_nil)))) da_nil)))) da_nil)))) (da_es (de_tup (da_es de_str (da_es (de_add p.toPl de_str (de_var 1)) (da_es (de_tup (da_es de_str (da_es (de_add p.toPl de_str (de_var 1)) (da_es (de_tup da_nil) da_nil)))) da_nil)))) da_nil)))))
    (dss_cons (ds_expr (de_append (i := 8) p.k (fun _ => rfl) (fun _ => by first | exact Or.inl rfl | exact Or.inr (Or.inl rfl) | exact Or.inr (Or.inr rfl)) (by decide) (by decide) (de_tup (da_es de_str (da_es (de_add p.toPl de_str (de_var 1)) (da_es (de_tup (da_es de_str (da_es (de_var 3) (da_es (de_tup (da_es de_str (da_es (de_add p.toPl de_str (de_var 1)) (da_es (de_tup (da_es (de_var 4) (da_es (de_var 5) da_nil))) da_nil)))) da_nil)))) da_nil))))))
    (dss_one (ds_ret (Fb.de (fb_tuple p.toPl) p.toPl T.b_tuple (da_rd (de_var 8) da_nil))))))))))))
theorem d__law_kids (T : Tt K mg C_Known C_Rule) (H : Tx P w K mg base n) : FnAt MX P w K mg base (xrK K) (n + 1) "_law_kids" ["_law_thing"] [] (fnM 2 (m__law_kids (mir n))) := by
  refine fnAt_succ T._law_kids sc__law_kids (fun f cdv A outer s Hp E hr hgu => ?_)
  have p := pc_def (P := P) (w := w) (K := K) (mg := mg) (base := base) (outer := outer) (H := Hp) (E := E) sc__law_kids hr hgu
  exact (dss_cons (ds_if (Cp.dt (cp_in p.toPl) (de_ixA p.toPl (de_var 0) de_int) (de_tup (da_es de_str (da_es de_str da_nil))) rfl) (dss_one (ds_ret (Fb.de (fb_list p.toPl) p.toPl T.b_list (da_rd (de_ixA p.toPl (de_var 0) de_int) da_nil)))) dss_nil)
    (dss_cons (ds_if (Cp.dt (cp_in p.toPl) (de_ixA p.toPl (de_var 0) de_int) (de_tup (da_es de_str (da_es de_str da_nil))) rfl) (dss_one (ds_ret (de_lst (da_es (de_ixA p.toPl (de_var 0) de_int) da_nil)))) dss_nil)
    (dss_one (ds_ret (de_lc (own := [("_law_one", 1)]) p.c p.toPl.nds (fun _ => blkOk_by (N := ["_law_thing", "_law_one"]) (sc := defScope s__law_kids) (by decide +kernel)) (di_any p.toPl (de_sl p.toPl (de_var 0) (do_some de_int) do_none)) (dg_name (p.blk _).toPl.nds (fun _ => rfl) (fun _ => by first | exact Or.inl rfl | exact Or.inr rfl)) (dts_one (dt_tru (p.blk _).toPl (de_isi (p.blk _).toPl T.b_isinstance T.b_tuple PyProof.Rows.boot_tuple (de_var 1)))) (de_var 1))))))
theorem d__law_sames (T : Tt K mg C_Known C_Rule) (H : Tx P w K mg base n) : FnAt MX P w K mg base (xrK K) (n + 1) "_law_sames" ["_law_room"] [] (fnM 21 (m__law_sames (mir n))) := by
  refine fnAt_succ T._law_sames sc__law_sames (fun f cdv A outer s Hp E hr hgu => ?_)
  have p := pc_def (P := P) (w := w) (K := K) (mg := mg) (base := base) (outer := outer) (H := Hp) (E := E) sc__law_sames hr hgu
  exact (dss_cons (ds_par3 (i := 1) (j := 2) (l := 3) p.c p.toPl.nds (fun _ => rfl) (fun _ => rfl) (fun _ => rfl) (by decide) (by decide) (by decide) (fun _ => rfl) (fun _ => rfl) (fun _ => rfl) (da_es (de_ixA p.toPl (de_ixA p.toPl (de_var 0) de_int) de_int) (da_es (de_ixA p.toPl (de_ixA p.toPl (de_var 0) de_int) de_int) (da_es (de_ixA p.toPl (de_ixA p.toPl (de_var 0) de_int) de_int) da_nil))))
    (dss_cons (ds_asg (de_tup (da_es (de_tup (da_es de_str (da_es de_int da_nil))) (da_es (de_tup (da_es de_str (da_es de_int da_nil))) (da_es (de_tup (da_es de_str (da_es (de_ixA p.toPl (de_ixA p.toPl (de_var 0) de_int) de_int) (da_es (de_tup da_nil) da_nil)))) (da_es (de_tup (da_es de_str (da_es (de_ixA p.toPl (de_ixA p.toPl (de_ixA p.toPl (de_var 0) de_int) de_int) de_int) (da_es (de_tup da_nil) da_nil)))) da_nil))))) (dg_tup p.k p.c (dgs_cons (dg_name p.toPl.nds (fun _ => rfl) (fun _ => by first | exact Or.inl rfl | exact Or.inr rfl)) (dgs_cons (dg_name p.toPl.nds (fun _ => rfl) (fun _ => by first | exact Or.inl rfl | exact Or.inr rfl)) (dgs_cons (dg_name p.toPl.nds (fun _ => rfl) (fun _ => by first | exact Or.inl rfl | exact Or.inr rfl)) (dgs_cons (dg_name p.toPl.nds (fun _ => rfl) (fun _ => by first | exact Or.inl rfl | exact Or.inr rfl)) dgs_nil))))))
    (dss_cons (ds_par (i := 8) (j := 9) p.c p.toPl.nds (fun _ => rfl) (fun _ => rfl) (by decide) (fun _ => rfl) (fun _ => rfl) (da_es (de_tup (da_es de_str (da_es (de_ixA p.toPl (de_ixA p.toPl (de_var 0) de_int) de_int) (da_es (de_tup (da_es (de_var 4) da_nil)) da_nil)))) (da_es (de_tup (da_es de_str (da_es (de_ixA p.toPl (de_ixA p.toPl (de_var 0) de_int) de_int) (da_es (de_tup (da_es (de_var 5) da_nil)) da_nil)))) da_nil)))
    (dss_cons (ds_par3 (i := 10) (j := 11) (l := 12) p.c p.toPl.nds (fun _ => rfl) (fun _ => rfl) (fun _ => rfl) (by decide) (by decide) (by decide) (fun _ => rfl) (fun _ => rfl) (fun _ => rfl) (da_es (de_tup (da_es de_str (da_es (de_ixA p.toPl (de_ixA p.toPl (de_var 0) de_int) de_int) (da_es (de_tup (da_es (de_var 8) da_nil)) da_nil)))) (da_es (de_tup (da_es de_str (da_es (de_ixA p.toPl (de_ixA p.toPl (de_var 0) de_int) de_int) (da_es (de_tup (da_es (de_var 6) da_nil)) da_nil)))) (da_es (de_tup (da_es de_str (da_es (de_var 3) (da_es (de_tup (da_es (de_var 4) (da_es (de_var 7) da_nil))) da_nil)))) da_nil))))
    (dss_cons (ds_par3 (i := 13) (j := 14) (l := 15) p.c p.toPl.nds (fun _ => rfl) (fun _ => rfl) (fun _ => rfl) (by decide) (by decide) (by decide) (fun _ => rfl) (fun _ => rfl) (fun _ => rfl) (da_es (de_tup (da_es de_str (da_es (de_var 3) (da_es (de_tup (da_es (de_var 5) (da_es (de_var 4) da_nil))) da_nil)))) (da_es (de_tup (da_es de_str (da_es (de_var 3) (da_es (de_tup (da_es (de_var 9) (da_es (de_var 4) da_nil))) da_nil)))) (da_es (de_tup (da_es de_str (da_es (de_var 3) (da_es (de_tup (da_es (de_var 6) (da_es (de_var 7) da_nil))) da_nil)))) da_nil))))
    (dss_cons (ds_set (i := 16) p.toPl.nds (fun _ => rfl) (fun _ => by first | exact Or.inl rfl | exact Or.inr rfl) (de_lst (da_es (de_tup (da_es (de_tup (da_es (de_var 1) da_nil)) (da_es (de_var 8) (da_es (de_var 4) da_nil)))) (da_es (de_tup (da_es (de_tup (da_es (de_var 1) da_nil)) (da_es (de_var 10) (da_es (de_var 8) da_nil)))) (da_es (de_tup (da_es (de_tup da_nil) (da_es (de_var 11) (da_es (de_var 6) da_nil)))) (da_es (de_tup (da_es (de_tup (da_es (de_var 1) (da_es (de_var 2) da_nil))) (da_es (de_var 13) (da_es (de_var 5) da_nil)))) (da_es (de_tup (da_es (de_tup (da_es (de_var 1) da_nil)) (da_es (de_var 12) (da_es (de_var 8) da_nil)))) (da_es (de_tup (da_es (de_tup (da_es (de_var 1) (da_es (de_var 2) da_nil))) (da_es (de_var 14) (da_es (de_var 13) da_nil)))) da_nil))))))))
    (dss_cons (ds_set (i := 16) p.toPl.nds (fun _ => rfl) (fun _ => by first | exact Or.inl rfl | exact Or.inr rfl) (de_add p.toPl (de_var 16) (de_lst (da_es (de_tup (da_es (de_tup da_nil) (da_es (de_var 15) (da_es (de_var 6) da_nil)))) (da_es (de_tup (da_es (de_tup (da_es (de_var 1) (da_es (de_var 2) da_nil))) (da_es (de_var 13) (da_es (de_var 6) da_nil)))) (da_es (de_tup (da_es (de_tup (da_es (de_var 1) da_nil)) (da_es (de_tup (da_es de_str (da_es (de_var 3) (da_es (de_tup (da_es (de_var 8) (da_es (de_var 7) da_nil))) da_nil)))) (da_es (de_var 4) da_nil)))) (da_es (de_tup (da_es (de_tup (da_es (de_var 1) (da_es (de_var 2) da_nil))) (da_es (de_var 14) (da_es (de_var 9) da_nil)))) da_nil)))))))
    (dss_cons (ds_set (i := 17) p.toPl.nds (fun _ => rfl) (fun _ => by first | exact Or.inl rfl | exact Or.inr rfl) (de_var 13))
    (dss_cons (ds_for own_def p.c (di_range1 p.toPl T.b_range (da_rd de_int da_nil)) (dg_name p.toPl.nds (fun _ => rfl) (fun _ => by first | exact Or.inl rfl | exact Or.inr rfl)) (dss_one (ds_set (i := 17) p.toPl.nds (fun _ => rfl) (fun _ => by first | exact Or.inl rfl | exact Or.inr rfl) (de_tup (da_es de_str (da_es (de_ixA p.toPl (de_ixA p.toPl (de_var 0) de_int) de_int) (da_es (de_tup (da_es (de_var 17) da_nil)) da_nil)))))))
    (dss_cons (ds_set (i := 16) p.toPl.nds (fun _ => rfl) (fun _ => by first | exact Or.inl rfl | exact Or.inr rfl) (de_add p.toPl (de_var 16) (de_lst (da_es (de_tup (da_es (de_tup (da_es (de_var 1) da_nil)) (da_es (de_var 4) (da_es (de_var 8) da_nil)))) (da_es (de_tup (da_es (de_tup (da_es (de_var 1) da_nil)) (da_es (de_var 8) (da_es (de_var 12) da_nil)))) (da_es (de_tup (da_es (de_tup (da_es (de_var 1) (da_es (de_var 1) da_nil))) (da_es (de_var 8) (da_es (de_var 4) da_nil)))) (da_es (de_tup (da_es (de_tup da_nil) (da_es (de_var 6) (da_es (de_var 6) da_nil)))) (da_es (de_tup (da_es (de_tup (da_es (de_var 1) da_nil)) (da_es (de_var 8) (da_es (de_var 8) da_nil)))) (da_es (de_tup (da_es (de_tup (da_es (de_var 1) (da_es (de_var 2) da_nil))) (da_es (de_var 13) (da_es (de_var 14) da_nil)))) da_nil)))))))))
    (dss_cons (ds_set (i := 16) p.toPl.nds (fun _ => rfl) (fun _ => by first | exact Or.inl rfl | exact Or.inr rfl) (de_add p.toPl (de_var 16) (de_lst (da_es (de_tup (da_es (de_tup (da_es (de_var 1) (da_es (de_var 2) da_nil))) (da_es (de_var 17) (da_es (de_tup (da_es de_str (da_es (de_var 3) (da_es (de_tup (da_es (de_var 13) (da_es (de_var 4) da_nil))) da_nil)))) da_nil)))) (da_es (de_tup (da_es (de_tup (da_es (de_var 1) (da_es (de_var 2) da_nil))) (da_es (de_var 17) (da_es (de_var 13) da_nil)))) da_nil)))))
    (dss_cons (ds_set (i := 19) p.toPl.nds (fun _ => rfl) (fun _ => by first | exact Or.inl rfl | exact Or.inr rfl) (de_var 6))
    (dss_cons (ds_for own_def p.c (di_range1 p.toPl T.b_range (da_rd de_int da_nil)) (dg_name p.toPl.nds (fun _ => rfl) (fun _ => by first | exact Or.inl rfl | exact Or.inr rfl)) (dss_one (ds_set (i := 19) p.toPl.nds (fun _ => rfl) (fun _ => by first | exact Or.inl rfl | exact Or.inr rfl) (de_tup (da_es de_str (da_es (de_var 3) (da_es (de_tup (da_es (de_var 19) (da_es (de_tup (da_es de_str (da_es (de_var 20) da_nil))) da_nil))) da_nil)))))))
    (dss_one (ds_ret (de_add p.toPl (de_var 16) (de_lst (da_es (de_tup (da_es (de_repT p.toPl (de_tup (da_es (de_var 2) da_nil)) de_int) (da_es (de_var 19) (da_es (de_var 6) da_nil)))) (da_es (de_tup (da_es (de_repT p.toPl (de_tup (da_es (de_var 2) da_nil)) de_int) (da_es (de_tup (da_es de_str (da_es (de_var 3) (da_es (de_tup (da_es (de_var 19) (da_es (de_tup (da_es de_str (da_es de_int da_nil))) da_nil))) da_nil)))) (da_es (de_var 6) da_nil)))) (da_es (de_tup (da_es (de_repT p.toPl (de_tup (da_es (de_var 2) da_nil)) de_int) (da_es (de_var 19) (da_es (de_var 6) da_nil)))) da_nil))))))))))))))))))))
theorem d__law_whole (T : Tt K mg C_Known C_Rule) (H : Tx P w K mg base n) : FnAt MX P w K mg base (xrK K) (n + 1) "_law_whole" ["_law_row"] [] (fnM 3 (m__law_whole (mir n))) := by
  refine fnAt_succ T._law_whole sc__law_whole (fun f cdv A outer s Hp E hr hgu => ?_)
  have p := pc_def (P := P) (w := w) (K := K) (mg := mg) (base := base) (outer := outer) (H := Hp) (E := E) sc__law_whole hr hgu
  exact (dss_cons (ds_set (i := 1) p.toPl.nds (fun _ => rfl) (fun _ => by first | exact Or.inl rfl | exact Or.inr rfl) (de_tup (da_es de_str (da_es (de_ixA p.toPl (de_var 0) de_int) (da_es (de_ixA p.toPl (de_var 0) de_int) da_nil)))))
    (dss_cons (ds_for own_def p.c (di_any p.toPl (de_rev p.toPl (de_ixA p.toPl (de_var 0) de_int))) (dg_name p.toPl.nds (fun _ => rfl) (fun _ => by first | exact Or.inl rfl | exact Or.inr rfl)) (dss_one (ds_set (i := 1) p.toPl.nds (fun _ => rfl) (fun _ => by first | exact Or.inl rfl | exact Or.inr rfl) (de_tup (da_es de_str (da_es (de_var 2) (da_es (de_var 1) da_nil)))))))
    (dss_one (ds_ret (de_var 1)))))
theorem d__law_ruled (T : Tt K mg C_Known C_Rule) (H : Tx P w K mg base n) : FnAt MX P w K mg base (xrK K) (n + 1) "_law_ruled" ["_law_room", "_law_cells", "_law_spot"] [] (fnM 12 (m__law_ruled (mir n))) := by
  refine fnAt_succ T._law_ruled sc__law_ruled (fun f cdv A outer s Hp E hr hgu => ?_)
  have p := pc_def (P := P) (w := w) (K := K) (mg := mg) (base := base) (outer := outer) (H := Hp) (E := E) sc__law_ruled hr hgu
  exact (dss_cons (ds_set (i := 3) p.toPl.nds (fun _ => rfl) (fun _ => by first | exact Or.inl rfl | exact Or.inr rfl) (de_fn p H._law_sames (da_es (de_var 0) da_nil) (len_cons (fun _ _ _ h => len_nil h))))
    (dss_cons (ds_set (i := 4) p.toPl.nds (fun _ => rfl) (fun _ => by first | exact Or.inl rfl | exact Or.inr rfl) de_newD)
    (dss_cons (ds_for own_def p.c (di_range1 p.toPl T.b_range (da_rd (de_add p.toPl de_int (de_mod (de_fn p H._law_cell (da_es (de_var 1) (da_es (de_var 2) da_nil)) (len_cons (len_cons (fun _ _ _ h => len_nil h)))) de_int)) da_nil)) (dg_name p.toPl.nds (fun _ => rfl) (fun _ => by first | exact Or.inl rfl | exact Or.inr rfl)) (dss_cons (ds_set (i := 6) p.toPl.nds (fun _ => rfl) (fun _ => by first | exact Or.inl rfl | exact Or.inr rfl) (de_fn p H._law_cell (da_es (de_var 1) (da_es (de_var 2) da_nil)) (len_cons (len_cons (fun _ _ _ h => len_nil h)))))
    (dss_cons (ds_set (i := 7) p.toPl.nds (fun _ => rfl) (fun _ => by first | exact Or.inl rfl | exact Or.inr rfl) (de_ixA p.toPl (de_var 3) (de_ixA p.toPl (de_lst (da_es (de_mod (de_fdiv (de_var 6) de_int) de_int) (da_es (de_mod (de_fdiv (de_var 6) de_int) (Fb.de (fb_len p.toPl) p.toPl T.b_len (da_rd (de_var 3) da_nil))) da_nil))) (de_mod (de_var 6) de_int))))
    (dss_cons (ds_set (i := 8) p.toPl.nds (fun _ => rfl) (fun _ => by first | exact Or.inl rfl | exact Or.inr rfl) (de_add p.toPl (de_add p.toPl de_str (de_ixA p.toPl de_str (de_var 5))) (de_sl p.toPl (de_ixA p.toPl (de_ixA p.toPl (de_var 0) de_int) de_int) (do_some de_int) do_none)))
    (dss_cons (ds_setLc (i := 9) (own := [("_law_one", 11)]) p.c p.toPl.nds (fun _ => rfl) (fun _ => rfl) (fun _ => sw_true rfl rfl rfl (by decide +kernel)) (fun _ => blkOk_by (N := ["_law_room", "_law_cells", "_law_spot", "_law_some", "_law_called", "_law_at", "_law_n", "_law_row", "_law_name", "_law_last", "_law_entry", "_law_one"]) (sc := defScope s__law_ruled) (by decide +kernel)) (di_any p.toPl (de_dsort p.toPl T.b_sorted (de_var 4))) (dg_name (p.blk _).toPl.nds (fun _ => rfl) (fun _ => by first | exact Or.inl rfl | exact Or.inr rfl)) (dts_one (Cp.dt (cp_eq (p.blk _).toPl) (de_dix (p.blk _).toPl (de_var 4) (de_var 11)) (de_var 7) (nomark _))) (de_var 11))
    (dss_cons (ds_set (i := 10) p.toPl.nds (fun _ => rfl) (fun _ => by first | exact Or.inl rfl | exact Or.inr rfl) (de_tup (da_es de_str (da_es (de_var 8) (da_es (de_fn p H._law_whole (da_es (de_var 7) da_nil) (len_cons (fun _ _ _ h => len_nil h))) da_nil)))))
    (dss_cons (ds_if (Cp.dt (cp_ne p.toPl) (de_var 9) (de_lst da_nil) (nomark _)) (dss_one (ds_set (i := 10) p.toPl.nds (fun _ => rfl) (fun _ => by first | exact Or.inl rfl | exact Or.inr rfl) (de_tup (da_es de_str (da_es (de_var 8) (da_es (de_fn p H._law_whole (da_es (de_var 7) da_nil) (len_cons (fun _ _ _ h => len_nil h))) (da_es (de_tup (da_es de_str (da_es (de_ixA p.toPl (de_var 9) de_int) da_nil))) da_nil))))))) dss_nil)
    (dss_cons (ds_set (i := 0) p.toPl.nds (fun _ => rfl) (fun _ => by first | exact Or.inl rfl | exact Or.inr rfl) (de_add p.toPl (de_var 0) (de_tup (da_es (de_var 10) da_nil))))
    (dss_one (ds_dput p.toPl (de_var 7) (de_var 4) (de_var 8)))))))))))
    (dss_one (ds_ret (de_tup (da_es (de_var 0) (da_es (de_var 4) da_nil))))))))
theorem d__law_parts (T : Tt K mg C_Known C_Rule) (H : Tx P w K mg base n) : FnAt MX P w K mg base (xrK K) (n + 1) "_law_parts" ["_law_thing"] [] (fnM 2 (m__law_parts (mir n))) := by
  refine fnAt_succ T._law_parts sc__law_parts (fun f cdv A outer s Hp E hr hgu => ?_)
  have p := pc_def (P := P) (w := w) (K := K) (mg := mg) (base := base) (outer := outer) (H := Hp) (E := E) sc__law_parts hr hgu
  exact (dss_one (ds_ret (de_add p.toPl de_int (Fb.de (fb_sum p.toPl) p.toPl T.b_sum (da_rd (de_lc (own := [("_law_one", 1)]) p.c p.toPl.nds (fun _ => blkOk_by (N := ["_law_thing", "_law_one"]) (sc := defScope s__law_parts) (by decide +kernel)) (di_any p.toPl (de_fn p H._law_kids (da_es (de_var 0) da_nil) (len_cons (fun _ _ _ h => len_nil h)))) (dg_name (p.blk _).toPl.nds (fun _ => rfl) (fun _ => by first | exact Or.inl rfl | exact Or.inr rfl)) dts_nil (de_fn (p.blk _) H._law_parts (da_es (de_var 1) da_nil) (len_cons (fun _ _ _ h => len_nil h)))) da_nil)))))
theorem d__law_times (T : Tt K mg C_Known C_Rule) (H : Tx P w K mg base n) : FnAt MX P w K mg base (xrK K) (n + 1) "_law_times" ["_law_thing", "_law_number"] [] (fnM 3 (m__law_times (mir n))) := by
  refine fnAt_succ T._law_times sc__law_times (fun f cdv A outer s Hp E hr hgu => ?_)
  have p := pc_def (P := P) (w := w) (K := K) (mg := mg) (base := base) (outer := outer) (H := Hp) (E := E) sc__law_times hr hgu
  exact (dss_one (ds_ret (de_add p.toPl (Fb.de fb_int p.toPl T.b_int (da_rd (Cp.de (cp_eq p.toPl) (de_var 0) (de_tup (da_es de_str (da_es (de_var 1) da_nil))) (nomark _)) da_nil)) (Fb.de (fb_sum p.toPl) p.toPl T.b_sum (da_rd (de_lc (own := [("_law_one", 2)]) p.c p.toPl.nds (fun _ => blkOk_by (N := ["_law_thing", "_law_number", "_law_one"]) (sc := defScope s__law_times) (by decide +kernel)) (di_any p.toPl (de_fn p H._law_kids (da_es (de_var 0) da_nil) (len_cons (fun _ _ _ h => len_nil h)))) (dg_name (p.blk _).toPl.nds (fun _ => rfl) (fun _ => by first | exact Or.inl rfl | exact Or.inr rfl)) dts_nil (de_fn (p.blk _) H._law_times (da_es (de_var 2) (da_es (de_var 1) da_nil)) (len_cons (len_cons (fun _ _ _ h => len_nil h))))) da_nil)))))
theorem d__law_is_rule (T : Tt K mg C_Known C_Rule) (H : Tx P w K mg base n) : FnAt MX P w K mg base (xrK K) (n + 1) "_law_is_rule" ["_law_row"] [] (fnM 7 (m__law_is_rule (mir n))) := by
  refine fnAt_succ T._law_is_rule sc__law_is_rule (fun f cdv A outer s Hp E hr hgu => ?_)
  have p := pc_def (P := P) (w := w) (K := K) (mg := mg) (base := base) (outer := outer) (H := Hp) (E := E) sc__law_is_rule hr hgu
  exact (dss_cons (ds_asg (de_var 0) (dg_tup p.k p.c (dgs_cons (dg_name p.toPl.nds (fun _ => rfl) (fun _ => by first | exact Or.inl rfl | exact Or.inr rfl)) (dgs_cons (dg_name p.toPl.nds (fun _ => rfl) (fun _ => by first | exact Or.inl rfl | exact Or.inr rfl)) (dgs_cons (dg_name p.toPl.nds (fun _ => rfl) (fun _ => by first | exact Or.inl rfl | exact Or.inr rfl)) dgs_nil)))))
    (dss_cons (ds_if (dt_w (dw_or (Cp.dt cp_gt (Fb.de (fb_len p.toPl) p.toPl T.b_len (da_rd (de_var 1) da_nil)) de_int (nomark _)) (dw_or (Cp.dt (cp_ne p.toPl) (de_ixA p.toPl (de_var 2) de_int) de_str (nomark _)) (dw_or1 (Cp.dt cp_ge (de_fn p H._law_parts (da_es (de_var 3) da_nil) (len_cons (fun _ _ _ h => len_nil h))) (de_fn p H._law_parts (da_es (de_var 2) da_nil) (len_cons (fun _ _ _ h => len_nil h))) (nomark _)))))) (dss_one (ds_ret de_bl)) dss_nil)
    (dss_cons (ds_setLc (i := 4) (own := [("_law_number", 5)]) p.c p.toPl.nds (fun _ => rfl) (fun _ => rfl) (fun _ => sw_true rfl rfl rfl (by decide +kernel)) (fun _ => blkOk_by (N := ["_law_row", "_law_kinds", "_law_left", "_law_right", "_law_counts", "_law_number", "_law_one"]) (sc := defScope s__law_is_rule) (by decide +kernel)) (di_range1 p.toPl T.b_range (da_rd (Fb.de (fb_len p.toPl) p.toPl T.b_len (da_rd (de_var 1) da_nil)) da_nil)) (dg_name (p.blk _).toPl.nds (fun _ => rfl) (fun _ => by first | exact Or.inl rfl | exact Or.inr rfl)) dts_nil (de_tup (da_es (de_fn (p.blk _) H._law_times (da_es (de_var 2) (da_es (de_var 5) da_nil)) (len_cons (len_cons (fun _ _ _ h => len_nil h)))) (da_es (de_fn (p.blk _) H._law_times (da_es (de_var 3) (da_es (de_var 5) da_nil)) (len_cons (len_cons (fun _ _ _ h => len_nil h)))) da_nil))))
    (dss_one (ds_ret (Cp.de (cp_eq p.toPl) (de_lc (own := [("_law_one", 6)]) p.c p.toPl.nds (fun _ => blkOk_by (N := ["_law_row", "_law_kinds", "_law_left", "_law_right", "_law_counts", "_law_number", "_law_one"]) (sc := defScope s__law_is_rule) (by decide +kernel)) (di_any p.toPl (de_var 4)) (dg_name (p.blk _).toPl.nds (fun _ => rfl) (fun _ => by first | exact Or.inl rfl | exact Or.inr rfl)) (dts_one (dt_w (dw_or (Cp.dt (cp_eq (p.blk _).toPl) (de_ixA (p.blk _).toPl (de_var 6) de_int) de_int (nomark _)) (dw_or1 (Cp.dt cp_gt (de_ixA (p.blk _).toPl (de_var 6) de_int) (de_ixA (p.blk _).toPl (de_var 6) de_int) (nomark _)))))) (de_var 6)) (de_lst da_nil) (nomark _)))))))
theorem d__law_shaped (T : Tt K mg C_Known C_Rule) (H : Tx P w K mg base n) : FnAt MX P w K mg base (xrK K) (n + 1) "_law_shaped" ["_law_room", "_law_n"] [] (fnM 6 (m__law_shaped (mir n))) := by
  refine fnAt_succ T._law_shaped sc__law_shaped (fun f cdv A outer s Hp E hr hgu => ?_)
  have p := pc_def (P := P) (w := w) (K := K) (mg := mg) (base := base) (outer := outer) (H := Hp) (E := E) sc__law_shaped hr hgu
  exact (dss_cons (ds_par (i := 2) (j := 3) p.c p.toPl.nds (fun _ => rfl) (fun _ => rfl) (by decide) (fun _ => rfl) (fun _ => rfl) (da_es (de_ixA p.toPl (de_ixA p.toPl (de_var 0) de_int) de_int) (da_es (de_tup (da_es de_str (da_es de_int da_nil))) da_nil)))
    (dss_cons (ds_set (i := 4) p.toPl.nds (fun _ => rfl) (fun _ => by first | exact Or.inl rfl | exact Or.inr rfl) (de_tup (da_es de_str (da_es (de_ixA p.toPl (de_ixA p.toPl (de_var 0) de_int) de_int) (da_es (de_tup (da_es (de_var 3) da_nil)) da_nil)))))
    (dss_cons (ds_set (i := 5) p.toPl.nds (fun _ => rfl) (fun _ => by first | exact Or.inl rfl | exact Or.inr rfl) (de_lst (da_es (de_tup (da_es de_str (da_es (de_ixA p.toPl (de_ixA p.toPl (de_var 0) de_int) de_int) (da_es (de_tup (da_es (de_var 3) da_nil)) da_nil)))) (da_es (de_tup (da_es de_str (da_es (de_tup (da_es de_str (da_es (de_var 4) (da_es (de_var 3) da_nil)))) (da_es (de_tup (da_es de_str (da_es (de_var 4) (da_es (de_var 3) da_nil)))) da_nil)))) (da_es (de_tup (da_es de_str (da_es (de_tup (da_es de_str da_nil)) (da_es (de_tup (da_es de_str (da_es (de_var 4) (da_es (de_var 3) da_nil)))) da_nil)))) da_nil)))))
    (dss_cons (ds_set (i := 5) p.toPl.nds (fun _ => rfl) (fun _ => by first | exact Or.inl rfl | exact Or.inr rfl) (de_add p.toPl (de_var 5) (de_lst (da_es (de_tup (da_es de_str (da_es (de_var 2) (da_es (de_tup (da_es de_str (da_es (de_var 4) (da_es (de_var 3) da_nil)))) da_nil)))) (da_es (de_tup (da_es de_str (da_es (de_tup (da_es de_str (da_es (de_var 4) (da_es (de_var 3) da_nil)))) (da_es (de_tup (da_es de_str da_nil)) da_nil)))) (da_es (de_tup (da_es de_str (da_es (de_tup (da_es de_str (da_es (de_var 4) (da_es (de_var 3) da_nil)))) (da_es (de_tup (da_es de_str da_nil)) da_nil)))) da_nil))))))
    (dss_one (ds_ret (de_tup (da_es de_str (da_es (de_var 2) (da_es (de_ixA p.toPl (de_var 5) (de_mod (de_var 1) de_int)) da_nil))))))))))
theorem d__law_odd (T : Tt K mg C_Known C_Rule) (H : Tx P w K mg base n) : FnAt MX P w K mg base (xrK K) (n + 1) "_law_odd" ["_law_room", "_law_n"] [] (fnM 3 (m__law_odd (mir n))) := by
  refine fnAt_succ T._law_odd sc__law_odd (fun f cdv A outer s Hp E hr hgu => ?_)
  have p := pc_def (P := P) (w := w) (K := K) (mg := mg) (base := base) (outer := outer) (H := Hp) (E := E) sc__law_odd hr hgu
  exact (dss_cons (ds_set (i := 2) p.toPl.nds (fun _ => rfl) (fun _ => by first | exact Or.inl rfl | exact Or.inr rfl) (de_lst (da_es de_non (da_es de_int (da_es de_bl (da_es (de_tup (da_es de_str da_nil)) (da_es (de_lst (da_es de_str da_nil)) (da_es de_emp (da_es de_str (da_es de_str (da_es de_str (da_es (de_ixA p.toPl (de_ixA p.toPl (de_var 0) de_int) de_int) (da_es (de_ixA p.toPl (de_ixA p.toPl (de_var 0) de_int) de_int) (da_es (de_ixA p.toPl (de_ixA p.toPl (de_var 0) de_int) de_int) (da_es (de_ixA p.toPl (de_ixA p.toPl (de_var 0) de_int) de_int) da_nil)))))))))))))))
    (dss_one (ds_ret (de_ixA p.toPl (de_add p.toPl (de_var 2) (de_lst (da_es (de_ixA p.toPl (de_ixA p.toPl (de_ixA p.toPl (de_var 0) de_int) de_int) de_int) (da_es (de_add p.toPl (de_ixA p.toPl (de_ixA p.toPl (de_var 0) de_int) de_int) de_str) da_nil)))) (de_mod (de_var 1) de_int)))))
theorem tx_zero (T : Tt K mg C_Known C_Rule) : Tx P w K mg base 0 := ⟨fnAt_zero T.within, fnAt_zero T.parts_of, mkAt_zero T.mk_Known 0, mkAt_zero T.mk_Known 1, meAt_zero T.Known_again, meAt_zero T.Known_with_entry, meAt_zero T.Known_statement, fnAt_zero T.known_of, mkAt_zero T.mk_Rule 0, mkAt_zero T.mk_Rule 1, fnAt_zero T.times_in, fnAt_zero T.rule_of, fnAt_zero T.is_rule, fnAt_zero T._law_cell, fnAt_zero T._law_entries, fnAt_zero T._law_kids, fnAt_zero T._law_sames, fnAt_zero T._law_whole, fnAt_zero T._law_ruled, fnAt_zero T._law_parts, fnAt_zero T._law_times, fnAt_zero T._law_is_rule, fnAt_zero T._law_shaped, fnAt_zero T._law_odd⟩
theorem tx_succ (T : Tt K mg C_Known C_Rule) (H : Tx P w K mg base n) : Tx P w K mg base (n + 1) := ⟨d_within T H, d_parts_of T H, H.ini_Known, d_Known___init__ T H, d_Known_again T H, d_Known_with_entry T H, d_Known_statement T H, d_known_of T H, H.ini_Rule, d_Rule___init__ T H, d_times_in T H, d_rule_of T H, d_is_rule T H, d__law_cell T H, d__law_entries T H, d__law_kids T H, d__law_sames T H, d__law_whole T H, d__law_ruled T H, d__law_parts T H, d__law_times T H, d__law_is_rule T H, d__law_shaped T H, d__law_odd T H⟩
theorem tx_all (T : Tt K mg C_Known C_Rule) : ∀ n : Nat, Tx P w K mg base n
  | 0 => tx_zero T
  | n + 1 => tx_succ T (tx_all T n)
theorem d_law (T : Tt K mg C_Known C_Rule) {f : Addr} {fd : FuncData} (hF : FunD K "law" "law" (defArgs s_law) (defBody s_law) (defScope s_law) [] [] f fd)
    (hp : ∀ ns : List Int, ns.length ≤ 63 → (∀ z ∈ ns, Builtin.Int.intBits z ≤ 1048576) → ∃ z', m_law (mir lawLevel) (zX 14 ns) = .ok (.rt (.d (.bl true))) z') : FnG P w K mg base (L2.CX P w) (lawLevel + 9) f fd ["_law_script"] (spLaw K) := by
  have H : Tx P w K mg base lawLevel := tx_all T lawLevel
  refine okG hF sc_law (fun vs H Q E h => by obtain ⟨a, ns, rfl, _⟩ := h; rfl) (fun cdv A outer s Hp vs Q E hr hgu h => ?_)
  have p := pc_def (P := P) (w := w) (K := K) (mg := mg) (base := base) (outer := outer) (H := Hp) (E := E) sc_law hr hgu
  obtain ⟨t, pt, ct⟩ : DSs MX (xrK K) K (fun _ : Unit => cxOf (L2.CX P w) P w K mg base ["_law_script", "_law_cells", "_law_spot", "_law_turn", "_law_room", "_law_called", "_law_n", "_law_entry", "_law_name", "_law_due", "_law_again", "_law_found", "_law_at", "_law_row", "_law_one"] "law" (defScope s_law) f cdv A outer s Hp E) (fun cls d _ H => E cls d H) (defBody s_law) (m_law (mir lawLevel)) :=
    (dss_cons (ds_setLc (i := 1) (own := [("_law_one", 14)]) p.c p.toPl.nds (fun _ => rfl) (fun _ => rfl) (fun _ => sw_true rfl rfl rfl (by decide +kernel)) (fun _ => blkOk_by (N := ["_law_script", "_law_cells", "_law_spot", "_law_turn", "_law_room", "_law_called", "_law_n", "_law_entry", "_law_name", "_law_due", "_law_again", "_law_found", "_law_at", "_law_row", "_law_one"]) (sc := defScope s_law) (by decide +kernel)) (di_any p.toPl (de_var 0)) (dg_name (p.blk _).toPl.nds (fun _ => rfl) (fun _ => by first | exact Or.inl rfl | exact Or.inr rfl)) dts_nil (de_var 14))
    (dss_cons (ds_set (i := 2) p.toPl.nds (fun _ => rfl) (fun _ => by first | exact Or.inl rfl | exact Or.inr rfl) (de_newL (da_es de_int da_nil)))
    (dss_cons (ds_for own_def p.c (di_range1 p.toPl T.b_range (da_rd (Fb.de (fb_max p.toPl) p.toPl T.b_max (da_rd de_int (da_rd (Fb.de (fb_min p.toPl) p.toPl T.b_min (da_rd de_int (da_rd (de_add p.toPl (de_fdiv (Fb.de (fb_len p.toPl) p.toPl T.b_len (da_rd (de_var 1) da_nil)) de_int) de_int) da_nil))) da_nil))) da_nil)) (dg_name p.toPl.nds (fun _ => rfl) (fun _ => by first | exact Or.inl rfl | exact Or.inr rfl)) (dss_cons (ds_asg (de_fn p H._law_ruled (da_es (de_fn p H._law_entries (da_es (de_fn p H._law_cell (da_es (de_var 1) (da_es (de_var 2) da_nil)) (len_cons (len_cons (fun _ _ _ h => len_nil h)))) da_nil) (len_cons (fun _ _ _ h => len_nil h))) (da_es (de_var 1) (da_es (de_var 2) da_nil))) (len_cons (len_cons (len_cons (fun _ _ _ h => len_nil h))))) (dg_tup p.k p.c (dgs_cons (dg_name p.toPl.nds (fun _ => rfl) (fun _ => by first | exact Or.inl rfl | exact Or.inr rfl)) (dgs_cons (dg_name p.toPl.nds (fun _ => rfl) (fun _ => by first | exact Or.inl rfl | exact Or.inr rfl)) dgs_nil))))
    (dss_cons (ds_set (i := 6) p.toPl.nds (fun _ => rfl) (fun _ => by first | exact Or.inl rfl | exact Or.inr rfl) (de_fn p H._law_cell (da_es (de_var 1) (da_es (de_var 2) da_nil)) (len_cons (len_cons (fun _ _ _ h => len_nil h)))))
    (dss_cons (ds_set (i := 4) p.toPl.nds (fun _ => rfl) (fun _ => by first | exact Or.inl rfl | exact Or.inr rfl) (de_add p.toPl (de_var 4) (de_tup (da_es (de_tup (da_es de_str (da_es (de_add p.toPl de_str (de_sl p.toPl (de_ixA p.toPl (de_ixA p.toPl (de_var 4) de_int) de_int) (do_some de_int) do_none)) (da_es (de_fn p H._law_shaped (da_es (de_var 4) (da_es (de_var 6) da_nil)) (len_cons (len_cons (fun _ _ _ h => len_nil h)))) da_nil)))) da_nil))))
    (dss_cons (ds_for own_def p.c (di_any p.toPl (de_var 4)) (dg_name p.toPl.nds (fun _ => rfl) (fun _ => by first | exact Or.inl rfl | exact Or.inr rfl)) (dss_cons (ds_set (i := 8) p.toPl.nds (fun _ => rfl) (fun _ => by first | exact Or.inl rfl | exact Or.inr rfl) (de_ixA p.toPl (de_var 7) de_int))
    (dss_cons (ds_set (i := 9) p.toPl.nds (fun _ => rfl) (fun _ => by first | exact Or.inl rfl | exact Or.inr rfl) (de_and (de_din p.toPl (de_var 8) (de_var 5)) (de_one (de_fn p H._law_is_rule (da_es (de_dix p.toPl (de_var 5) (de_var 8)) da_nil) (len_cons (fun _ _ _ h => len_nil h))))))
    (dss_one (ds_for own_def p.c (di_range1 p.toPl T.b_range (da_rd de_int da_nil)) (dg_name p.toPl.nds (fun _ => rfl) (fun _ => by first | exact Or.inl rfl | exact Or.inr rfl)) (dss_cons (ds_set (i := 11) p.toPl.nds (fun _ => rfl) (fun _ => by first | exact Or.inl rfl | exact Or.inr rfl) (de_fn p H.is_rule (da_es (de_var 4) (da_es (de_var 8) da_nil)) (len_cons (len_cons (fun _ _ _ h => len_nil h)))))
    (dss_one (ds_if (dt_w (dw_or (dt_not (dt_tru p.toPl (de_isi p.toPl T.b_isinstance T.b_bool PyProof.Rows.boot_bool (de_var 11)))) (dw_or1 (Cp.dt (cp_ne p.toPl) (de_var 11) (de_var 9) (nomark _))))) (dss_one (ds_ret de_bl)) dss_nil))))))))
    (dss_one (ds_if (Cp.dt cp_isNot (de_fn p H.is_rule (da_es (de_var 4) (da_es (de_fn p H._law_odd (da_es (de_var 4) (da_es (de_fdiv (de_var 6) de_int) da_nil)) (len_cons (len_cons (fun _ _ _ h => len_nil h)))) da_nil)) (len_cons (len_cons (fun _ _ _ h => len_nil h)))) de_bl (nomark _)) (dss_one (ds_ret de_bl)) dss_nil)))))))
    (dss_cons (ds_set (i := 4) p.toPl.nds (fun _ => rfl) (fun _ => by first | exact Or.inl rfl | exact Or.inr rfl) (de_fn p H._law_entries (da_es (de_fn p H._law_cell (da_es (de_var 1) (da_es (de_var 2) da_nil)) (len_cons (len_cons (fun _ _ _ h => len_nil h)))) da_nil) (len_cons (fun _ _ _ h => len_nil h))))
    (dss_cons (ds_for own_def p.c (di_enum p.toPl T.b_enumerate (de_fn p H._law_sames (da_es (de_var 4) da_nil) (len_cons (fun _ _ _ h => len_nil h)))) (dg_tup p.k p.c (dgs_cons (dg_name p.toPl.nds (fun _ => rfl) (fun _ => by first | exact Or.inl rfl | exact Or.inr rfl)) (dgs_cons (dg_name p.toPl.nds (fun _ => rfl) (fun _ => by first | exact Or.inl rfl | exact Or.inr rfl)) dgs_nil))) (dss_cons (ds_set (i := 11) p.toPl.nds (fun _ => rfl) (fun _ => by first | exact Or.inl rfl | exact Or.inr rfl) (de_fn p H.is_rule (da_es (de_add p.toPl (de_var 4) (de_tup (da_es (de_tup (da_es de_str (da_es de_str (da_es (de_fn p H._law_whole (da_es (de_var 13) da_nil) (len_cons (fun _ _ _ h => len_nil h))) da_nil)))) da_nil))) (da_es de_str da_nil)) (len_cons (len_cons (fun _ _ _ h => len_nil h)))))
    (dss_one (ds_if (dt_w (dw_or (Cp.dt (cp_ne p.toPl) (de_var 11) (de_fn p H._law_is_rule (da_es (de_var 13) da_nil) (len_cons (fun _ _ _ h => len_nil h))) (nomark _)) (dw_or1 (Cp.dt (cp_ne p.toPl) (de_var 11) (de_or (Cp.de cp_lt (de_var 12) de_int (nomark _)) (de_one (Cp.de (cp_in p.toPl) (de_var 12) (de_tup (da_es de_int (da_es de_int da_nil))) rfl))) (nomark _))))) (dss_one (ds_ret de_bl)) dss_nil))))
    (dss_one (ds_ret de_bl)))))))
  exact ⟨_, pt (), law_runX (N := ["_law_script", "_law_cells", "_law_spot", "_law_turn", "_law_room", "_law_called", "_law_n", "_law_entry", "_law_name", "_law_due", "_law_again", "_law_found", "_law_at", "_law_row", "_law_one"]) (by decide) hp ct h⟩
end
/-! ### the end -/
theorem all_mk {l : PySem.W.OpenLaw} {w : World} {K : PySem.W.Frag} {h : Heap} {mg : Str → Option Value} {fa f0 f1 f2 f3 f4 f5 f6 f7 f8 f9 f10 f11 f12 f13 f14 f15 f16 f17 f18 f19 f20 f21 f22 : Addr} (X : K.In h) (G0 : h.Ns mainGlobals mg) (hfa : mg "law" = some (.ref fa))
    {od0 an0 od1 an1 od2 an2 od3 an3 od4 an4 od5 an5 od6 an6 od7 an7 od8 an8 od9 an9 od10 an10 od11 an11 od12 an12 od13 an13 od14 an14 od15 an15 od16 an16 od17 an17 od18 an18 od19 an19 od20 an20 od21 an21 od22 an22 : Option Addr} {sl0 sl1 sl2 sl3 sl4 sl5 sl6 sl7 sl8 sl9 sl10 sl11 sl12 sl13 sl14 sl15 sl16 sl17 sl18 sl19 sl20 sl21 sl22 : Array (Option Value)} {oc0 kV0 dc0 pm0 cd0 ct0 oc1 kV1 dc1 pm1 cd1 ct1 oc2 kV2 dc2 pm2 cd2 ct2 oc3 kV3 dc3 pm3 cd3 ct3 oc4 kV4 dc4 pm4 cd4 ct4 oc5 kV5 dc5 pm5 cd5 ct5 oc6 kV6 dc6 pm6 cd6 ct6 oc7 kV7 dc7 pm7 cd7 ct7 oc8 kV8 dc8 pm8 cd8 ct8 oc9 kV9 dc9 pm9 cd9 ct9 oc10 kV10 dc10 pm10 cd10 ct10 oc11 kV11 dc11 pm11 cd11 ct11 oc12 kV12 dc12 pm12 cd12 ct12 oc13 kV13 dc13 pm13 cd13 ct13 oc14 kV14 dc14 pm14 cd14 ct14 oc15 kV15 dc15 pm15 cd15 ct15 oc16 kV16 dc16 pm16 cd16 ct16 oc17 kV17 dc17 pm17 cd17 ct17 oc18 kV18 dc18 pm18 cd18 ct18 oc19 kV19 dc19 pm19 cd19 ct19 oc20 kV20 dc20 pm20 cd20 ct20 oc21 kV21 dc21 pm21 cd21 ct21 oc22 kV22 dc22 pm22 cd22 ct22 : Value}
    {C_Known : Addr} (ca_Known : PySem.W.nsIn K mainGlobals "Known" = some (some (.ref C_Known)))
    (cb1_Known : PySem.W.plainGet K C_Known Str.empty = true)
    (cb2_Known : PySem.W.hasDictIn K C_Known = true)
    (cb3_Known : PySem.W.plainOver K C_Known = true)
    (cb4_Known : PySem.W.findIn K (.ref C_Known) "__setattr__" = some (some (.builtin "object.__setattr__")))
    (cm1_Known : PySem.W.makesIn K C_Known = true)
    (cm2_Known : PySem.W.keepIn K (.ref C_Known) = true)
    {C_Rule : Addr} (ca_Rule : PySem.W.nsIn K mainGlobals "Rule" = some (some (.ref C_Rule)))
    (cb1_Rule : PySem.W.plainGet K C_Rule Str.empty = true)
    (cb2_Rule : PySem.W.hasDictIn K C_Rule = true)
    (cb3_Rule : PySem.W.plainOver K C_Rule = true)
    (cb4_Rule : PySem.W.findIn K (.ref C_Rule) "__setattr__" = some (some (.builtin "object.__setattr__")))
    (cm1_Rule : PySem.W.makesIn K C_Rule = true)
    (cm2_Rule : PySem.W.keepIn K (.ref C_Rule) = true)
    (na_Known_told_calls : PySem.W.findIn K (.ref C_Known) "told_calls" = some none)
    (na_Known_told_facts : PySem.W.findIn K (.ref C_Known) "told_facts" = some none)
    (na_Known_told_means : PySem.W.findIn K (.ref C_Known) "told_means" = some none)
    (na_Known_told_rels : PySem.W.findIn K (.ref C_Known) "told_rels" = some none)
    (na_Known_told_sorts : PySem.W.findIn K (.ref C_Known) "told_sorts" = some none)
    (na_Rule_left : PySem.W.findIn K (.ref C_Rule) "left" = some none)
    (na_Rule_many : PySem.W.findIn K (.ref C_Rule) "many" = some none)
    (na_Rule_name : PySem.W.findIn K (.ref C_Rule) "name" = some none)
    (na_Rule_right : PySem.W.findIn K (.ref C_Rule) "right" = some none)
    (a0 : PySem.W.nsIn K mainGlobals "within" = some (some (.ref f0))) (l0 : K.lookup f0 = some ⟨oc0, od0, .func (PySem.W.fnOf "within" "within" (defArgs s_within) (defBody s_within) (defScope s_within) .none kV0 dc0 pm0 an0 cd0 ct0), sl0⟩) (c0 : PySem.W.codeIn K cd0 "within" = true) (k0 : PySem.W.keepIn K (.ref f0) = true)
    (a1 : PySem.W.nsIn K mainGlobals "parts_of" = some (some (.ref f1))) (l1 : K.lookup f1 = some ⟨oc1, od1, .func (PySem.W.fnOf "parts_of" "parts_of" (defArgs s_parts_of) (defBody s_parts_of) (defScope s_parts_of) .none kV1 dc1 pm1 an1 cd1 ct1), sl1⟩) (c1 : PySem.W.codeIn K cd1 "parts_of" = true) (k1 : PySem.W.keepIn K (.ref f1) = true)
    (a2 : PySem.W.findIn K (.ref C_Known) "__init__" = some (some (.ref f2))) (n2 : PySem.W.isFn K (.ref f2) = true) (l2 : K.lookup f2 = some ⟨oc2, od2, .func (PySem.W.fnOf "__init__" "Known.__init__" (defArgs s_Known___init__) (defBody s_Known___init__) (defScope s_Known___init__) .none kV2 dc2 pm2 an2 cd2 ct2), sl2⟩) (c2 : PySem.W.codeIn K cd2 "Known.__init__" = true) (k2 : PySem.W.keepIn K (.ref f2) = true)
    (a3 : PySem.W.findIn K (.ref C_Known) "again" = some (some (.ref f3))) (n3 : PySem.W.isFn K (.ref f3) = true) (l3 : K.lookup f3 = some ⟨oc3, od3, .func (PySem.W.fnOf "again" "Known.again" (defArgs s_Known_again) (defBody s_Known_again) (defScope s_Known_again) .none kV3 dc3 pm3 an3 cd3 ct3), sl3⟩) (c3 : PySem.W.codeIn K cd3 "Known.again" = true) (k3 : PySem.W.keepIn K (.ref f3) = true)
    (a4 : PySem.W.findIn K (.ref C_Known) "with_entry" = some (some (.ref f4))) (n4 : PySem.W.isFn K (.ref f4) = true) (l4 : K.lookup f4 = some ⟨oc4, od4, .func (PySem.W.fnOf "with_entry" "Known.with_entry" (defArgs s_Known_with_entry) (defBody s_Known_with_entry) (defScope s_Known_with_entry) .none kV4 dc4 pm4 an4 cd4 ct4), sl4⟩) (c4 : PySem.W.codeIn K cd4 "Known.with_entry" = true) (k4 : PySem.W.keepIn K (.ref f4) = true)
    (a5 : PySem.W.findIn K (.ref C_Known) "statement" = some (some (.ref f5))) (n5 : PySem.W.isFn K (.ref f5) = true) (l5 : K.lookup f5 = some ⟨oc5, od5, .func (PySem.W.fnOf "statement" "Known.statement" (defArgs s_Known_statement) (defBody s_Known_statement) (defScope s_Known_statement) .none kV5 dc5 pm5 an5 cd5 ct5), sl5⟩) (c5 : PySem.W.codeIn K cd5 "Known.statement" = true) (k5 : PySem.W.keepIn K (.ref f5) = true)
    (a6 : PySem.W.nsIn K mainGlobals "known_of" = some (some (.ref f6))) (l6 : K.lookup f6 = some ⟨oc6, od6, .func (PySem.W.fnOf "known_of" "known_of" (defArgs s_known_of) (defBody s_known_of) (defScope s_known_of) .none kV6 dc6 pm6 an6 cd6 ct6), sl6⟩) (c6 : PySem.W.codeIn K cd6 "known_of" = true) (k6 : PySem.W.keepIn K (.ref f6) = true)
    (a7 : PySem.W.findIn K (.ref C_Rule) "__init__" = some (some (.ref f7))) (n7 : PySem.W.isFn K (.ref f7) = true) (l7 : K.lookup f7 = some ⟨oc7, od7, .func (PySem.W.fnOf "__init__" "Rule.__init__" (defArgs s_Rule___init__) (defBody s_Rule___init__) (defScope s_Rule___init__) .none kV7 dc7 pm7 an7 cd7 ct7), sl7⟩) (c7 : PySem.W.codeIn K cd7 "Rule.__init__" = true) (k7 : PySem.W.keepIn K (.ref f7) = true)
    (a8 : PySem.W.nsIn K mainGlobals "times_in" = some (some (.ref f8))) (l8 : K.lookup f8 = some ⟨oc8, od8, .func (PySem.W.fnOf "times_in" "times_in" (defArgs s_times_in) (defBody s_times_in) (defScope s_times_in) .none kV8 dc8 pm8 an8 cd8 ct8), sl8⟩) (c8 : PySem.W.codeIn K cd8 "times_in" = true) (k8 : PySem.W.keepIn K (.ref f8) = true)
    (a9 : PySem.W.nsIn K mainGlobals "rule_of" = some (some (.ref f9))) (l9 : K.lookup f9 = some ⟨oc9, od9, .func (PySem.W.fnOf "rule_of" "rule_of" (defArgs s_rule_of) (defBody s_rule_of) (defScope s_rule_of) .none kV9 dc9 pm9 an9 cd9 ct9), sl9⟩) (c9 : PySem.W.codeIn K cd9 "rule_of" = true) (k9 : PySem.W.keepIn K (.ref f9) = true)
    (a10 : PySem.W.nsIn K mainGlobals "is_rule" = some (some (.ref f10))) (l10 : K.lookup f10 = some ⟨oc10, od10, .func (PySem.W.fnOf "is_rule" "is_rule" (defArgs s_is_rule) (defBody s_is_rule) (defScope s_is_rule) .none kV10 dc10 pm10 an10 cd10 ct10), sl10⟩) (c10 : PySem.W.codeIn K cd10 "is_rule" = true) (k10 : PySem.W.keepIn K (.ref f10) = true)
    (a11 : PySem.W.nsIn K mainGlobals "_law_cell" = some (some (.ref f11))) (l11 : K.lookup f11 = some ⟨oc11, od11, .func (PySem.W.fnOf "_law_cell" "_law_cell" (defArgs s__law_cell) (defBody s__law_cell) (defScope s__law_cell) .none kV11 dc11 pm11 an11 cd11 ct11), sl11⟩) (c11 : PySem.W.codeIn K cd11 "_law_cell" = true) (k11 : PySem.W.keepIn K (.ref f11) = true)
    (a12 : PySem.W.nsIn K mainGlobals "_law_entries" = some (some (.ref f12))) (l12 : K.lookup f12 = some ⟨oc12, od12, .func (PySem.W.fnOf "_law_entries" "_law_entries" (defArgs s__law_entries) (defBody s__law_entries) (defScope s__law_entries) .none kV12 dc12 pm12 an12 cd12 ct12), sl12⟩) (c12 : PySem.W.codeIn K cd12 "_law_entries" = true) (k12 : PySem.W.keepIn K (.ref f12) = true)
    (a13 : PySem.W.nsIn K mainGlobals "_law_kids" = some (some (.ref f13))) (l13 : K.lookup f13 = some ⟨oc13, od13, .func (PySem.W.fnOf "_law_kids" "_law_kids" (defArgs s__law_kids) (defBody s__law_kids) (defScope s__law_kids) .none kV13 dc13 pm13 an13 cd13 ct13), sl13⟩) (c13 : PySem.W.codeIn K cd13 "_law_kids" = true) (k13 : PySem.W.keepIn K (.ref f13) = true)
    (a14 : PySem.W.nsIn K mainGlobals "_law_sames" = some (some (.ref f14))) (l14 : K.lookup f14 = some ⟨oc14, od14, .func (PySem.W.fnOf "_law_sames" "_law_sames" (defArgs s__law_sames) (defBody s__law_sames) (defScope s__law_sames) .none kV14 dc14 pm14 an14 cd14 ct14), sl14⟩) (c14 : PySem.W.codeIn K cd14 "_law_sames" = true) (k14 : PySem.W.keepIn K (.ref f14) = true)
    (a15 : PySem.W.nsIn K mainGlobals "_law_whole" = some (some (.ref f15))) (l15 : K.lookup f15 = some ⟨oc15, od15, .func (PySem.W.fnOf "_law_whole" "_law_whole" (defArgs s__law_whole) (defBody s__law_whole) (defScope s__law_whole) .none kV15 dc15 pm15 an15 cd15 ct15), sl15⟩) (c15 : PySem.W.codeIn K cd15 "_law_whole" = true) (k15 : PySem.W.keepIn K (.ref f15) = true)
    (a16 : PySem.W.nsIn K mainGlobals "_law_ruled" = some (some (.ref f16))) (l16 : K.lookup f16 = some ⟨oc16, od16, .func (PySem.W.fnOf "_law_ruled" "_law_ruled" (defArgs s__law_ruled) (defBody s__law_ruled) (defScope s__law_ruled) .none kV16 dc16 pm16 an16 cd16 ct16), sl16⟩) (c16 : PySem.W.codeIn K cd16 "_law_ruled" = true) (k16 : PySem.W.keepIn K (.ref f16) = true)
    (a17 : PySem.W.nsIn K mainGlobals "_law_parts" = some (some (.ref f17))) (l17 : K.lookup f17 = some ⟨oc17, od17, .func (PySem.W.fnOf "_law_parts" "_law_parts" (defArgs s__law_parts) (defBody s__law_parts) (defScope s__law_parts) .none kV17 dc17 pm17 an17 cd17 ct17), sl17⟩) (c17 : PySem.W.codeIn K cd17 "_law_parts" = true) (k17 : PySem.W.keepIn K (.ref f17) = true)
    (a18 : PySem.W.nsIn K mainGlobals "_law_times" = some (some (.ref f18))) (l18 : K.lookup f18 = some ⟨oc18, od18, .func (PySem.W.fnOf "_law_times" "_law_times" (defArgs s__law_times) (defBody s__law_times) (defScope s__law_times) .none kV18 dc18 pm18 an18 cd18 ct18), sl18⟩) (c18 : PySem.W.codeIn K cd18 "_law_times" = true) (k18 : PySem.W.keepIn K (.ref f18) = true)
    (a19 : PySem.W.nsIn K mainGlobals "_law_is_rule" = some (some (.ref f19))) (l19 : K.lookup f19 = some ⟨oc19, od19, .func (PySem.W.fnOf "_law_is_rule" "_law_is_rule" (defArgs s__law_is_rule) (defBody s__law_is_rule) (defScope s__law_is_rule) .none kV19 dc19 pm19 an19 cd19 ct19), sl19⟩) (c19 : PySem.W.codeIn K cd19 "_law_is_rule" = true) (k19 : PySem.W.keepIn K (.ref f19) = true)
    (a20 : PySem.W.nsIn K mainGlobals "_law_shaped" = some (some (.ref f20))) (l20 : K.lookup f20 = some ⟨oc20, od20, .func (PySem.W.fnOf "_law_shaped" "_law_shaped" (defArgs s__law_shaped) (defBody s__law_shaped) (defScope s__law_shaped) .none kV20 dc20 pm20 an20 cd20 ct20), sl20⟩) (c20 : PySem.W.codeIn K cd20 "_law_shaped" = true) (k20 : PySem.W.keepIn K (.ref f20) = true)
    (a21 : PySem.W.nsIn K mainGlobals "_law_odd" = some (some (.ref f21))) (l21 : K.lookup f21 = some ⟨oc21, od21, .func (PySem.W.fnOf "_law_odd" "_law_odd" (defArgs s__law_odd) (defBody s__law_odd) (defScope s__law_odd) .none kV21 dc21 pm21 an21 cd21 ct21), sl21⟩) (c21 : PySem.W.codeIn K cd21 "_law_odd" = true) (k21 : PySem.W.keepIn K (.ref f21) = true)
    (a22 : PySem.W.nsIn K mainGlobals "law" = some (some (.ref f22))) (l22 : K.lookup f22 = some ⟨oc22, od22, .func (PySem.W.fnOf "law" "law" (defArgs s_law) (defBody s_law) (defScope s_law) .none kV22 dc22 pm22 an22 cd22 ct22), sl22⟩) (c22 : PySem.W.codeIn K cd22 "law" = true) (k22 : PySem.W.keepIn K (.ref f22) = true)
    (z_bool : PySem.W.nsIn K mainGlobals "bool" = some none)
    (z_dict : PySem.W.nsIn K mainGlobals "dict" = some none)
    (z_enumerate : PySem.W.nsIn K mainGlobals "enumerate" = some none)
    (z_int : PySem.W.nsIn K mainGlobals "int" = some none)
    (z_isinstance : PySem.W.nsIn K mainGlobals "isinstance" = some none)
    (z_len : PySem.W.nsIn K mainGlobals "len" = some none)
    (z_list : PySem.W.nsIn K mainGlobals "list" = some none)
    (z_max : PySem.W.nsIn K mainGlobals "max" = some none)
    (z_min : PySem.W.nsIn K mainGlobals "min" = some none)
    (z_range : PySem.W.nsIn K mainGlobals "range" = some none)
    (z_sorted : PySem.W.nsIn K mainGlobals "sorted" = some none)
    (z_str : PySem.W.nsIn K mainGlobals "str" = some none)
    (z_sum : PySem.W.nsIn K mainGlobals "sum" = some none)
    (z_tuple : PySem.W.nsIn K mainGlobals "tuple" = some none)
    {ca_BOUND : Addr} {dd_BOUND : Option Addr} {ss_BOUND : Array (Option Value)} {tk0_BOUND tk1_BOUND : Tok} {nn_BOUND : Nat} (g_BOUND : PySem.W.nsIn K mainGlobals "BOUND" = some (some (.ref ca_BOUND))) (gl_BOUND : K.lookup ca_BOUND = some ⟨.type "tuple", dd_BOUND, .seq #[.str "all" tk0_BOUND, .str "some" tk1_BOUND] nn_BOUND, ss_BOUND⟩)
    {ca_CALLED : Addr} {dd_CALLED : Option Addr} {ss_CALLED : Array (Option Value)} {tk0_CALLED tk1_CALLED : Tok} {nn_CALLED : Nat} (g_CALLED : PySem.W.nsIn K mainGlobals "CALLED" = some (some (.ref ca_CALLED))) (gl_CALLED : K.lookup ca_CALLED = some ⟨.type "tuple", dd_CALLED, .seq #[.str "call" tk0_CALLED, .str "rel" tk1_CALLED] nn_CALLED, ss_CALLED⟩)
    {ca_JOINED : Addr} {dd_JOINED : Option Addr} {ss_JOINED : Array (Option Value)} {tk0_JOINED tk1_JOINED tk2_JOINED tk3_JOINED : Tok} {nn_JOINED : Nat} (g_JOINED : PySem.W.nsIn K mainGlobals "JOINED" = some (some (.ref ca_JOINED))) (gl_JOINED : K.lookup ca_JOINED = some ⟨.type "tuple", dd_JOINED, .seq #[.str "same" tk0_JOINED, .str "and" tk1_JOINED, .str "or" tk2_JOINED, .str "if" tk3_JOINED] nn_JOINED, ss_JOINED⟩)
    {tk_MOST_ALLS : Tok} (g_MOST_ALLS : PySem.W.nsIn K mainGlobals "MOST_ALLS" = some (some (.int 6 tk_MOST_ALLS)))
    (hp : ∀ ns : List Int, ns.length ≤ 63 → (∀ z ∈ ns, Builtin.Int.intBits z ≤ 1048576) → ∃ z', m_law (mir lawLevel) (zX 14 ns) = .ok (.rt (.d (.bl true))) z') :
    ∃ fd : FuncData, (∀ (s : Shared) (v : Value), BindsTo s fd ⟨[v], []⟩ [("_law_script", v)]) ∧ ∀ base : Heap, K.In base → base.Ns mainGlobals mg → FnG l.prog w K mg base (L2.CX l.prog w) (lawLevel + 9) fa fd ["_law_script"] (spLaw K) := by
  have e := hfa.symm.trans (PySem.W.mg_of X G0 a22)
  cases e
  have T : Tt K mg C_Known C_Rule := ⟨clF_mk ca_Known cb1_Known cb2_Known cb3_Known cb4_Known, clF_mk ca_Rule cb1_Rule cb2_Rule cb3_Rule cb4_Rule, na_Known_told_calls, na_Known_told_facts, na_Known_told_means, na_Known_told_rels, na_Known_told_sorts, na_Rule_left, na_Rule_many, na_Rule_name, na_Rule_right, fnIn_mk X G0 a0 l0 c0 k0 (fun _ _ _ _ _ _ us hl => match us, hl with | [_], _ => rfl), fnIn_mk X G0 a1 l1 c1 k1 (fun _ _ _ _ _ _ us hl => match us, hl with | [_], _ => rfl), mkIn_mk X G0 (clF_mk ca_Known cb1_Known cb2_Known cb3_Known cb4_Known) ca_Known cm1_Known cm2_Known a2 n2 l2 c2 k2 (fun _ _ _ _ _ _ us hl => match us, hl with | [_], _ => rfl), meIn_mk (clF_mk ca_Known cb1_Known cb2_Known cb3_Known cb4_Known) a3 n3 l3 c3 k3 (fun _ _ _ _ _ _ us hl => match us, hl with | [_], _ => rfl), meIn_mk (clF_mk ca_Known cb1_Known cb2_Known cb3_Known cb4_Known) a4 n4 l4 c4 k4 (fun _ _ _ _ _ _ us hl => match us, hl with | [_, _], _ => rfl), meIn_mk (clF_mk ca_Known cb1_Known cb2_Known cb3_Known cb4_Known) a5 n5 l5 c5 k5 (fun _ _ _ _ _ _ us hl => match us, hl with | [_, _], _ => rfl), fnIn_mk X G0 a6 l6 c6 k6 (fun _ _ _ _ _ _ us hl => match us, hl with | [_], _ => rfl), mkIn_mk X G0 (clF_mk ca_Rule cb1_Rule cb2_Rule cb3_Rule cb4_Rule) ca_Rule cm1_Rule cm2_Rule a7 n7 l7 c7 k7 (fun _ _ _ _ _ _ us hl => match us, hl with | [_, _, _, _, _], _ => rfl), fnIn_mk X G0 a8 l8 c8 k8 (fun _ _ _ _ _ _ us hl => match us, hl with | [_, _], _ => rfl), fnIn_mk X G0 a9 l9 c9 k9 (fun _ _ _ _ _ _ us hl => match us, hl with | [_, _], _ => rfl), fnIn_mk X G0 a10 l10 c10 k10 (fun _ _ _ _ _ _ us hl => match us, hl with | [_, _], _ => rfl), fnIn_mk X G0 a11 l11 c11 k11 (fun _ _ _ _ _ _ us hl => match us, hl with | [_, _], _ => rfl), fnIn_mk X G0 a12 l12 c12 k12 (fun _ _ _ _ _ _ us hl => match us, hl with | [_], _ => rfl), fnIn_mk X G0 a13 l13 c13 k13 (fun _ _ _ _ _ _ us hl => match us, hl with | [_], _ => rfl), fnIn_mk X G0 a14 l14 c14 k14 (fun _ _ _ _ _ _ us hl => match us, hl with | [_], _ => rfl), fnIn_mk X G0 a15 l15 c15 k15 (fun _ _ _ _ _ _ us hl => match us, hl with | [_], _ => rfl), fnIn_mk X G0 a16 l16 c16 k16 (fun _ _ _ _ _ _ us hl => match us, hl with | [_, _, _], _ => rfl), fnIn_mk X G0 a17 l17 c17 k17 (fun _ _ _ _ _ _ us hl => match us, hl with | [_], _ => rfl), fnIn_mk X G0 a18 l18 c18 k18 (fun _ _ _ _ _ _ us hl => match us, hl with | [_, _], _ => rfl), fnIn_mk X G0 a19 l19 c19 k19 (fun _ _ _ _ _ _ us hl => match us, hl with | [_], _ => rfl), fnIn_mk X G0 a20 l20 c20 k20 (fun _ _ _ _ _ _ us hl => match us, hl with | [_, _], _ => rfl), fnIn_mk X G0 a21 l21 c21 k21 (fun _ _ _ _ _ _ us hl => match us, hl with | [_, _], _ => rfl), PySem.W.mg_none_of X G0 z_bool, PySem.W.mg_none_of X G0 z_dict, PySem.W.mg_none_of X G0 z_enumerate, PySem.W.mg_none_of X G0 z_int, PySem.W.mg_none_of X G0 z_isinstance, PySem.W.mg_none_of X G0 z_len, PySem.W.mg_none_of X G0 z_list, PySem.W.mg_none_of X G0 z_max, PySem.W.mg_none_of X G0 z_min, PySem.W.mg_none_of X G0 z_range, PySem.W.mg_none_of X G0 z_sorted, PySem.W.mg_none_of X G0 z_str, PySem.W.mg_none_of X G0 z_sum, PySem.W.mg_none_of X G0 z_tuple, glD_strs ["all", "some"] (PySem.W.mg_of X G0 g_BOUND) gl_BOUND rfl rfl (.cons ⟨_, rfl⟩ (.cons ⟨_, rfl⟩ .nil)) (by decide), glD_strs ["call", "rel"] (PySem.W.mg_of X G0 g_CALLED) gl_CALLED rfl rfl (.cons ⟨_, rfl⟩ (.cons ⟨_, rfl⟩ .nil)) (by decide), glD_strs ["same", "and", "or", "if"] (PySem.W.mg_of X G0 g_JOINED) gl_JOINED rfl rfl (.cons ⟨_, rfl⟩ (.cons ⟨_, rfl⟩ (.cons ⟨_, rfl⟩ (.cons ⟨_, rfl⟩ .nil)))) (by decide), ⟨.int 6, _, PySem.W.mg_of X G0 g_MOST_ALLS, ⟨_, rfl⟩, fun _ => .int _⟩⟩
  exact ⟨PySem.W.fnOf "law" "law" (defArgs s_law) (defBody s_law) (defScope s_law) .none kV22 dc22 pm22 an22 cd22 ct22, fun s v => .of_eq rfl, fun base _ _ => d_law T (funD_mk (st := s_law) l22 c22 k22) hp⟩
end L
set_option pp.maxSteps 400
set_option pp.deepTerms false
namespace L
open PySem L2 G

theorem wv_var : dEq (.str "var") (.str "var") = some (.d (.bl true)) := by kernel_rfl
theorem wc_var : dIn (.str "var") c_CALLED = some (.d (.bl false)) := by kernel_rfl
theorem wj_var : dIn (.str "var") c_JOINED = some (.d (.bl false)) := by kernel_rfl
theorem wb_var : dIn (.str "var") c_BOUND = some (.d (.bl false)) := by kernel_rfl
theorem wv_call : dEq (.str "call") (.str "var") = some (.d (.bl false)) := by kernel_rfl
theorem wc_call : dIn (.str "call") c_CALLED = some (.d (.bl true)) := by kernel_rfl
theorem wj_call : dIn (.str "call") c_JOINED = some (.d (.bl false)) := by kernel_rfl
theorem wb_call : dIn (.str "call") c_BOUND = some (.d (.bl false)) := by kernel_rfl
theorem wv_rel : dEq (.str "rel") (.str "var") = some (.d (.bl false)) := by kernel_rfl
theorem wc_rel : dIn (.str "rel") c_CALLED = some (.d (.bl true)) := by kernel_rfl
theorem wj_rel : dIn (.str "rel") c_JOINED = some (.d (.bl false)) := by kernel_rfl
theorem wb_rel : dIn (.str "rel") c_BOUND = some (.d (.bl false)) := by kernel_rfl
theorem wv_same : dEq (.str "same") (.str "var") = some (.d (.bl false)) := by kernel_rfl
theorem wc_same : dIn (.str "same") c_CALLED = some (.d (.bl false)) := by kernel_rfl
theorem wj_same : dIn (.str "same") c_JOINED = some (.d (.bl true)) := by kernel_rfl
theorem wb_same : dIn (.str "same") c_BOUND = some (.d (.bl false)) := by kernel_rfl
theorem wv_no : dEq (.str "no") (.str "var") = some (.d (.bl false)) := by kernel_rfl
theorem wc_no : dIn (.str "no") c_CALLED = some (.d (.bl false)) := by kernel_rfl
theorem wj_no : dIn (.str "no") c_JOINED = some (.d (.bl false)) := by kernel_rfl
theorem wb_no : dIn (.str "no") c_BOUND = some (.d (.bl false)) := by kernel_rfl
theorem wv_and : dEq (.str "and") (.str "var") = some (.d (.bl false)) := by kernel_rfl
theorem wc_and : dIn (.str "and") c_CALLED = some (.d (.bl false)) := by kernel_rfl
theorem wj_and : dIn (.str "and") c_JOINED = some (.d (.bl true)) := by kernel_rfl
theorem wb_and : dIn (.str "and") c_BOUND = some (.d (.bl false)) := by kernel_rfl
theorem wv_or : dEq (.str "or") (.str "var") = some (.d (.bl false)) := by kernel_rfl
theorem wc_or : dIn (.str "or") c_CALLED = some (.d (.bl false)) := by kernel_rfl
theorem wj_or : dIn (.str "or") c_JOINED = some (.d (.bl true)) := by kernel_rfl
theorem wb_or : dIn (.str "or") c_BOUND = some (.d (.bl false)) := by kernel_rfl
theorem wv_if : dEq (.str "if") (.str "var") = some (.d (.bl false)) := by kernel_rfl
theorem wc_if : dIn (.str "if") c_CALLED = some (.d (.bl false)) := by kernel_rfl
theorem wj_if : dIn (.str "if") c_JOINED = some (.d (.bl true)) := by kernel_rfl
theorem wb_if : dIn (.str "if") c_BOUND = some (.d (.bl false)) := by kernel_rfl
theorem wv_all : dEq (.str "all") (.str "var") = some (.d (.bl false)) := by kernel_rfl
theorem wc_all : dIn (.str "all") c_CALLED = some (.d (.bl false)) := by kernel_rfl
theorem wj_all : dIn (.str "all") c_JOINED = some (.d (.bl false)) := by kernel_rfl
theorem wb_all : dIn (.str "all") c_BOUND = some (.d (.bl true)) := by kernel_rfl
theorem wv_some : dEq (.str "some") (.str "var") = some (.d (.bl false)) := by kernel_rfl
theorem wc_some : dIn (.str "some") c_CALLED = some (.d (.bl false)) := by kernel_rfl
theorem wj_some : dIn (.str "some") c_JOINED = some (.d (.bl false)) := by kernel_rfl
theorem wb_some : dIn (.str "some") c_BOUND = some (.d (.bl true)) := by kernel_rfl
local macro_rules | `(tactic| walk_at "ex") => `(tactic| try simp only [sSeq, sSet, sExpr, sRet, sIf, sAsg, una, escf, escS, opd, eVar, eC, eBin, eUn, eFn, eCall, eTup, eLst, aCons, aNil, fin, rd, rds, R.toS, dsOf, Rs.bind_ok, Rs.bind_bad, Rs.bind_ex, Rs.opt_some, Option.bind_some, Option.map_some, ownAt, eExt, eApp, ePop, List.getElem?_cons_zero, List.getElem?_cons_succ, List.set_cons_zero, List.set_cons_succ, okArg, List.all_cons, List.all_nil, Bool.and_self, if_true, kName, kTup, ksCons, ksNil, fMax, tOf, List.length_cons, List.length_nil, Bool.not_false, Bool.not_true, if_false, Bool.false_eq_true, lm0, lm1, lm2, lm3, lm4, lm5, lm6, lm7, lm8, lm9, lm10, lm11, lm12, fnM, List.map_cons, List.map_nil, List.replicate, List.cons_append, List.nil_append, Nat.reduceAdd, Nat.reduceSub, sNil, tAndM, tOrM, tNotM, tTru, dTru, eIf, dSub_i, dAdd_i, dLt_i, dLe_i, dGt_i, dGe_i, dEq_i, decide_true, decide_false, eChain, eAndM, eSl, oInt, dNeg, dIx, atI0, atI1, atI2, aDef, fTuple, wv_var, wc_var, wj_var, wb_var, wv_call, wc_call, wj_call, wb_call, wv_rel, wc_rel, wj_rel, wb_rel, wv_same, wc_same, wj_same, wb_same, wv_no, wc_no, wj_no, wb_no, wv_and, wc_and, wj_and, wb_and, wv_or, wc_or, wj_or, wb_or, wv_if, wc_if, wj_if, wb_if, wv_all, wc_all, wj_all, wb_all, wv_some, wc_some, wj_some, wb_some])
local macro_rules | `(tactic| walk_at "ey") => `(tactic| try simp only [sSeq, sSet, sExpr, sRet, sIf, sAsg, una, escf, escS, opd, eVar, eC, eBin, eUn, eFn, eCall, eTup, eLst, aCons, aNil, fin, rd, rds, R.toS, dsOf, Rs.bind_ok, Rs.bind_bad, Rs.bind_ex, Rs.opt_some, Option.bind_some, Option.map_some, ownAt, eExt, eApp, ePop, List.getElem?_cons_zero, List.getElem?_cons_succ, List.set_cons_zero, List.set_cons_succ, okArg, List.all_cons, List.all_nil, Bool.and_self, if_true, kName, kTup, ksCons, ksNil, fMax, tOf, List.length_cons, List.length_nil, Bool.not_false, Bool.not_true, if_false, Bool.false_eq_true, lm0, lm1, lm2, lm3, lm4, lm5, lm6, lm7, lm8, lm9, lm10, lm11, lm12, fnM, List.map_cons, List.map_nil, List.replicate, List.cons_append, List.nil_append, Nat.reduceAdd, Nat.reduceSub, sNil, tAndM, tOrM, tNotM, tTru, dTru, eIf, dSub_i, dAdd_i, dLt_i, dLe_i, dGt_i, dGe_i, dEq_i, decide_true, decide_false, eChain, eAndM, eSl, oInt, dNeg, fInt, aDef, fTuple])
local macro_rules | `(tactic| walk_at "ev") => `(tactic| try simp only [sSeq, sSet, sExpr, sRet, sIf, sAsg, una, escf, escS, opd, eVar, eC, eBin, eUn, eFn, eCall, eTup, eLst, aCons, aNil, fin, rd, rds, R.toS, dsOf, Rs.bind_ok, Rs.bind_bad, Rs.bind_ex, Rs.opt_some, Option.bind_some, Option.map_some, ownAt, eExt, eApp, ePop, List.getElem?_cons_zero, List.getElem?_cons_succ, List.set_cons_zero, List.set_cons_succ, okArg, List.all_cons, List.all_nil, Bool.and_self, if_true, dAdd, kName, kTup, ksCons, ksNil, fMax, tOf, List.length_cons, List.length_nil, Bool.not_false, Bool.not_true, if_false, Bool.false_eq_true, lm0, lm1, lm2, lm3, lm4, lm5, lm6, lm7, lm8, lm9, lm10, lm11, lm12, fnM, List.map_cons, List.map_nil, List.replicate, List.cons_append, List.nil_append, Nat.reduceAdd, Nat.reduceSub, dIx, atI0, atI1, atI2, sNil, tAndM, tOrM, tNotM, tTru, dTru, eIf, dI, dSub, dLt, dLe, dGt, dGe])
theorem within_eq (n : Nat) (t : Th) (m : List MO) : mir (n + 1) .within [.d (enc t)] m = .ok (.l (encs (kids t))) m := by
  cases t <;> kernel_rfl
theorem depths_le {ts : List Th} {n : Nat} (h : depths ts ≤ n) : ∀ t ∈ ts, depth t ≤ n := by
  induction ts with
  | nil => intro t ht; cases ht
  | cons u r ih =>
    rw [depths] at h
    intro t ht
    rcases List.mem_cons.mp ht with rfl | ht
    · omega
    · exact ih (by omega) t ht
theorem mem_sizes {t : Th} : ∀ {ts : List Th}, t ∈ ts → size t ≤ sizes ts
  | u :: r, h => by
    rw [sizes]
    rcases List.mem_cons.mp h with rfl | h
    · omega
    · have := mem_sizes h; omega
def bnd : Th → Nat
  | .all _ _ => 1
  | .some _ _ => 1
  | _ => 0
def wd : Th → Str
  | .var _ => "var"
  | .call _ _ => "call"
  | .rel _ _ => "rel"
  | .same _ _ => "same"
  | .no => "no"
  | .and _ _ => "and"
  | .or _ _ => "or"
  | .imp _ _ => "if"
  | .all _ _ => "all"
  | .some _ _ => "some"
theorem hd0 (t : Th) : dIx (enc t) (.int 0) = some (.d (.str (wd t))) := by
  cases t <;> kernel_rfl
theorem wdB (t : Th) : dIn (.str (wd t)) c_BOUND = some (.d (.bl (bnd t == 1))) := by
  cases t <;> kernel_rfl
def isVar : Th → Bool
  | .var _ => true
  | _ => false
theorem wdV (t : Th) : dEq (.str (wd t)) (.str "var") = some (.d (.bl (isVar t))) := by
  cases t <;> kernel_rfl
theorem bnd_int (t : Th) : (if (bnd t == 1) = true then (1 : Int) else 0) = ((bnd t : Nat) : Int) := by
  cases t <;> rfl
theorem split_lastP {α : Type} (ts : List α) : ts = [] ∨ ∃ r t, ts = r ++ [t] := by
  rcases List.eq_nil_or_concat ts with h | ⟨r, t, h⟩
  · exact .inl h
  · exact .inr ⟨r, t, by simpa using h⟩
theorem enc_tup (t : Th) : ∃ xs, enc t = .tup xs := by
  cases t <;> (rw [enc]; exact ⟨_, rfl⟩)
theorem kids_eq (n : Nat) (t : Th) (m : List MO) : mir (n + 1) ._law_kids [.d (enc t)] m = .ok (.l (encs (kids t))) m := by
  cases t with
  | var v => rw [enc]; kernel_rfl
  | call f as => rw [enc]; kernel_rfl
  | rel f as => rw [enc]; kernel_rfl
  | no => rw [enc]; kernel_rfl
  | all s x => rw [enc, kids, encs, encs]; kernel_rfl
  | some s x => rw [enc, kids, encs, encs]; kernel_rfl
  | same x y => obtain ⟨xs, ex⟩ := enc_tup x; obtain ⟨ys, ey⟩ := enc_tup y; rw [enc, kids, encs, encs, encs, ex, ey]; kernel_rfl
  | and x y => obtain ⟨xs, ex⟩ := enc_tup x; obtain ⟨ys, ey⟩ := enc_tup y; rw [enc, kids, encs, encs, encs, ex, ey]; kernel_rfl
  | or x y => obtain ⟨xs, ex⟩ := enc_tup x; obtain ⟨ys, ey⟩ := enc_tup y; rw [enc, kids, encs, encs, encs, ex, ey]; kernel_rfl
  | imp x y => obtain ⟨xs, ex⟩ := enc_tup x; obtain ⟨ys, ey⟩ := enc_tup y; rw [enc, kids, encs, encs, encs, ex, ey]; kernel_rfl
/-! parts_of -/
def ePB (c : Fn → List S → List MO → Rs S (List MO)) : Sm MX Out := sSeq (sSet 1 (eBin dAdd (eVar 1) (eC (.int 1)))) (sExpr (eExt 2 (eCall (c .within) (aCons (escf (ePop 2)) aNil))))
theorem parts_step {c : Fn → List S → List MO → Rs S (List MO)} (hc : ∀ t m, c .within [.d (enc t)] m = .ok (.l (encs (kids t))) m) (x : Option S) (f : Int) (ys : List D) (t : Th) (m : List MO) (hl : ys.length + (encs (kids t)).length ≤ lim) :
    ePB c ⟨[x, some (.d (.int f)), some (.l (ys ++ [enc t]))], m⟩ = .ok .nx ⟨[x, some (.d (.int (f + 1))), some (.l (ys ++ encs (kids t)))], m⟩ := by
  have e1 : (ys ++ [enc t])[(ys ++ [enc t]).length - 1]? = some (enc t) := by simp
  have e2 : (ys ++ [enc t]).dropLast = ys := by simp
  unfold ePB
  walk_at "ev"
  rw [e1]
  walk_at "ev"
  rw [hc, e2]
  walk_at "ev"
  rw [if_pos hl]
  rfl
theorem split_lastN (ts : List Th) : ts = [] ∨ ∃ r t, ts = r ++ [t] := by
  rcases List.eq_nil_or_concat ts with h | ⟨r, t, h⟩
  · exact .inl h
  · exact .inr ⟨r, t, by simpa using h⟩
theorem cond_eqN (x f : Option S) {xs : List D} (m : List MO) (h : lays xs = true) : (tOf (eBin dNe (eVar 2) (eLst aNil)) : Sm MX Bool) ⟨[x, f, some (.l xs)], m⟩ = .ok (!xs.isEmpty) ⟨[x, f, some (.l xs)], m⟩ := by
  walk_at "ev"
  simp only [ne_nil h]
  rfl
theorem parts_loop {c : Fn → List S → List MO → Rs S (List MO)} (hc : ∀ t m, c .within [.d (enc t)] m = .ok (.l (encs (kids t))) m) (x : Option S) (m : List MO) : ∀ (n : Nat) (ts : List Th) (f : Int), sizes ts < n → sizes ts ≤ 900000 → nmss ts = true →
    sWhile (tOf (eBin dNe (eVar 2) (eLst aNil))) (ePB c) n ⟨[x, some (.d (.int f)), some (.l (encs ts))], m⟩ = .ok .nx ⟨[x, some (.d (.int (f + sizes ts))), some (.l [])], m⟩
  | 0, ts, f, h, _, _ => by omega
  | n + 1, ts, f, h, hs, hn => by
    unfold sWhile
    rw [cond_eqN _ _ _ (by rw [lays_encs]; exact hn)]
    rcases split_lastN ts with rfl | ⟨r, t, rfl⟩
    · simp [encs, sizes]
    · rw [sizes_append] at h hs
      have e0 : (encs (r ++ [t])).isEmpty = false := by rw [encs_append]; cases encs r <;> rfl
      have e1 : encs (r ++ [t]) = encs r ++ [enc t] := by rw [encs_append, encs, encs]
      have e2 : sizes [t] = 1 + sizes (kids t) := by rw [sizes, sizes, size_kids]; omega
      have hr := sizes_len r
      have hk := sizes_len (kids t)
      rw [nmss_append, Bool.and_eq_true] at hn
      have hn2 : nms t = true := by have := hn.2; simpa [nmss] using this
      rw [e0, e1]
      simp only [Bool.not_false, Rs.bind_ok, if_true]
      rw [parts_step hc x f (encs r) t m (by rw [encs_length, encs_length]; show _ ≤ 1000000; omega), ← encs_append]
      simp only [Rs.bind_ok]
      rw [parts_loop hc x m n (r ++ kids t) (f + 1) (by rw [sizes_append]; omega) (by rw [sizes_append]; omega) (by rw [nmss_append, hn.1, nms_kids hn2]; rfl), sizes_append, sizes_append]
      have e3 : f + 1 + ((sizes r + sizes (kids t) : Nat) : Int) = f + ((sizes r + sizes [t] : Nat) : Int) := by omega
      rw [e3]
theorem parts_eq (n : Nat) (t : Th) (m : List MO) (h : size t ≤ 900000) (hn : nms t = true) : mir (n + 2) .parts_of [.d (enc t)] m = .ok (.d (.int (size t))) m := by
  have hc := within_eq n
  have e : sizes [t] = size t := by simp [sizes]
  have L := parts_loop (c := mir (n + 1)) (fun t m => hc t m) (some (.d (enc t))) m whileN [t] 0 (by rw [e]; show _ < 1000000000; omega) (by rw [e]; exact h) (by simpa [nmss] using hn)
  have e2 : encs [t] = [enc t] := by simp [encs]
  rw [e2, e] at L
  show fnM 3 (m_parts_of (mir (n + 1))) [.d (enc t)] m = _
  unfold m_parts_of
  unfold ePB at L
  walk_at "ev"
  rw [L, Int.zero_add]
  walk_at "ev"
/-! deep_of -/
/-! a draw -/
theorem mulA (i j : Int) (h : -(18446744073709551616 : Int) < i ∧ i < 18446744073709551616) : dMul (.int i) (.int j) = some (.d (.int (i * j))) := by
  unfold dMul dI
  exact if_pos (decide_eq_true (.inl h))
theorem mulB (i j : Int) (h : -(18446744073709551616 : Int) < j ∧ j < 18446744073709551616) : dMul (.int i) (.int j) = some (.d (.int (i * j))) := by
  unfold dMul dI
  exact if_pos (decide_eq_true (.inr h))
theorem divA (i j : Int) (h : 0 < j ∧ j < 1073741824) : dFdiv (.int i) (.int j) = some (.d (.int (i / j))) := by
  unfold dFdiv dI
  exact if_pos (decide_eq_true h)
theorem modA (i j : Int) (h : 0 < j) : dMod (.int i) (.int j) = some (.d (.int (i % j))) := by
  unfold dMod dI
  exact if_pos (decide_eq_true h)
theorem ixA (ns : List Int) (i : Int) (h : 0 ≤ i) (h2 : i < (ns.length : Nat)) : ∃ a : Int, dIx (.lst (ns.map D.int)) (.int i) = some (.d (.int a)) := by
  obtain ⟨k, rfl⟩ : ∃ k : Nat, i = (k : Int) := ⟨i.toNat, by omega⟩
  have hk : k < ns.length := by omega
  refine ⟨ns[k], ?_⟩
  show (atI (ns.map D.int) (k : Int)).map R.d = _
  rw [atI_nat (v := D.int ns[k]) (by rw [List.getElem?_map, List.getElem?_eq_getElem hk]; rfl)]
  rfl
theorem lenA (ns : List Int) : fLen [.lst (ns.map D.int)] = some (.d (.int (ns.length : Nat))) := by
  show some (R.d (D.int (((ns.map D.int).length : Nat) : Int))) = _
  rw [List.length_map]
def CT : Sm MX Out := (sSeq (sIf (tOf (eBin dGt (eFn fLen (aCons (opd (eVar 0)) aNil)) (eC (.int 0)))) (sSet 3 (eBin dAdd (eVar 3) (eBin dMul (eBin dIx (eVar 0) (eBin dMod (eVar 2) (eFn fLen (aCons (opd (eVar 0)) aNil)))) (eBin dAdd (eC (.int 1)) (eBin dFdiv (eVar 2) (eFn fLen (aCons (opd (eVar 0)) aNil))))))) sNil)
    (sRet (eBin dFdiv (eBin dMod (eBin dMul (eVar 3) (eC (.int 48271))) (eC (.int 2147483647))) (eC (.int 7)))))
theorem ct_end {s0 s1 s2 s4 s5 : Option S} {base p q r : Int} {m : List MO} (h1 : dMul (.int base) (.int 48271) = some (.d (.int p))) (h2 : dMod (.int p) (.int 2147483647) = some (.d (.int q))) (h3 : dFdiv (.int q) (.int 7) = some (.d (.int r))) : (sRet (eBin dFdiv (eBin dMod (eBin dMul (eVar 3) (eC (.int 48271))) (eC (.int 2147483647))) (eC (.int 7))) : Sm MX Out) ⟨[s0, s1, s2, some (.d (.int base)), s4, s5], m⟩ = .ok (.rt (.d (.int r))) ⟨[s0, s1, s2, some (.d (.int base)), s4, s5], m⟩ := by
  walk_at "ey"
  rw [h1]
  walk_at "ey"
  rw [h2]
  walk_at "ey"
  rw [h3]
  walk_at "ey"
theorem ct_endI (s0 s1 s2 s4 s5 : Option S) (base : Int) (m : List MO) : ∃ r : Int, (sRet (eBin dFdiv (eBin dMod (eBin dMul (eVar 3) (eC (.int 48271))) (eC (.int 2147483647))) (eC (.int 7))) : Sm MX Out) ⟨[s0, s1, s2, some (.d (.int base)), s4, s5], m⟩ = .ok (.rt (.d (.int r))) ⟨[s0, s1, s2, some (.d (.int base)), s4, s5], m⟩ ∧ 0 ≤ r :=
  ⟨_, ct_end (mulB _ _ (by omega)) (modA _ _ (by omega)) (divA _ _ (by omega)), Int.ediv_nonneg (Int.emod_nonneg _ (by omega)) (by omega)⟩
def CU : Sm MX Out := (sIf (tOf (eBin dGt (eFn fLen (aCons (opd (eVar 0)) aNil)) (eC (.int 0)))) (sSet 3 (eBin dAdd (eVar 3) (eBin dMul (eBin dIx (eVar 0) (eBin dMod (eVar 2) (eFn fLen (aCons (opd (eVar 0)) aNil)))) (eBin dAdd (eC (.int 1)) (eBin dFdiv (eVar 2) (eFn fLen (aCons (opd (eVar 0)) aNil))))))) sNil)
theorem cu_yes {cells : D} {k base L r q a p : Int} {s4 s5 : Option S} {m : List MO} (c : 0 < L) (hl : fLen [cells] = some (.d (.int L))) (h1 : dMod (.int k) (.int L) = some (.d (.int r))) (h2 : dIx cells (.int r) = some (.d (.int a))) (h3 : dFdiv (.int k) (.int L) = some (.d (.int q))) (h4 : dMul (.int a) (.int (1 + q)) = some (.d (.int p))) :
    CU ⟨[some (.d cells), some (.d (.o 0)), some (.d (.int k)), some (.d (.int base)), s4, s5], m⟩ = .ok .nx ⟨[some (.d cells), some (.d (.o 0)), some (.d (.int k)), some (.d (.int (base + p))), s4, s5], m⟩ := by
  unfold CU
  walk_at "ey"
  rw [hl]
  walk_at "ey"
  simp only [c]
  walk_at "ey"
  rw [hl]
  walk_at "ey"
  rw [h1]
  walk_at "ey"
  rw [h2]
  walk_at "ey"
  rw [hl]
  walk_at "ey"
  rw [h3]
  walk_at "ey"
  rw [h4]
  walk_at "ey"
theorem cu_no {cells : D} {k base L : Int} {s4 s5 : Option S} {m : List MO} (c : ¬ 0 < L) (hl : fLen [cells] = some (.d (.int L))) :
    CU ⟨[some (.d cells), some (.d (.o 0)), some (.d (.int k)), some (.d (.int base)), s4, s5], m⟩ = .ok .nx ⟨[some (.d cells), some (.d (.o 0)), some (.d (.int k)), some (.d (.int base)), s4, s5], m⟩ := by
  unfold CU
  walk_at "ey"
  rw [hl]
  walk_at "ey"
  simp only [c]
  walk_at "ey"
theorem ct_ok (ns : List Int) (k base : Int) (s4 s5 : Option S) (m : List MO) (hl : ns.length ≤ 1000) (h0 : 0 ≤ k) (h1 : k < 1000000000000000) : ∃ (r : Int) (rho' : List (Option S)), CT ⟨[some (.d (.lst (ns.map D.int))), some (.d (.o 0)), some (.d (.int k)), some (.d (.int base)), s4, s5], m⟩ = .ok (.rt (.d (.int r))) ⟨rho', m⟩ ∧ 0 ≤ r := by
  by_cases c : 0 < ((ns.length : Nat) : Int)
  · obtain ⟨a, ea⟩ := ixA ns (k % (ns.length : Nat)) (Int.emod_nonneg _ (by omega)) (Int.emod_lt_of_pos _ c)
    have hq : k / (ns.length : Nat) ≤ k := Int.ediv_le_self _ h0
    have hq0 : 0 ≤ k / (ns.length : Nat) := Int.ediv_nonneg h0 (by omega)
    obtain ⟨r, e, hr⟩ := ct_endI (some (.d (.lst (ns.map D.int)))) (some (.d (.o 0))) (some (.d (.int k))) s4 s5 (base + a * (1 + k / (ns.length : Nat))) m
    exact ⟨r, _, (seq_nx (cu_yes c (lenA ns) (modA _ _ c) ea (divA _ _ (by omega)) (mulB _ _ (by omega)))).trans e, hr⟩
  · obtain ⟨r, e, hr⟩ := ct_endI (some (.d (.lst (ns.map D.int)))) (some (.d (.o 0))) (some (.d (.int k))) s4 s5 base m
    exact ⟨r, _, (seq_nx (cu_no c (lenA ns))).trans e, hr⟩
theorem ow_loop (s0 s1 s2 s3 : Option S) (m : List MO) : ∀ (ds : List D) (o : Int) (s5 : Option S), ∃ (o' : Int) (s5' : Option S), forL (M := MX) (kName 5) (sSet 4 (eBin dFdiv (eVar 4) (eC (.int 306783379)))) ds ⟨[s0, s1, s2, s3, some (.d (.int o)), s5], m⟩ = .ok .nx ⟨[s0, s1, s2, s3, some (.d (.int o')), s5'], m⟩
  | [], o, s5 => ⟨o, s5, rfl⟩
  | d :: r, o, s5 => by
    obtain ⟨o', s5', e⟩ := ow_loop s0 s1 s2 s3 m r (o / 306783379) (some (.d d))
    refine ⟨o', s5', ?_⟩
    rw [← e]
    conv => lhs; unfold forL
    walk_at "ey"
    rw [divA _ _ (by omega)]
    walk_at "ey"
def CI : Sm MX Out := (sSeq (sSet 4 (eBin dFdiv (eBin dIx (eVar 0) (eBin dMod (eVar 2) (eFn fLen (aCons (opd (eVar 0)) aNil)))) (eC (.int 2))))
    (sSeq (sFor (iRg1M (aCons (opd (eBin dFdiv (eVar 2) (eFn fLen (aCons (opd (eVar 0)) aNil)))) aNil)) (kName 5) (sSet 4 (eBin dFdiv (eVar 4) (eC (.int 306783379)))))
    (sIf (tOf (eBin dGt (eVar 4) (eC (.int 0)))) (sRet (eBin dMod (eVar 4) (eC (.int 306783379)))) sNil)))
theorem ci_gen {F : Sm MX Out} {cells : D} {k a o L : Int} {s3 : Option S} {s5' : Option S} {m : List MO} (hL : 0 < L) (hl : fLen [cells] = some (.d (.int L))) (ix : dIx cells (.int (k % L)) = some (.d (.int a))) (hF : F ⟨[some (.d cells), some (.d (.o 0)), some (.d (.int k)), s3, some (.d (.int (a / 2))), none], m⟩ = .ok .nx ⟨[some (.d cells), some (.d (.o 0)), some (.d (.int k)), s3, some (.d (.int o)), s5'], m⟩) :
    (sSeq (sSet 4 (eBin dFdiv (eBin dIx (eVar 0) (eBin dMod (eVar 2) (eFn fLen (aCons (opd (eVar 0)) aNil)))) (eC (.int 2)))) (sSeq F (sIf (tOf (eBin dGt (eVar 4) (eC (.int 0)))) (sRet (eBin dMod (eVar 4) (eC (.int 306783379)))) sNil)) : Sm MX Out) ⟨[some (.d cells), some (.d (.o 0)), some (.d (.int k)), s3, none, none], m⟩ = (if 0 < o then .ok (.rt (.d (.int (o % 306783379)))) ⟨[some (.d cells), some (.d (.o 0)), some (.d (.int k)), s3, some (.d (.int o)), s5'], m⟩ else .ok .nx ⟨[some (.d cells), some (.d (.o 0)), some (.d (.int k)), s3, some (.d (.int o)), s5'], m⟩) := by
  walk_at "ey"
  rw [hl]
  walk_at "ey"
  rw [modA _ _ hL]
  walk_at "ey"
  rw [ix]
  walk_at "ey"
  rw [divA _ _ (by omega)]
  walk_at "ey"
  rw [hF]
  walk_at "ey"
  by_cases c : 0 < o
  · rw [if_pos c]
    simp only [c]
    walk_at "ey"
    rw [modA _ _ (by omega)]
    walk_at "ey"
  · rw [if_neg c]
    simp only [c]
    walk_at "ey"
theorem ci_it {cells : D} {k L q : Int} (hl : fLen [cells] = some (.d (.int L))) (hd : dFdiv (.int k) (.int L) = some (.d (.int q))) (h0 : 0 ≤ q) (h1 : q ≤ 1000000) (s3 s4 : Option S) (m : List MO) : (iRg1M (aCons (opd (eBin dFdiv (eVar 2) (eFn fLen (aCons (opd (eVar 0)) aNil)))) aNil) : Sm MX (List D)) ⟨[some (.d cells), some (.d (.o 0)), some (.d (.int k)), s3, s4, none], m⟩ = .ok (rangeD 0 q.toNat) ⟨[some (.d cells), some (.d (.o 0)), some (.d (.int k)), s3, s4, none], m⟩ := by
  simp only [iRg1M]
  walk_at "ey"
  rw [hl]
  walk_at "ey"
  rw [hd]
  walk_at "ey"
  rw [if_pos (rg_lim h0 h1)]
theorem ci_for {F : Sm MX (List D)} {B : Sm MX Out} {z z1 : Z (List MO)} {ds : List D} {r : Rs Out (Z (List MO))} {K : D → Z (List MO) → Option (Z (List MO))} (h : F z = .ok ds z1) (h2 : forL (M := MX) K B ds z1 = r) : (sFor F K B : Sm MX Out) z = r := by
  unfold sFor
  rw [h, Rs.bind_ok]
  exact h2
theorem ci_ok (ns : List Int) (k : Int) (s3 : Option S) (m : List MO) (hl : ns.length ≤ 1000) (h0 : 0 ≤ k) (h2 : k / (ns.length : Nat) < 60) (c : 0 < ((ns.length : Nat) : Int)) :
    (∃ s4 s5, CI ⟨[some (.d (.lst (ns.map D.int))), some (.d (.o 0)), some (.d (.int k)), s3, none, none], m⟩ = .ok .nx ⟨[some (.d (.lst (ns.map D.int))), some (.d (.o 0)), some (.d (.int k)), s3, s4, s5], m⟩) ∨ ∃ (r : Int) (rho' : List (Option S)), CI ⟨[some (.d (.lst (ns.map D.int))), some (.d (.o 0)), some (.d (.int k)), s3, none, none], m⟩ = .ok (.rt (.d (.int r))) ⟨rho', m⟩ ∧ 0 ≤ r := by
  obtain ⟨a, ea⟩ := ixA ns (k % (ns.length : Nat)) (Int.emod_nonneg _ (by omega)) (Int.emod_lt_of_pos _ c)
  obtain ⟨o', s5', e⟩ := ow_loop (some (.d (.lst (ns.map D.int)))) (some (.d (.o 0))) (some (.d (.int k))) s3 m (rangeD 0 (k / (ns.length : Nat)).toNat) (a / 2) none
  have F : (sFor (iRg1M (aCons (opd (eBin dFdiv (eVar 2) (eFn fLen (aCons (opd (eVar 0)) aNil)))) aNil)) (kName 5) (sSet 4 (eBin dFdiv (eVar 4) (eC (.int 306783379)))) : Sm MX Out) ⟨[some (.d (.lst (ns.map D.int))), some (.d (.o 0)), some (.d (.int k)), s3, some (.d (.int (a / 2))), none], m⟩ = .ok .nx ⟨[some (.d (.lst (ns.map D.int))), some (.d (.o 0)), some (.d (.int k)), s3, some (.d (.int o')), s5'], m⟩ := by
    have hq0 : 0 ≤ k / (ns.length : Nat) := Int.ediv_nonneg h0 (by omega)
    exact ci_for (ci_it (lenA ns) (divA _ _ (by omega)) hq0 (by omega) s3 _ m) e
  have g := ci_gen c (lenA ns) ea F
  by_cases q : 0 < o'
  · rw [if_pos q] at g
    exact .inr ⟨_, _, g, Int.emod_nonneg _ (by omega)⟩
  · rw [if_neg q] at g
    exact .inl ⟨_, _, g⟩
/-- the store with the law's place ahead -/
def sp (m : Int) (g : List MO) : List MO := .lst [.int m] :: g
theorem cell_put {s0 s2 s3 s4 s5 : Option S} {m : Int} {g : List MO} : (sLPutM (eBin dAdd (eIxO (eVar 1) (eC (.int 0))) (eC (.int 1))) (eVar 1) (eC (.int 0)) : Sm MX Out) ⟨[s0, some (.d (.o 0)), s2, s3, s4, s5], sp m g⟩ = .ok .nx ⟨[s0, some (.d (.o 0)), s2, s3, s4, s5], sp (m + 1) g⟩ := rfl
theorem cell_get {s0 s2 s3 s4 s5 : Option S} {m : Int} {g : List MO} : (eIxO (eVar 1) (eC (.int 0)) : Sm MX S) ⟨[s0, some (.d (.o 0)), s2, s3, s4, s5], sp m g⟩ = .ok (.d (.int m)) ⟨[s0, some (.d (.o 0)), s2, s3, s4, s5], sp m g⟩ := rfl
theorem ce_gen {C : Sm MX Bool} {I T : Sm MX Out} {cells : D} {m p1 p2 p3 : Int} {g : List MO} {b : Bool} (h1 : dMul (.int 31) (.int (m + 1)) = some (.d (.int p1))) (h2 : dMul (.int p1) (.int (m + 1)) = some (.d (.int p2))) (h3 : dMul (.int 7919) (.int (m + 1)) = some (.d (.int p3)))
    (hC : C ⟨[some (.d cells), some (.d (.o 0)), some (.d (.int (m + 1))), some (.d (.int (p2 + p3))), none, none], sp (m + 1) g⟩ = .ok b ⟨[some (.d cells), some (.d (.o 0)), some (.d (.int (m + 1))), some (.d (.int (p2 + p3))), none, none], sp (m + 1) g⟩)
    (hI : b = true → (∃ s4 s5, I ⟨[some (.d cells), some (.d (.o 0)), some (.d (.int (m + 1))), some (.d (.int (p2 + p3))), none, none], sp (m + 1) g⟩ = .ok .nx ⟨[some (.d cells), some (.d (.o 0)), some (.d (.int (m + 1))), some (.d (.int (p2 + p3))), s4, s5], sp (m + 1) g⟩) ∨ ∃ (r : Int) (rho' : List (Option S)), I ⟨[some (.d cells), some (.d (.o 0)), some (.d (.int (m + 1))), some (.d (.int (p2 + p3))), none, none], sp (m + 1) g⟩ = .ok (.rt (.d (.int r))) ⟨rho', sp (m + 1) g⟩ ∧ 0 ≤ r)
    (hT : ∀ s4 s5, ∃ (r : Int) (rho' : List (Option S)), T ⟨[some (.d cells), some (.d (.o 0)), some (.d (.int (m + 1))), some (.d (.int (p2 + p3))), s4, s5], sp (m + 1) g⟩ = .ok (.rt (.d (.int r))) ⟨rho', sp (m + 1) g⟩ ∧ 0 ≤ r) :
    ∃ r : Int, fnM 6 (sSeq (sLPutM (eBin dAdd (eIxO (eVar 1) (eC (.int 0))) (eC (.int 1))) (eVar 1) (eC (.int 0)))
    (sSeq (sSet 2 (eIxO (eVar 1) (eC (.int 0))))
    (sSeq (sSet 3 (eBin dAdd (eBin dMul (eBin dMul (eC (.int 31)) (eVar 2)) (eVar 2)) (eBin dMul (eC (.int 7919)) (eVar 2))))
    (sSeq (sIf C I sNil) T)))) [.d cells, .d (.o 0)] (sp m g) = .ok (.d (.int r)) (sp (m + 1) g) ∧ 0 ≤ r := by
  walk_at "ey"
  rw [cell_put]
  walk_at "ey"
  rw [cell_get]
  walk_at "ey"
  rw [h1]
  walk_at "ey"
  rw [h2]
  walk_at "ey"
  rw [h3]
  walk_at "ey"
  rw [hC]
  walk_at "ey"
  cases b with
  | true =>
    walk_at "ey"
    rcases hI rfl with ⟨s4, s5, e⟩ | ⟨r, rho', e, hr⟩
    · rw [e]
      walk_at "ey"
      obtain ⟨r, rho', e2, hr⟩ := hT s4 s5
      rw [e2]
      exact ⟨r, rfl, hr⟩
    · rw [e]
      exact ⟨r, rfl, hr⟩
  | false =>
    walk_at "ey"
    obtain ⟨r, rho', e2, hr⟩ := hT none none
    rw [e2]
    exact ⟨r, rfl, hr⟩
def CC : Sm MX Bool := (tAndM (tOf (eBin dGt (eFn fLen (aCons (opd (eVar 0)) aNil)) (eC (.int 0)))) (tAndM (tOf (eBin dEq (eBin dMod (eBin dIx (eVar 0) (eC (.int 0))) (eC (.int 2))) (eC (.int 1)))) (tOf (eBin dLt (eBin dFdiv (eVar 2) (eFn fLen (aCons (opd (eVar 0)) aNil))) (eC (.int 60))))))
theorem cc_yes {cells : D} {k L a r q : Int} {s1 s3 s4 s5 : Option S} {m : List MO} (c : 0 < L) (hl : fLen [cells] = some (.d (.int L))) (h2 : dIx cells (.int 0) = some (.d (.int a))) (h1 : dMod (.int a) (.int 2) = some (.d (.int r))) (h3 : dFdiv (.int k) (.int L) = some (.d (.int q))) :
    CC ⟨[some (.d cells), s1, some (.d (.int k)), s3, s4, s5], m⟩ = .ok (decide (r = 1 ∧ q < 60)) ⟨[some (.d cells), s1, some (.d (.int k)), s3, s4, s5], m⟩ := by
  unfold CC
  walk_at "ey"
  rw [hl]
  walk_at "ey"
  simp only [c]
  walk_at "ey"
  rw [h2]
  walk_at "ey"
  rw [h1]
  walk_at "ey"
  by_cases c2 : r = 1
  · simp only [c2]
    walk_at "ey"
    rw [hl]
    walk_at "ey"
    rw [h3]
    walk_at "ey"
    by_cases c3 : q < 60
    · simp [c3]
    · simp [c3]
  · simp only [c2]
    walk_at "ey"
    simp
theorem cc_no {cells : D} {L : Int} {s1 s2 s3 s4 s5 : Option S} {m : List MO} (c : ¬ 0 < L) (hl : fLen [cells] = some (.d (.int L))) :
    CC ⟨[some (.d cells), s1, s2, s3, s4, s5], m⟩ = .ok false ⟨[some (.d cells), s1, s2, s3, s4, s5], m⟩ := by
  unfold CC
  walk_at "ey"
  rw [hl]
  walk_at "ey"
  simp only [c]
  walk_at "ey"
theorem cell_ok (n : Nat) (ns : List Int) (m : Int) (g : List MO) (hl : ns.length ≤ 1000) (h0 : 0 ≤ m) (h1 : m < 100000000000000) : ∃ r : Int, mir (n + 1) ._law_cell [.d (.lst (ns.map D.int)), .d (.o 0)] (sp m g) = .ok (.d (.int r)) (sp (m + 1) g) ∧ 0 ≤ r := by
  have hT := fun s4 s5 => ct_ok ns (m + 1) (31 * (m + 1) * (m + 1) + 7919 * (m + 1)) s4 s5 (sp (m + 1) g) hl (by omega) (by omega)
  by_cases c : 0 < ((ns.length : Nat) : Int)
  · obtain ⟨a, ea⟩ := ixA ns 0 (by omega) c
    exact ce_gen (C := CC) (I := CI) (T := CT) (mulA _ _ (by omega)) (mulB _ _ (by omega)) (mulA _ _ (by omega)) (cc_yes c (lenA ns) ea (modA _ _ (by omega)) (divA _ _ (by omega))) (fun hb => ci_ok ns (m + 1) _ (sp (m + 1) g) hl (by omega) (of_decide_eq_true hb).2 c) hT
  · exact ce_gen (C := CC) (I := CI) (T := CT) (mulA _ _ (by omega)) (mulB _ _ (by omega)) (mulA _ _ (by omega)) (cc_no c (lenA ns)) (fun hb => by cases hb) hT
/-- enumerate, from a number on -/
def enl : Nat → List D → List D
  | _, [] => []
  | k, d :: r => .tup [.int (k : Int), d] :: enl (k + 1) r
theorem enl_get : ∀ (ds : List D) (k i : Nat), (enl k ds)[i]? = (ds[i]?).map fun d => D.tup [.int ((k + i : Nat) : Int), d]
  | [], k, i => by simp [enl]
  | d :: r, k, 0 => by simp [enl]
  | d :: r, k, i + 1 => by
    rw [enl, List.getElem?_cons_succ, List.getElem?_cons_succ, enl_get r (k + 1) i]
    have e : k + 1 + i = k + (i + 1) := by omega
    rw [e]
theorem enumD_enl (ds : List D) : enumD ds = enl 0 ds := by
  refine List.ext_getElem? fun i => ?_
  rw [enl_get]
  cases h : ds[i]? with
  | none =>
    have hl := List.getElem?_eq_none_iff.mp h
    rw [Option.map_none]
    exact List.getElem?_eq_none (by rw [enumD_len]; exact hl)
  | some d => rw [enumD_at h, Option.map_some, Nat.zero_add]
end L
set_option pp.maxSteps 400
set_option pp.deepTerms false
namespace L
open PySem L2 G
local macro_rules | `(tactic| walk_at "ex") => `(tactic| try simp only [sSeq, sSet, sExpr, sRet, sIf, sAsg, una, escf, escS, opd, eVar, eC, eBin, eUn, eFn, eCall, eTup, eLst, aCons, aNil, fin, rd, rds, R.toS, dsOf, Rs.bind_ok, Rs.bind_bad, Rs.bind_ex, Rs.opt_some, Option.bind_some, Option.map_some, ownAt, eExt, eApp, ePop, List.getElem?_cons_zero, List.getElem?_cons_succ, List.set_cons_zero, List.set_cons_succ, okArg, List.all_cons, List.all_nil, Bool.and_self, if_true, kName, kTup, ksCons, ksNil, fMax, tOf, List.length_cons, List.length_nil, Bool.not_false, Bool.not_true, if_false, Bool.false_eq_true, lm0, lm1, lm2, lm3, lm4, lm5, lm6, lm7, lm8, lm9, lm10, lm11, lm12, fnM, List.map_cons, List.map_nil, List.replicate, List.cons_append, List.nil_append, Nat.reduceAdd, Nat.reduceSub, sNil, tAndM, tOrM, tNotM, tTru, dTru, eIf, dSub_i, dAdd_i, dLt_i, dLe_i, dGt_i, dGe_i, dEq_i, decide_true, decide_false, eChain, eAndM, eSl, oInt, dNeg, dIx, atI0, atI1, atI2, aDef, fTuple, wv_var, wc_var, wj_var, wb_var, wv_call, wc_call, wj_call, wb_call, wv_rel, wc_rel, wj_rel, wb_rel, wv_same, wc_same, wj_same, wb_same, wv_no, wc_no, wj_no, wb_no, wv_and, wc_and, wj_and, wb_and, wv_or, wc_or, wj_or, wb_or, wv_if, wc_if, wj_if, wb_if, wv_all, wc_all, wj_all, wb_all, wv_some, wc_some, wj_some, wb_some])
local macro_rules | `(tactic| walk_at "ey") => `(tactic| try simp only [sSeq, sSet, sExpr, sRet, sIf, sAsg, una, escf, escS, opd, eVar, eC, eBin, eUn, eFn, eCall, eTup, eLst, aCons, aNil, fin, rd, rds, R.toS, dsOf, Rs.bind_ok, Rs.bind_bad, Rs.bind_ex, Rs.opt_some, Option.bind_some, Option.map_some, ownAt, eExt, eApp, ePop, List.getElem?_cons_zero, List.getElem?_cons_succ, List.set_cons_zero, List.set_cons_succ, okArg, List.all_cons, List.all_nil, Bool.and_self, if_true, kName, kTup, ksCons, ksNil, fMax, tOf, List.length_cons, List.length_nil, Bool.not_false, Bool.not_true, if_false, Bool.false_eq_true, lm0, lm1, lm2, lm3, lm4, lm5, lm6, lm7, lm8, lm9, lm10, lm11, lm12, fnM, List.map_cons, List.map_nil, List.replicate, List.cons_append, List.nil_append, Nat.reduceAdd, Nat.reduceSub, sNil, tAndM, tOrM, tNotM, tTru, dTru, eIf, dSub_i, dAdd_i, dLt_i, dLe_i, dGt_i, dGe_i, dEq_i, decide_true, decide_false, eChain, eAndM, eSl, oInt, dNeg, fInt, aDef, fTuple])
def fnR (X : Rs Out (Z (List MO))) : Rs S (List MO) := match X with
  | .ok (.rt s) z => .ok s z.m
  | .ok .nx z => .ok (.d .non) z.m
  | .ok _ _ => .bad
  | .ex x z => .ex x z.m
  | .bad => .bad
theorem seq_nx {a b : Sm MX Out} {z z1 : Z (List MO)} (h : a z = .ok .nx z1) : sSeq a b z = b z1 := by
  unfold sSeq
  rw [h, Rs.bind_ok]
/-! the room -/
def sc (l : String) (e : Str) : D := .str (Str.ofString l ++ e)
def room (e : Str) (ks : List Str) : D := .tup [.tup [.str "sort", sc "s" e, .tup []], .tup [.str "sort", sc "m" e, .tup (ks.map D.str)], .tup [.str "func", sc "c" e, .tup [], sc "s" e], .tup [.str "func", sc "f" e, .tup [sc "s" e], sc "s" e],
  .tup [.str "func", sc "g" e, .tup [sc "s" e, sc "m" e], sc "s" e], .tup [.str "rel", sc "p" e, .tup [sc "s" e]], .tup [.str "rel", sc "q" e, .tup [sc "s" e, sc "m" e]], .tup [.str "rel", sc "z" e, .tup []],
  .tup [.str "mean", sc "top" e, .tup [sc "s" e], .tup [.str "same", .tup [.str "var", .int 0], .tup [.str "var", .int 0]]], .tup [.str "mean", sc "eq" e, .tup [sc "s" e, sc "s" e], .tup [.str "same", .tup [.str "var", .int 1], .tup [.str "var", .int 0]]],
  .tup [.str "taken", sc "hp" e, .tup [.str "all", sc "s" e, .tup [.str "rel", sc "p" e, .tup [.tup [.str "var", .int 0]]]]], .tup [.str "taken", sc "hz" e, .tup [.str "rel", sc "z" e, .tup []]],
  .tup [.str "taken", sc "hq" e, .tup [.str "some", sc "m" e, .tup [.str "rel", sc "q" e, .tup [.tup [.str "call", sc "c" e, .tup []], .tup [.str "var", .int 0]]]]]]
def EA : Sm MX Out := (sSet 1 (eBin dIx (eLst (aCons (escf (eC (.str ""))) (aCons (escf (eC (.str "a"))) (aCons (escf (eC (.str "x1"))) (aCons (escf (eC (.str "7"))) (aCons (escf (eC (.str "bb"))) aNil)))))) (eBin dMod (eVar 0) (eC (.int 5)))))
def EB : Sm MX Out := (sAsg (eTup (aCons (escf (eBin dAdd (eC (.str "s")) (eVar 1))) (aCons (escf (eBin dAdd (eC (.str "m")) (eVar 1))) (aCons (escf (eTup (aCons (escf (eC (.str "call"))) (aCons (escf (eBin dAdd (eC (.str "c")) (eVar 1))) (aCons (escf (eTup aNil)) aNil))))) (aCons (escf (eTup (aCons (escf (eC (.str "var"))) (aCons (escf (eC (.int 0))) aNil)))) (aCons (escf (eTup (aCons (escf (eC (.str "var"))) (aCons (escf (eC (.int 1))) aNil)))) aNil)))))) (kTup 5 (ksCons (kName 2) (ksCons (kName 3) (ksCons (kName 4) (ksCons (kName 5) (ksCons (kName 6) ksNil)))))))
def EI : Sm MX (List D) := (iAnyM (eSl dSl (eC (.str "abcd")) (fun z => .ok none z) (oInt (eBin dAdd (eC (.int 2)) (eBin dMod (eBin dFdiv (eVar 0) (eC (.int 5))) (eC (.int 3)))))))
def EC (I : Sm MX (List D)) : Sm MX Out := (sSet 7 (eFn fTuple (aCons (opd (eLc I (kName 9) (fun z => .ok true z) (eBin dAdd (eBin dAdd (eC (.str "k")) (eVar 9)) (eVar 1)) [9])) aNil)))
def ER : Sm MX Out := (sSeq (sSet 8 (eLst (aCons (escf (eTup (aCons (escf (eC (.str "sort"))) (aCons (escf (eVar 2)) (aCons (escf (eTup aNil)) aNil))))) (aCons (escf (eTup (aCons (escf (eC (.str "sort"))) (aCons (escf (eVar 3)) (aCons (escf (eVar 7)) aNil))))) (aCons (escf (eTup (aCons (escf (eC (.str "func"))) (aCons (escf (eBin dAdd (eC (.str "c")) (eVar 1))) (aCons (escf (eTup aNil)) (aCons (escf (eVar 2)) aNil)))))) (aCons (escf (eTup (aCons (escf (eC (.str "func"))) (aCons (escf (eBin dAdd (eC (.str "f")) (eVar 1))) (aCons (escf (eTup (aCons (escf (eVar 2)) aNil))) (aCons (escf (eVar 2)) aNil)))))) aNil))))))
    (sSeq (sSet 8 (eBin dAdd (eVar 8) (eLst (aCons (escf (eTup (aCons (escf (eC (.str "func"))) (aCons (escf (eBin dAdd (eC (.str "g")) (eVar 1))) (aCons (escf (eTup (aCons (escf (eVar 2)) (aCons (escf (eVar 3)) aNil)))) (aCons (escf (eVar 2)) aNil)))))) (aCons (escf (eTup (aCons (escf (eC (.str "rel"))) (aCons (escf (eBin dAdd (eC (.str "p")) (eVar 1))) (aCons (escf (eTup (aCons (escf (eVar 2)) aNil))) aNil))))) (aCons (escf (eTup (aCons (escf (eC (.str "rel"))) (aCons (escf (eBin dAdd (eC (.str "q")) (eVar 1))) (aCons (escf (eTup (aCons (escf (eVar 2)) (aCons (escf (eVar 3)) aNil)))) aNil))))) (aCons (escf (eTup (aCons (escf (eC (.str "rel"))) (aCons (escf (eBin dAdd (eC (.str "z")) (eVar 1))) (aCons (escf (eTup aNil)) aNil))))) aNil)))))))
    (sSeq (sSet 8 (eBin dAdd (eVar 8) (eLst (aCons (escf (eTup (aCons (escf (eC (.str "mean"))) (aCons (escf (eBin dAdd (eC (.str "top")) (eVar 1))) (aCons (escf (eTup (aCons (escf (eVar 2)) aNil))) (aCons (escf (eTup (aCons (escf (eC (.str "same"))) (aCons (escf (eVar 5)) (aCons (escf (eVar 5)) aNil))))) aNil)))))) (aCons (escf (eTup (aCons (escf (eC (.str "mean"))) (aCons (escf (eBin dAdd (eC (.str "eq")) (eVar 1))) (aCons (escf (eTup (aCons (escf (eVar 2)) (aCons (escf (eVar 2)) aNil)))) (aCons (escf (eTup (aCons (escf (eC (.str "same"))) (aCons (escf (eVar 6)) (aCons (escf (eVar 5)) aNil))))) aNil)))))) aNil)))))
    (sSeq (sSet 8 (eBin dAdd (eVar 8) (eLst (aCons (escf (eTup (aCons (escf (eC (.str "taken"))) (aCons (escf (eBin dAdd (eC (.str "hp")) (eVar 1))) (aCons (escf (eTup (aCons (escf (eC (.str "all"))) (aCons (escf (eVar 2)) (aCons (escf (eTup (aCons (escf (eC (.str "rel"))) (aCons (escf (eBin dAdd (eC (.str "p")) (eVar 1))) (aCons (escf (eTup (aCons (escf (eVar 5)) aNil))) aNil))))) aNil))))) aNil))))) (aCons (escf (eTup (aCons (escf (eC (.str "taken"))) (aCons (escf (eBin dAdd (eC (.str "hz")) (eVar 1))) (aCons (escf (eTup (aCons (escf (eC (.str "rel"))) (aCons (escf (eBin dAdd (eC (.str "z")) (eVar 1))) (aCons (escf (eTup aNil)) aNil))))) aNil))))) aNil)))))
    (sSeq (sExpr (eApp 8 (eTup (aCons (escf (eC (.str "taken"))) (aCons (escf (eBin dAdd (eC (.str "hq")) (eVar 1))) (aCons (escf (eTup (aCons (escf (eC (.str "some"))) (aCons (escf (eVar 3)) (aCons (escf (eTup (aCons (escf (eC (.str "rel"))) (aCons (escf (eBin dAdd (eC (.str "q")) (eVar 1))) (aCons (escf (eTup (aCons (escf (eVar 4)) (aCons (escf (eVar 5)) aNil)))) aNil))))) aNil))))) aNil))))))
    (sRet (eFn fTuple (aCons (opd (eVar 8)) aNil))))))))
theorem ec_eq {I : Sm MX (List D)} {z z1 : Z (List MO)} {ds : List D} (h : I z = .ok ds z1) (h2 : z1 = z) : EC I z = EC (fun z => .ok ds z) z := by
  subst h2
  unfold EC
  simp only [sSet, una, eFn, aCons, opd, eLc, h]
theorem ei_eq (r : Int) (w : Str) (ds : List D) (rho : List (Option S)) (m : List MO) (q : Int) (h1 : dFdiv (.int r) (.int 5) = some (.d (.int q))) (j : Int) (h2 : dMod (.int q) (.int 3) = some (.d (.int j))) (h3 : dSl (.str "abcd") none (some (2 + j)) = some (.d (.str w))) (h4 : itemsD (.str w) = some ds) : EI ⟨some (.d (.int r)) :: rho, m⟩ = .ok ds ⟨some (.d (.int r)) :: rho, m⟩ := by
  unfold EI
  simp only [iAnyM]
  walk_at "ey"
  rw [h1]
  walk_at "ey"
  rw [h2]
  walk_at "ey"
  rw [h3]
  walk_at "ey"
  rw [h4]
  rfl
theorem ea_eq (r i : Int) (e : Str) (m : List MO) (h1 : dMod (.int r) (.int 5) = some (.d (.int i))) (h2 : dIx (.lst [.str "", .str "a", .str "x1", .str "7", .str "bb"]) (.int i) = some (.d (.str e))) : EA ⟨[some (.d (.int r)), none, none, none, none, none, none, none, none, none], m⟩ = .ok .nx ⟨[some (.d (.int r)), some (.d (.str e)), none, none, none, none, none, none, none, none], m⟩ := by
  unfold EA
  walk_at "ey"
  rw [h1]
  walk_at "ey"
  rw [h2]
  walk_at "ey"
theorem fnM_R (n : Nat) (b : Sm MX Out) (args : List S) (m : List MO) : fnM n b args m = fnR (b ⟨args.map some ++ List.replicate (n - args.length) none, m⟩) := by
  unfold fnM
  generalize b _ = Y
  cases Y with
  | ok o z => cases o <;> rfl
  | ex _ _ => rfl
  | bad => rfl
theorem ent_gen {c : Fn → List S → List MO → Rs S (List MO)} {r : Int} {m : List MO} {i q j : Int} {e w : Str} {ds : List D} {rho : List (Option S)} {X : D} (h1 : dMod (.int r) (.int 5) = some (.d (.int i))) (h2 : dIx (.lst [.str "", .str "a", .str "x1", .str "7", .str "bb"]) (.int i) = some (.d (.str e))) (hB : EB ⟨[some (.d (.int r)), some (.d (.str e)), none, none, none, none, none, none, none, none], m⟩ = .ok .nx ⟨some (.d (.int r)) :: rho, m⟩)
    (h3 : dFdiv (.int r) (.int 5) = some (.d (.int q))) (h4 : dMod (.int q) (.int 3) = some (.d (.int j))) (h5 : dSl (.str "abcd") none (some (2 + j)) = some (.d (.str w))) (h6 : itemsD (.str w) = some ds) (hR : fnR (sSeq (EC (fun z => .ok ds z)) ER ⟨some (.d (.int r)) :: rho, m⟩) = .ok (.d X) m) : fnM 10 (m__law_entries c) [.d (.int r)] m = .ok (.d X) m := by
  have b : (sSeq EA (sSeq EB (sSeq (EC EI) ER)) : Sm MX Out) ⟨[some (.d (.int r)), none, none, none, none, none, none, none, none, none], m⟩ = sSeq (EC (fun z => .ok ds z)) ER ⟨some (.d (.int r)) :: rho, m⟩ := by
    rw [seq_nx (ea_eq r i e m h1 h2), seq_nx hB]
    have e2 := ec_eq (ei_eq r w ds rho m q h3 j h4 h5 h6) rfl
    unfold sSeq
    rw [e2]
  rw [fnM_R]
  exact (congrArg fnR b).trans hR
structure RmOk (e : Str) (ks : List Str) : Prop where
  len : e.length ≤ 2
  ok : PyData.strOk e = true
  lo : 2 ≤ ks.length
  hi : ks.length ≤ 4
  kok : ∀ k ∈ ks, PyData.strOk k = true
  klen : ∀ k ∈ ks, k.length ≤ 4
  kh : ∀ k ∈ ks, k.cps.toList.head? = some 107
  five : e ∈ [Str.ofString "", Str.ofString "a", Str.ofString "x1", Str.ofString "7", Str.ofString "bb"]
theorem entries_ok (n : Nat) (r : Int) (m : List MO) (h : 0 ≤ r) : ∃ (e : Str) (ks : List Str), mir (n + 1) ._law_entries [.d (.int r)] m = .ok (.d (room e ks)) m ∧ RmOk e ks := by
  have c5 : r % 5 = 0 ∨ r % 5 = 1 ∨ r % 5 = 2 ∨ r % 5 = 3 ∨ r % 5 = 4 := by omega
  have c3 : r / 5 % 3 = 0 ∨ r / 5 % 3 = 1 ∨ r / 5 % 3 = 2 := by omega
  have d5 := modA r 5 (by omega)
  have q5 := divA r 5 (by omega)
  have d3 := modA (r / 5) 3 (by omega)
  rcases c5 with c5 | c5 | c5 | c5 | c5 <;> rcases c3 with c3 | c3 | c3 <;> rw [c5] at d5 <;> rw [c3] at d3
  · exact ⟨"", [Str.ofString "k" ++ (⟨#[97]⟩ : Str) ++ Str.ofString "", Str.ofString "k" ++ (⟨#[98]⟩ : Str) ++ Str.ofString ""], ent_gen (e := "") (rho := [some (.d (.str "")), some (.d (sc "s" "")), some (.d (sc "m" "")), some (.d (.tup [.str "call", sc "c" "", .tup []])), some (.d (.tup [.str "var", .int 0])), some (.d (.tup [.str "var", .int 1])), none, none, none]) (w := ⟨#[97, 98]⟩) (ds := [D.str ⟨#[97]⟩, D.str ⟨#[98]⟩]) d5 (by kernel_rfl) (by kernel_rfl) q5 d3 (by kernel_rfl) (by kernel_rfl) (by kernel_rfl), ⟨by decide, by decide +kernel, by decide, by decide, by decide +kernel, by decide +kernel, by decide +kernel, by decide +kernel⟩⟩
  · exact ⟨"", [Str.ofString "k" ++ (⟨#[97]⟩ : Str) ++ Str.ofString "", Str.ofString "k" ++ (⟨#[98]⟩ : Str) ++ Str.ofString "", Str.ofString "k" ++ (⟨#[99]⟩ : Str) ++ Str.ofString ""], ent_gen (e := "") (rho := [some (.d (.str "")), some (.d (sc "s" "")), some (.d (sc "m" "")), some (.d (.tup [.str "call", sc "c" "", .tup []])), some (.d (.tup [.str "var", .int 0])), some (.d (.tup [.str "var", .int 1])), none, none, none]) (w := ⟨#[97, 98, 99]⟩) (ds := [D.str ⟨#[97]⟩, D.str ⟨#[98]⟩, D.str ⟨#[99]⟩]) d5 (by kernel_rfl) (by kernel_rfl) q5 d3 (by kernel_rfl) (by kernel_rfl) (by kernel_rfl), ⟨by decide, by decide +kernel, by decide, by decide, by decide +kernel, by decide +kernel, by decide +kernel, by decide +kernel⟩⟩
  · exact ⟨"", [Str.ofString "k" ++ (⟨#[97]⟩ : Str) ++ Str.ofString "", Str.ofString "k" ++ (⟨#[98]⟩ : Str) ++ Str.ofString "", Str.ofString "k" ++ (⟨#[99]⟩ : Str) ++ Str.ofString "", Str.ofString "k" ++ (⟨#[100]⟩ : Str) ++ Str.ofString ""], ent_gen (e := "") (rho := [some (.d (.str "")), some (.d (sc "s" "")), some (.d (sc "m" "")), some (.d (.tup [.str "call", sc "c" "", .tup []])), some (.d (.tup [.str "var", .int 0])), some (.d (.tup [.str "var", .int 1])), none, none, none]) (w := ⟨#[97, 98, 99, 100]⟩) (ds := [D.str ⟨#[97]⟩, D.str ⟨#[98]⟩, D.str ⟨#[99]⟩, D.str ⟨#[100]⟩]) d5 (by kernel_rfl) (by kernel_rfl) q5 d3 (by kernel_rfl) (by kernel_rfl) (by kernel_rfl), ⟨by decide, by decide +kernel, by decide, by decide, by decide +kernel, by decide +kernel, by decide +kernel, by decide +kernel⟩⟩
  · exact ⟨"a", [Str.ofString "k" ++ (⟨#[97]⟩ : Str) ++ Str.ofString "a", Str.ofString "k" ++ (⟨#[98]⟩ : Str) ++ Str.ofString "a"], ent_gen (e := "a") (rho := [some (.d (.str "a")), some (.d (sc "s" "a")), some (.d (sc "m" "a")), some (.d (.tup [.str "call", sc "c" "a", .tup []])), some (.d (.tup [.str "var", .int 0])), some (.d (.tup [.str "var", .int 1])), none, none, none]) (w := ⟨#[97, 98]⟩) (ds := [D.str ⟨#[97]⟩, D.str ⟨#[98]⟩]) d5 (by kernel_rfl) (by kernel_rfl) q5 d3 (by kernel_rfl) (by kernel_rfl) (by kernel_rfl), ⟨by decide, by decide +kernel, by decide, by decide, by decide +kernel, by decide +kernel, by decide +kernel, by decide +kernel⟩⟩
  · exact ⟨"a", [Str.ofString "k" ++ (⟨#[97]⟩ : Str) ++ Str.ofString "a", Str.ofString "k" ++ (⟨#[98]⟩ : Str) ++ Str.ofString "a", Str.ofString "k" ++ (⟨#[99]⟩ : Str) ++ Str.ofString "a"], ent_gen (e := "a") (rho := [some (.d (.str "a")), some (.d (sc "s" "a")), some (.d (sc "m" "a")), some (.d (.tup [.str "call", sc "c" "a", .tup []])), some (.d (.tup [.str "var", .int 0])), some (.d (.tup [.str "var", .int 1])), none, none, none]) (w := ⟨#[97, 98, 99]⟩) (ds := [D.str ⟨#[97]⟩, D.str ⟨#[98]⟩, D.str ⟨#[99]⟩]) d5 (by kernel_rfl) (by kernel_rfl) q5 d3 (by kernel_rfl) (by kernel_rfl) (by kernel_rfl), ⟨by decide, by decide +kernel, by decide, by decide, by decide +kernel, by decide +kernel, by decide +kernel, by decide +kernel⟩⟩
  · exact ⟨"a", [Str.ofString "k" ++ (⟨#[97]⟩ : Str) ++ Str.ofString "a", Str.ofString "k" ++ (⟨#[98]⟩ : Str) ++ Str.ofString "a", Str.ofString "k" ++ (⟨#[99]⟩ : Str) ++ Str.ofString "a", Str.ofString "k" ++ (⟨#[100]⟩ : Str) ++ Str.ofString "a"], ent_gen (e := "a") (rho := [some (.d (.str "a")), some (.d (sc "s" "a")), some (.d (sc "m" "a")), some (.d (.tup [.str "call", sc "c" "a", .tup []])), some (.d (.tup [.str "var", .int 0])), some (.d (.tup [.str "var", .int 1])), none, none, none]) (w := ⟨#[97, 98, 99, 100]⟩) (ds := [D.str ⟨#[97]⟩, D.str ⟨#[98]⟩, D.str ⟨#[99]⟩, D.str ⟨#[100]⟩]) d5 (by kernel_rfl) (by kernel_rfl) q5 d3 (by kernel_rfl) (by kernel_rfl) (by kernel_rfl), ⟨by decide, by decide +kernel, by decide, by decide, by decide +kernel, by decide +kernel, by decide +kernel, by decide +kernel⟩⟩
  · exact ⟨"x1", [Str.ofString "k" ++ (⟨#[97]⟩ : Str) ++ Str.ofString "x1", Str.ofString "k" ++ (⟨#[98]⟩ : Str) ++ Str.ofString "x1"], ent_gen (e := "x1") (rho := [some (.d (.str "x1")), some (.d (sc "s" "x1")), some (.d (sc "m" "x1")), some (.d (.tup [.str "call", sc "c" "x1", .tup []])), some (.d (.tup [.str "var", .int 0])), some (.d (.tup [.str "var", .int 1])), none, none, none]) (w := ⟨#[97, 98]⟩) (ds := [D.str ⟨#[97]⟩, D.str ⟨#[98]⟩]) d5 (by kernel_rfl) (by kernel_rfl) q5 d3 (by kernel_rfl) (by kernel_rfl) (by kernel_rfl), ⟨by decide, by decide +kernel, by decide, by decide, by decide +kernel, by decide +kernel, by decide +kernel, by decide +kernel⟩⟩
  · exact ⟨"x1", [Str.ofString "k" ++ (⟨#[97]⟩ : Str) ++ Str.ofString "x1", Str.ofString "k" ++ (⟨#[98]⟩ : Str) ++ Str.ofString "x1", Str.ofString "k" ++ (⟨#[99]⟩ : Str) ++ Str.ofString "x1"], ent_gen (e := "x1") (rho := [some (.d (.str "x1")), some (.d (sc "s" "x1")), some (.d (sc "m" "x1")), some (.d (.tup [.str "call", sc "c" "x1", .tup []])), some (.d (.tup [.str "var", .int 0])), some (.d (.tup [.str "var", .int 1])), none, none, none]) (w := ⟨#[97, 98, 99]⟩) (ds := [D.str ⟨#[97]⟩, D.str ⟨#[98]⟩, D.str ⟨#[99]⟩]) d5 (by kernel_rfl) (by kernel_rfl) q5 d3 (by kernel_rfl) (by kernel_rfl) (by kernel_rfl), ⟨by decide, by decide +kernel, by decide, by decide, by decide +kernel, by decide +kernel, by decide +kernel, by decide +kernel⟩⟩
  · exact ⟨"x1", [Str.ofString "k" ++ (⟨#[97]⟩ : Str) ++ Str.ofString "x1", Str.ofString "k" ++ (⟨#[98]⟩ : Str) ++ Str.ofString "x1", Str.ofString "k" ++ (⟨#[99]⟩ : Str) ++ Str.ofString "x1", Str.ofString "k" ++ (⟨#[100]⟩ : Str) ++ Str.ofString "x1"], ent_gen (e := "x1") (rho := [some (.d (.str "x1")), some (.d (sc "s" "x1")), some (.d (sc "m" "x1")), some (.d (.tup [.str "call", sc "c" "x1", .tup []])), some (.d (.tup [.str "var", .int 0])), some (.d (.tup [.str "var", .int 1])), none, none, none]) (w := ⟨#[97, 98, 99, 100]⟩) (ds := [D.str ⟨#[97]⟩, D.str ⟨#[98]⟩, D.str ⟨#[99]⟩, D.str ⟨#[100]⟩]) d5 (by kernel_rfl) (by kernel_rfl) q5 d3 (by kernel_rfl) (by kernel_rfl) (by kernel_rfl), ⟨by decide, by decide +kernel, by decide, by decide, by decide +kernel, by decide +kernel, by decide +kernel, by decide +kernel⟩⟩
  · exact ⟨"7", [Str.ofString "k" ++ (⟨#[97]⟩ : Str) ++ Str.ofString "7", Str.ofString "k" ++ (⟨#[98]⟩ : Str) ++ Str.ofString "7"], ent_gen (e := "7") (rho := [some (.d (.str "7")), some (.d (sc "s" "7")), some (.d (sc "m" "7")), some (.d (.tup [.str "call", sc "c" "7", .tup []])), some (.d (.tup [.str "var", .int 0])), some (.d (.tup [.str "var", .int 1])), none, none, none]) (w := ⟨#[97, 98]⟩) (ds := [D.str ⟨#[97]⟩, D.str ⟨#[98]⟩]) d5 (by kernel_rfl) (by kernel_rfl) q5 d3 (by kernel_rfl) (by kernel_rfl) (by kernel_rfl), ⟨by decide, by decide +kernel, by decide, by decide, by decide +kernel, by decide +kernel, by decide +kernel, by decide +kernel⟩⟩
  · exact ⟨"7", [Str.ofString "k" ++ (⟨#[97]⟩ : Str) ++ Str.ofString "7", Str.ofString "k" ++ (⟨#[98]⟩ : Str) ++ Str.ofString "7", Str.ofString "k" ++ (⟨#[99]⟩ : Str) ++ Str.ofString "7"], ent_gen (e := "7") (rho := [some (.d (.str "7")), some (.d (sc "s" "7")), some (.d (sc "m" "7")), some (.d (.tup [.str "call", sc "c" "7", .tup []])), some (.d (.tup [.str "var", .int 0])), some (.d (.tup [.str "var", .int 1])), none, none, none]) (w := ⟨#[97, 98, 99]⟩) (ds := [D.str ⟨#[97]⟩, D.str ⟨#[98]⟩, D.str ⟨#[99]⟩]) d5 (by kernel_rfl) (by kernel_rfl) q5 d3 (by kernel_rfl) (by kernel_rfl) (by kernel_rfl), ⟨by decide, by decide +kernel, by decide, by decide, by decide +kernel, by decide +kernel, by decide +kernel, by decide +kernel⟩⟩
  · exact ⟨"7", [Str.ofString "k" ++ (⟨#[97]⟩ : Str) ++ Str.ofString "7", Str.ofString "k" ++ (⟨#[98]⟩ : Str) ++ Str.ofString "7", Str.ofString "k" ++ (⟨#[99]⟩ : Str) ++ Str.ofString "7", Str.ofString "k" ++ (⟨#[100]⟩ : Str) ++ Str.ofString "7"], ent_gen (e := "7") (rho := [some (.d (.str "7")), some (.d (sc "s" "7")), some (.d (sc "m" "7")), some (.d (.tup [.str "call", sc "c" "7", .tup []])), some (.d (.tup [.str "var", .int 0])), some (.d (.tup [.str "var", .int 1])), none, none, none]) (w := ⟨#[97, 98, 99, 100]⟩) (ds := [D.str ⟨#[97]⟩, D.str ⟨#[98]⟩, D.str ⟨#[99]⟩, D.str ⟨#[100]⟩]) d5 (by kernel_rfl) (by kernel_rfl) q5 d3 (by kernel_rfl) (by kernel_rfl) (by kernel_rfl), ⟨by decide, by decide +kernel, by decide, by decide, by decide +kernel, by decide +kernel, by decide +kernel, by decide +kernel⟩⟩
  · exact ⟨"bb", [Str.ofString "k" ++ (⟨#[97]⟩ : Str) ++ Str.ofString "bb", Str.ofString "k" ++ (⟨#[98]⟩ : Str) ++ Str.ofString "bb"], ent_gen (e := "bb") (rho := [some (.d (.str "bb")), some (.d (sc "s" "bb")), some (.d (sc "m" "bb")), some (.d (.tup [.str "call", sc "c" "bb", .tup []])), some (.d (.tup [.str "var", .int 0])), some (.d (.tup [.str "var", .int 1])), none, none, none]) (w := ⟨#[97, 98]⟩) (ds := [D.str ⟨#[97]⟩, D.str ⟨#[98]⟩]) d5 (by kernel_rfl) (by kernel_rfl) q5 d3 (by kernel_rfl) (by kernel_rfl) (by kernel_rfl), ⟨by decide, by decide +kernel, by decide, by decide, by decide +kernel, by decide +kernel, by decide +kernel, by decide +kernel⟩⟩
  · exact ⟨"bb", [Str.ofString "k" ++ (⟨#[97]⟩ : Str) ++ Str.ofString "bb", Str.ofString "k" ++ (⟨#[98]⟩ : Str) ++ Str.ofString "bb", Str.ofString "k" ++ (⟨#[99]⟩ : Str) ++ Str.ofString "bb"], ent_gen (e := "bb") (rho := [some (.d (.str "bb")), some (.d (sc "s" "bb")), some (.d (sc "m" "bb")), some (.d (.tup [.str "call", sc "c" "bb", .tup []])), some (.d (.tup [.str "var", .int 0])), some (.d (.tup [.str "var", .int 1])), none, none, none]) (w := ⟨#[97, 98, 99]⟩) (ds := [D.str ⟨#[97]⟩, D.str ⟨#[98]⟩, D.str ⟨#[99]⟩]) d5 (by kernel_rfl) (by kernel_rfl) q5 d3 (by kernel_rfl) (by kernel_rfl) (by kernel_rfl), ⟨by decide, by decide +kernel, by decide, by decide, by decide +kernel, by decide +kernel, by decide +kernel, by decide +kernel⟩⟩
  · exact ⟨"bb", [Str.ofString "k" ++ (⟨#[97]⟩ : Str) ++ Str.ofString "bb", Str.ofString "k" ++ (⟨#[98]⟩ : Str) ++ Str.ofString "bb", Str.ofString "k" ++ (⟨#[99]⟩ : Str) ++ Str.ofString "bb", Str.ofString "k" ++ (⟨#[100]⟩ : Str) ++ Str.ofString "bb"], ent_gen (e := "bb") (rho := [some (.d (.str "bb")), some (.d (sc "s" "bb")), some (.d (sc "m" "bb")), some (.d (.tup [.str "call", sc "c" "bb", .tup []])), some (.d (.tup [.str "var", .int 0])), some (.d (.tup [.str "var", .int 1])), none, none, none]) (w := ⟨#[97, 98, 99, 100]⟩) (ds := [D.str ⟨#[97]⟩, D.str ⟨#[98]⟩, D.str ⟨#[99]⟩, D.str ⟨#[100]⟩]) d5 (by kernel_rfl) (by kernel_rfl) q5 d3 (by kernel_rfl) (by kernel_rfl) (by kernel_rfl), ⟨by decide, by decide +kernel, by decide, by decide, by decide +kernel, by decide +kernel, by decide +kernel, by decide +kernel⟩⟩
end L
set_option pp.maxSteps 400
set_option pp.deepTerms false
namespace L
open PySem L2 G
local macro_rules | `(tactic| walk_at "ex") => `(tactic| try simp only [sSeq, sSet, sExpr, sRet, sIf, sAsg, una, escf, escS, opd, eVar, eC, eBin, eUn, eFn, eCall, eTup, eLst, aCons, aNil, fin, rd, rds, R.toS, dsOf, Rs.bind_ok, Rs.bind_bad, Rs.bind_ex, Rs.opt_some, Option.bind_some, Option.map_some, ownAt, eExt, eApp, ePop, List.getElem?_cons_zero, List.getElem?_cons_succ, List.set_cons_zero, List.set_cons_succ, okArg, List.all_cons, List.all_nil, Bool.and_self, if_true, kName, kTup, ksCons, ksNil, fMax, tOf, List.length_cons, List.length_nil, Bool.not_false, Bool.not_true, if_false, Bool.false_eq_true, lm0, lm1, lm2, lm3, lm4, lm5, lm6, lm7, lm8, lm9, lm10, lm11, lm12, fnM, List.map_cons, List.map_nil, List.replicate, List.cons_append, List.nil_append, Nat.reduceAdd, Nat.reduceSub, sNil, tAndM, tOrM, tNotM, tTru, dTru, eIf, dSub_i, dAdd_i, dLt_i, dLe_i, dGt_i, dGe_i, dEq_i, decide_true, decide_false, eChain, eAndM, eSl, oInt, dNeg, dIx, atI0, atI1, atI2, aDef, fTuple, wv_var, wc_var, wj_var, wb_var, wv_call, wc_call, wj_call, wb_call, wv_rel, wc_rel, wj_rel, wb_rel, wv_same, wc_same, wj_same, wb_same, wv_no, wc_no, wj_no, wb_no, wv_and, wc_and, wj_and, wb_and, wv_or, wc_or, wj_or, wb_or, wv_if, wc_if, wj_if, wb_if, wv_all, wc_all, wj_all, wb_all, wv_some, wc_some, wj_some, wb_some])
local macro_rules | `(tactic| walk_at "ey") => `(tactic| try simp only [sSeq, sSet, sExpr, sRet, sIf, sAsg, una, escf, escS, opd, eVar, eC, eBin, eUn, eFn, eCall, eTup, eLst, aCons, aNil, fin, rd, rds, R.toS, dsOf, Rs.bind_ok, Rs.bind_bad, Rs.bind_ex, Rs.opt_some, Option.bind_some, Option.map_some, ownAt, eExt, eApp, ePop, List.getElem?_cons_zero, List.getElem?_cons_succ, List.set_cons_zero, List.set_cons_succ, okArg, List.all_cons, List.all_nil, Bool.and_self, if_true, kName, kTup, ksCons, ksNil, fMax, tOf, List.length_cons, List.length_nil, Bool.not_false, Bool.not_true, if_false, Bool.false_eq_true, lm0, lm1, lm2, lm3, lm4, lm5, lm6, lm7, lm8, lm9, lm10, lm11, lm12, fnM, List.map_cons, List.map_nil, List.replicate, List.cons_append, List.nil_append, Nat.reduceAdd, Nat.reduceSub, sNil, tAndM, tOrM, tNotM, tTru, dTru, eIf, dSub_i, dAdd_i, dLt_i, dLe_i, dGt_i, dGe_i, dEq_i, decide_true, decide_false, eChain, eAndM, eSl, oInt, dNeg, fInt, aDef, fTuple])
theorem okS_lit (s : String) : okS (Str.ofString s) := by
  intro c hc
  have e : (Str.ofString s).cps.toList = s.toList.map Char.toNat := by
    show (cpsOfBytes 0 0 s.toByteArray.data.toList).toArray.toList = _
    rw [List.toList_toArray, cpsOfBytes_string]
  rw [e] at hc
  obtain ⟨d, _, rfl⟩ := List.mem_map.mp hc
  have h := d.valid
  have e2 : d.toNat = d.val.toNat := rfl
  rw [e2]
  rcases h with h | ⟨_, h⟩
  · have : d.val.toNat < 0xd800 := h
    omega
  · exact h
theorem okS_to {x : Str} (h : okS x) : PyData.strOk x = true := by
  unfold PyData.strOk
  rw [Array.all_eq_true_iff_forall_mem]
  intro c hc
  have := h c (by simpa using hc)
  simpa using this
def nm (l : String) (e : Str) : Str := Str.ofString l ++ e
theorem nm_ok {e : Str} (l : String) (h : PyData.strOk e = true) : PyData.strOk (nm l e) = true := okS_to (okS_app (okS_lit l) (okS_of h))
theorem eq_ss {a b : Str} (ha : PyData.strOk a = true) (hb : PyData.strOk b = true) : dEq (.str a) (.str b) = some (.d (.bl (a == b))) := by
  have h1 : lay (.str a) = true := by rw [lay]; exact ha
  have h2 : lay (.str b) = true := by rw [lay]; exact hb
  have ok : eqOk (.str a) (.str b) = true := by
    unfold eqOk
    rw [h1, h2, Bool.true_and, Bool.true_and]
    have h3 : dep (.str a) = 0 := by simp [dep]
    exact decide_eq_true (by rw [h3]; omega)
  unfold dEq
  rw [if_pos ok, eqD_str]
theorem pick (l : List Th) (i : Int) (h : 0 ≤ i) (h2 : i < (l.length : Nat)) : ∃ t ∈ l, dIx (.lst (encs l)) (.int i) = some (.d (enc t)) := by
  obtain ⟨k, rfl⟩ : ∃ k : Nat, i = (k : Int) := ⟨i.toNat, by omega⟩
  have hk : k < l.length := by omega
  refine ⟨l[k], List.getElem_mem hk, ?_⟩
  show (atI (encs l) (k : Int)).map R.d = _
  rw [atI_nat (v := enc l[k]) (by rw [encs_map, List.getElem?_map, List.getElem?_eq_getElem hk]; rfl)]
  rfl
theorem lenE (l : List Th) : fLen [.lst (encs l)] = some (.d (.int (l.length : Nat))) := by
  show some (R.d (D.int (((encs l).length : Nat) : Int))) = _
  rw [encs_length]
def cl (ns : List Int) : D := .lst (ns.map D.int)
theorem room1 (e : Str) (ks : List Str) : dIx (room e ks) (.int 1) = some (.d (.tup [.str "sort", .str (nm "m" e), .tup (ks.map D.str)])) := rfl
theorem room0 (e : Str) (ks : List Str) : dIx (room e ks) (.int 0) = some (.d (.tup [.str "sort", .str (nm "s" e), .tup []])) := rfl
theorem room2 (e : Str) (ks : List Str) : dIx (room e ks) (.int 2) = some (.d (.tup [.str "func", .str (nm "c" e), .tup [], .str (nm "s" e)])) := rfl
theorem room3 (e : Str) (ks : List Str) : dIx (room e ks) (.int 3) = some (.d (.tup [.str "func", .str (nm "f" e), .tup [.str (nm "s" e)], .str (nm "s" e)])) := rfl
theorem room4 (e : Str) (ks : List Str) : dIx (room e ks) (.int 4) = some (.d (.tup [.str "func", .str (nm "g" e), .tup [.str (nm "s" e), .str (nm "m" e)], .str (nm "s" e)])) := rfl
theorem room5 (e : Str) (ks : List Str) : dIx (room e ks) (.int 5) = some (.d (.tup [.str "rel", .str (nm "p" e), .tup [.str (nm "s" e)]])) := rfl
theorem room6 (e : Str) (ks : List Str) : dIx (room e ks) (.int 6) = some (.d (.tup [.str "rel", .str (nm "q" e), .tup [.str (nm "s" e), .str (nm "m" e)]])) := rfl
theorem room7 (e : Str) (ks : List Str) : dIx (room e ks) (.int 7) = some (.d (.tup [.str "rel", .str (nm "z" e), .tup []])) := rfl
theorem i31 (a b c : D) : dIx (.tup [a, b, c]) (.int 1) = some (.d b) := rfl
theorem i32 (a b c : D) : dIx (.tup [a, b, c]) (.int 2) = some (.d c) := rfl
theorem i41 (a b c d : D) : dIx (.tup [a, b, c, d]) (.int 1) = some (.d b) := rfl
/-! loops -/
def rg (k : Nat) : Nat → List D
  | 0 => []
  | n + 1 => .int (k : Int) :: rg (k + 1) n
theorem rg_get : ∀ (n k i : Nat), (rg k n)[i]? = if i < n then some (.int ((k + i : Nat) : Int)) else none
  | 0, k, i => by rw [rg]; simp
  | n + 1, k, 0 => by rw [rg]; simp
  | n + 1, k, i + 1 => by
    rw [rg, List.getElem?_cons_succ, rg_get n (k + 1) i, show k + 1 + i = k + (i + 1) from by omega]
    by_cases q : i < n
    · rw [if_pos q, if_pos (by omega)]
    · rw [if_neg q, if_neg (by omega)]
theorem range_rg (n : Nat) : rangeD 0 n = rg 0 n := by
  refine List.ext_getElem? fun i => ?_
  rw [rg_get]
  unfold rangeD
  rw [List.getElem?_map]
  by_cases q : i < n
  · rw [if_pos q, List.getElem?_range q, Option.map_some]; simp
  · rw [if_neg q, List.getElem?_eq_none (by rw [List.length_range]; omega)]; rfl
theorem for_inv {kk : D → Z (List MO) → Option (Z (List MO))} {b : Sm MX Out} {N : Nat} (Inv : Nat → Z (List MO) → Prop) (step : ∀ i z, i < N → Inv i z → ∃ z1 z2, kk (.int (i : Int)) z = some z1 ∧ b z1 = .ok .nx z2 ∧ Inv (i + 1) z2) : ∀ (n i : Nat) (z : Z (List MO)), i + n = N → Inv i z → ∃ z', forL (M := MX) kk b (rg i n) z = .ok .nx z' ∧ Inv N z'
  | 0, i, z, h, hi => ⟨z, rfl, by rw [← h]; exact hi⟩
  | n + 1, i, z, h, hi => by
    obtain ⟨z1, z2, e1, e2, i2⟩ := step i z (by omega) hi
    obtain ⟨z', e, i3⟩ := for_inv Inv step n (i + 1) z2 (by omega) i2
    refine ⟨z', ?_, i3⟩
    rw [rg]
    conv => lhs; unfold forL
    simp only [e1]
    rw [e2]
    exact e
theorem for_list {kk : D → Z (List MO) → Option (Z (List MO))} {b : Sm MX Out} (Inv : Z (List MO) → Prop) : ∀ (ds : List D) (z : Z (List MO)), (∀ d ∈ ds, ∀ z, Inv z → ∃ z1 z2, kk d z = some z1 ∧ b z1 = .ok .nx z2 ∧ Inv z2) → Inv z → ∃ z', forL (M := MX) kk b ds z = .ok .nx z' ∧ Inv z'
  | [], z, _, hi => ⟨z, rfl, hi⟩
  | d :: r, z, step, hi => by
    obtain ⟨z1, z2, e1, e2, i2⟩ := step d List.mem_cons_self z hi
    obtain ⟨z', e, i3⟩ := for_list Inv r z2 (fun x hx => step x (List.mem_cons_of_mem _ hx)) i2
    refine ⟨z', ?_, i3⟩
    conv => lhs; unfold forL
    simp only [e1]
    rw [e2]
    exact e
theorem rg1_it {g : Sm MX (List S)} {z z1 : Z (List MO)} {j : Int} (h : g z = .ok [.d (.int j)] z1) (h0 : 0 ≤ j) (h1 : j ≤ 1000000) : (iRg1M g : Sm MX (List D)) z = .ok (rg 0 j.toNat) z1 := by
  unfold iRg1M
  rw [h, Rs.bind_ok]
  show (if -(2 ^ 62) ≤ j ∧ j < 2 ^ 62 then Rs.ok (rangeD 0 j.toNat) z1 else .bad) = _
  rw [if_pos (by omega), range_rg]
mutual
theorem dep_enc : ∀ t : Th, dep (enc t) ≤ 2 * depth t
  | .var v => by simp [enc, dep, deps, depth]
  | .call f as => by have := deps_encs as; simp only [enc, dep, deps, depth]; omega
  | .rel f as => by have := deps_encs as; simp only [enc, dep, deps, depth]; omega
  | .same a b => by have := dep_enc a; have := dep_enc b; simp only [enc, dep, deps, depth]; omega
  | .no => by simp [enc, dep, deps, depth]
  | .and a b => by have := dep_enc a; have := dep_enc b; simp only [enc, dep, deps, depth]; omega
  | .or a b => by have := dep_enc a; have := dep_enc b; simp only [enc, dep, deps, depth]; omega
  | .imp a b => by have := dep_enc a; have := dep_enc b; simp only [enc, dep, deps, depth]; omega
  | .all s a => by have := dep_enc a; simp only [enc, dep, deps, depth]; omega
  | .some s a => by have := dep_enc a; simp only [enc, dep, deps, depth]; omega
theorem deps_encs : ∀ ts : List Th, deps (encs ts) ≤ 2 * depths ts
  | [] => by simp [encs, deps, depths]
  | t :: r => by have := dep_enc t; have := deps_encs r; simp only [encs, deps, depths]; omega
end
mutual
theorem eqD_refl : ∀ d : D, eqD d d = true
  | .non => by simp [eqD, toPy, PyData.eqv]
  | .bl b => by simp [eqD, toPy, PyData.eqv]
  | .int i => by simp [eqD, toPy, PyData.eqv]
  | .str x => by simp [eqD, toPy, PyData.eqv]
  | .tup xs => by rw [eqD_tup]; exact eqDs_refl xs
  | .lst xs => by rw [eqD_lst]; exact eqDs_refl xs
  | .scr ns => by unfold eqD; exact SeqAt.eqv_refl _ (by rw [canLay_toPy, lay]; all_goals (intros; simp_all))
  | .emp => by simp [eqD, toPy, PyData.eqv]
  | .exc _ _ => by simp [eqD, toPy, PyData.eqv]
  | .o _ => by simp [eqD, toPy, PyData.eqv]
theorem eqDs_refl : ∀ ds : List D, eqDs ds ds = true
  | [] => by rw [eqDs]
  | d :: r => by rw [eqDs, eqD_refl d, eqDs_refl r]; rfl
end
mutual
theorem eqE : ∀ a b : Th, eqD (enc a) (enc b) = true ↔ a = b
  | .var x, b => by cases b <;> simp [enc, eqD_tup, eqDs, eqD_str, eqD_int, ofString_beq]
  | .call f as, b => by have h := eqEs as; cases b <;> simp [enc, eqD_tup, eqDs, eqD_str, eqD_int, ofString_beq, h]
  | .rel f as, b => by have h := eqEs as; cases b <;> simp [enc, eqD_tup, eqDs, eqD_str, eqD_int, ofString_beq, h]
  | .same x y, b => by have h := eqE x; have h2 := eqE y; cases b <;> simp [enc, eqD_tup, eqDs, eqD_str, eqD_int, ofString_beq, h, h2]
  | .no, b => by cases b <;> simp [enc, eqD_tup, eqDs, eqD_str, eqD_int, ofString_beq]
  | .and x y, b => by have h := eqE x; have h2 := eqE y; cases b <;> simp [enc, eqD_tup, eqDs, eqD_str, eqD_int, ofString_beq, h, h2]
  | .or x y, b => by have h := eqE x; have h2 := eqE y; cases b <;> simp [enc, eqD_tup, eqDs, eqD_str, eqD_int, ofString_beq, h, h2]
  | .imp x y, b => by have h := eqE x; have h2 := eqE y; cases b <;> simp [enc, eqD_tup, eqDs, eqD_str, eqD_int, ofString_beq, h, h2]
  | .all s x, b => by have h := eqE x; cases b <;> simp [enc, eqD_tup, eqDs, eqD_str, eqD_int, ofString_beq, h]
  | .some s x, b => by have h := eqE x; cases b <;> simp [enc, eqD_tup, eqDs, eqD_str, eqD_int, ofString_beq, h]
theorem eqEs : ∀ as bs : List Th, eqDs (encs as) (encs bs) = true ↔ as = bs
  | [], bs => by cases bs <;> simp [encs, eqDs]
  | a :: r, bs => by have h := eqE a; have h2 := eqEs r; cases bs <;> simp [encs, eqDs, h, h2]
end
def eqT (a b : Th) : Bool := eqD (enc a) (enc b)
theorem eqT_iff {a b : Th} : eqT a b = true ↔ a = b := eqE a b
theorem eqT_no {a b : Th} : eqT a b = false ↔ a ≠ b := by
  rw [← Bool.not_eq_true, eqT_iff]
theorem eqT_self (a : Th) : eqT a a = true := eqT_iff.mpr rfl
theorem eqOkT {a b : Th} (ha : nms a = true) (hb : nms b = true) (hd : depth b ≤ 150) : eqOk (enc a) (enc b) = true := by
  have d := dep_enc b
  unfold eqOk
  rw [lay_enc, lay_enc, ha, hb, decide_eq_true (by omega)]
  rfl
theorem eq_enc {a b : Th} (ha : nms a = true) (hb : nms b = true) (hd : depth b ≤ 150) : dEq (enc a) (enc b) = some (.d (.bl (eqT a b))) := by
  unfold dEq
  rw [if_pos (eqOkT ha hb hd)]
  rfl
theorem ne_enc {a b : Th} (ha : nms a = true) (hb : nms b = true) (hd : depth b ≤ 150) : dNe (enc a) (enc b) = some (.d (.bl (!eqT a b))) := by
  unfold dNe
  rw [if_pos (eqOkT ha hb hd)]
  rfl
/-- induction over a thing by its kids -/
theorem kids_ind {P : Th → Prop} (h : ∀ t, (∀ u ∈ kids t, P u) → P t) (t : Th) : P t := by
  have : ∀ n, ∀ t, size t ≤ n → P t := by
    intro n
    induction n with
    | zero => intro t ht; rw [size_kids] at ht; omega
    | succ n ih =>
      intro t ht
      refine h t fun u hu => ih u ?_
      have := mem_sizes hu
      rw [size_kids] at ht
      omega
  exact this (size t) t (Nat.le_refl _)
theorem varOf {p : Th} (h : isVar p = true) : ∃ x, p = .var x := by
  cases p with
  | var x => exact ⟨x, rfl⟩
  | _ => cases h
theorem rg_map (n : Nat) : rg 0 n = (List.range n).map fun (i : Nat) => D.int (i : Int) := by
  refine List.ext_getElem? fun i => ?_
  rw [rg_get, List.getElem?_map]
  by_cases q : i < n
  · rw [if_pos q, List.getElem?_range q, Option.map_some, Nat.zero_add]
  · rw [if_neg q, List.getElem?_eq_none (by rw [List.length_range]; omega)]; rfl
end L
set_option pp.maxSteps 400
set_option pp.deepTerms false
namespace L
open PySem L2 G
local macro_rules | `(tactic| walk_at "ex") => `(tactic| try simp only [sSeq, sSet, sExpr, sRet, sIf, sAsg, una, escf, escS, opd, eVar, eC, eBin, eUn, eFn, eCall, eTup, eLst, aCons, aNil, fin, rd, rds, R.toS, dsOf, Rs.bind_ok, Rs.bind_bad, Rs.bind_ex, Rs.opt_some, Option.bind_some, Option.map_some, ownAt, eExt, eApp, ePop, List.getElem?_cons_zero, List.getElem?_cons_succ, List.set_cons_zero, List.set_cons_succ, okArg, List.all_cons, List.all_nil, Bool.and_self, if_true, kName, kTup, ksCons, ksNil, fMax, tOf, List.length_cons, List.length_nil, Bool.not_false, Bool.not_true, if_false, Bool.false_eq_true, lm0, lm1, lm2, lm3, lm4, lm5, lm6, lm7, lm8, lm9, lm10, lm11, lm12, fnM, List.map_cons, List.map_nil, List.replicate, List.cons_append, List.nil_append, Nat.reduceAdd, Nat.reduceSub, sNil, tAndM, tOrM, tNotM, tTru, dTru, eIf, dSub_i, dAdd_i, dLt_i, dLe_i, dGt_i, dGe_i, dEq_i, decide_true, decide_false, eChain, eAndM, eSl, oInt, dNeg, dIx, atI0, atI1, atI2, aDef, fTuple, wv_var, wc_var, wj_var, wb_var, wv_call, wc_call, wj_call, wb_call, wv_rel, wc_rel, wj_rel, wb_rel, wv_same, wc_same, wj_same, wb_same, wv_no, wc_no, wj_no, wb_no, wv_and, wc_and, wj_and, wb_and, wv_or, wc_or, wj_or, wb_or, wv_if, wc_if, wj_if, wb_if, wv_all, wc_all, wj_all, wb_all, wv_some, wc_some, wj_some, wb_some])
local macro_rules | `(tactic| walk_at "ey") => `(tactic| try simp only [sSeq, sSet, sExpr, sRet, sIf, sAsg, una, escf, escS, opd, eVar, eC, eBin, eUn, eFn, eCall, eTup, eLst, aCons, aNil, fin, rd, rds, R.toS, dsOf, Rs.bind_ok, Rs.bind_bad, Rs.bind_ex, Rs.opt_some, Option.bind_some, Option.map_some, ownAt, eExt, eApp, ePop, List.getElem?_cons_zero, List.getElem?_cons_succ, List.set_cons_zero, List.set_cons_succ, okArg, List.all_cons, List.all_nil, Bool.and_self, if_true, kName, kTup, ksCons, ksNil, fMax, tOf, List.length_cons, List.length_nil, Bool.not_false, Bool.not_true, if_false, Bool.false_eq_true, lm0, lm1, lm2, lm3, lm4, lm5, lm6, lm7, lm8, lm9, lm10, lm11, lm12, fnM, List.map_cons, List.map_nil, List.replicate, List.cons_append, List.nil_append, Nat.reduceAdd, Nat.reduceSub, sNil, tAndM, tOrM, tNotM, tTru, dTru, eIf, dSub_i, dAdd_i, dLt_i, dLe_i, dGt_i, dGe_i, dEq_i, decide_true, decide_false, eChain, eAndM, eSl, oInt, dNeg, fInt, aDef, fTuple])

/-! what a Known is in the store -/
theorem memK : ((Str.ofString "Known") ∈ [Str.ofString "Known"]) := List.mem_singleton.mpr rfl
theorem memR : ((Str.ofString "Rule") ∈ [Str.ofString "Rule"]) := List.mem_singleton.mpr rfl
theorem gA0 {α : Type} (G : List α) (x : α) (r : List α) : (G ++ x :: r)[G.length]? = some x := by
  rw [List.getElem?_append_right (Nat.le_refl _), Nat.sub_self]
  rfl
theorem gAk {α : Type} (G r : List α) (k : Nat) : (G ++ r)[G.length + k]? = r[k]? := by
  rw [List.getElem?_append_right (Nat.le_add_right _ _), Nat.add_sub_cancel_left]
theorem gP {α : Type} {G : List α} {n : Nat} {x : α} (h : G[n]? = some x) {r : List α} : (G ++ r)[n]? = some x := by
  rw [List.getElem?_append_left (List.getElem?_eq_some_iff.mp h).1]
  exact h
theorem sA0 {α : Type} (G : List α) (x y : α) (r : List α) : (G ++ x :: r).set G.length y = G ++ y :: r := by
  rw [List.set_append_right _ _ (Nat.le_refl _), Nat.sub_self]
  rfl
theorem sAk {α : Type} (G r : List α) (y : α) (k : Nat) : (G ++ r).set (G.length + k) y = G ++ r.set k y := by
  rw [List.set_append_right _ _ (Nat.le_add_right _ _), Nat.add_sub_cancel_left]
theorem lA {α : Type} (G r : List α) : (G ++ r).length = G.length + r.length := List.length_append
theorem pI0 (d : D) : putFD (Str.ofString "told_sorts") d [] = [((Str.ofString "told_sorts"), d)] := by kernel_rfl
theorem pF0 (a0 a1 a2 a3 a4 d : D) : putFD (Str.ofString "told_sorts") d [((Str.ofString "told_sorts"), a0), ((Str.ofString "told_calls"), a1), ((Str.ofString "told_rels"), a2), ((Str.ofString "told_means"), a3), ((Str.ofString "told_facts"), a4)] = [((Str.ofString "told_sorts"), d), ((Str.ofString "told_calls"), a1), ((Str.ofString "told_rels"), a2), ((Str.ofString "told_means"), a3), ((Str.ofString "told_facts"), a4)] := by kernel_rfl
theorem lF0 (a0 a1 a2 a3 a4 : D) : List.lookup (Str.ofString "told_sorts") [((Str.ofString "told_sorts"), a0), ((Str.ofString "told_calls"), a1), ((Str.ofString "told_rels"), a2), ((Str.ofString "told_means"), a3), ((Str.ofString "told_facts"), a4)] = some a0 := by kernel_rfl
theorem pI1 (a0 d : D) : putFD (Str.ofString "told_calls") d [((Str.ofString "told_sorts"), a0)] = [((Str.ofString "told_sorts"), a0), ((Str.ofString "told_calls"), d)] := by kernel_rfl
theorem pF1 (a0 a1 a2 a3 a4 d : D) : putFD (Str.ofString "told_calls") d [((Str.ofString "told_sorts"), a0), ((Str.ofString "told_calls"), a1), ((Str.ofString "told_rels"), a2), ((Str.ofString "told_means"), a3), ((Str.ofString "told_facts"), a4)] = [((Str.ofString "told_sorts"), a0), ((Str.ofString "told_calls"), d), ((Str.ofString "told_rels"), a2), ((Str.ofString "told_means"), a3), ((Str.ofString "told_facts"), a4)] := by kernel_rfl
theorem lF1 (a0 a1 a2 a3 a4 : D) : List.lookup (Str.ofString "told_calls") [((Str.ofString "told_sorts"), a0), ((Str.ofString "told_calls"), a1), ((Str.ofString "told_rels"), a2), ((Str.ofString "told_means"), a3), ((Str.ofString "told_facts"), a4)] = some a1 := by kernel_rfl
theorem pI2 (a0 a1 d : D) : putFD (Str.ofString "told_rels") d [((Str.ofString "told_sorts"), a0), ((Str.ofString "told_calls"), a1)] = [((Str.ofString "told_sorts"), a0), ((Str.ofString "told_calls"), a1), ((Str.ofString "told_rels"), d)] := by kernel_rfl
theorem pF2 (a0 a1 a2 a3 a4 d : D) : putFD (Str.ofString "told_rels") d [((Str.ofString "told_sorts"), a0), ((Str.ofString "told_calls"), a1), ((Str.ofString "told_rels"), a2), ((Str.ofString "told_means"), a3), ((Str.ofString "told_facts"), a4)] = [((Str.ofString "told_sorts"), a0), ((Str.ofString "told_calls"), a1), ((Str.ofString "told_rels"), d), ((Str.ofString "told_means"), a3), ((Str.ofString "told_facts"), a4)] := by kernel_rfl
theorem lF2 (a0 a1 a2 a3 a4 : D) : List.lookup (Str.ofString "told_rels") [((Str.ofString "told_sorts"), a0), ((Str.ofString "told_calls"), a1), ((Str.ofString "told_rels"), a2), ((Str.ofString "told_means"), a3), ((Str.ofString "told_facts"), a4)] = some a2 := by kernel_rfl
theorem pI3 (a0 a1 a2 d : D) : putFD (Str.ofString "told_means") d [((Str.ofString "told_sorts"), a0), ((Str.ofString "told_calls"), a1), ((Str.ofString "told_rels"), a2)] = [((Str.ofString "told_sorts"), a0), ((Str.ofString "told_calls"), a1), ((Str.ofString "told_rels"), a2), ((Str.ofString "told_means"), d)] := by kernel_rfl
theorem pF3 (a0 a1 a2 a3 a4 d : D) : putFD (Str.ofString "told_means") d [((Str.ofString "told_sorts"), a0), ((Str.ofString "told_calls"), a1), ((Str.ofString "told_rels"), a2), ((Str.ofString "told_means"), a3), ((Str.ofString "told_facts"), a4)] = [((Str.ofString "told_sorts"), a0), ((Str.ofString "told_calls"), a1), ((Str.ofString "told_rels"), a2), ((Str.ofString "told_means"), d), ((Str.ofString "told_facts"), a4)] := by kernel_rfl
theorem lF3 (a0 a1 a2 a3 a4 : D) : List.lookup (Str.ofString "told_means") [((Str.ofString "told_sorts"), a0), ((Str.ofString "told_calls"), a1), ((Str.ofString "told_rels"), a2), ((Str.ofString "told_means"), a3), ((Str.ofString "told_facts"), a4)] = some a3 := by kernel_rfl
theorem pI4 (a0 a1 a2 a3 d : D) : putFD (Str.ofString "told_facts") d [((Str.ofString "told_sorts"), a0), ((Str.ofString "told_calls"), a1), ((Str.ofString "told_rels"), a2), ((Str.ofString "told_means"), a3)] = [((Str.ofString "told_sorts"), a0), ((Str.ofString "told_calls"), a1), ((Str.ofString "told_rels"), a2), ((Str.ofString "told_means"), a3), ((Str.ofString "told_facts"), d)] := by kernel_rfl
theorem pF4 (a0 a1 a2 a3 a4 d : D) : putFD (Str.ofString "told_facts") d [((Str.ofString "told_sorts"), a0), ((Str.ofString "told_calls"), a1), ((Str.ofString "told_rels"), a2), ((Str.ofString "told_means"), a3), ((Str.ofString "told_facts"), a4)] = [((Str.ofString "told_sorts"), a0), ((Str.ofString "told_calls"), a1), ((Str.ofString "told_rels"), a2), ((Str.ofString "told_means"), a3), ((Str.ofString "told_facts"), d)] := by kernel_rfl
theorem lF4 (a0 a1 a2 a3 a4 : D) : List.lookup (Str.ofString "told_facts") [((Str.ofString "told_sorts"), a0), ((Str.ofString "told_calls"), a1), ((Str.ofString "told_rels"), a2), ((Str.ofString "told_means"), a3), ((Str.ofString "told_facts"), a4)] = some a4 := by kernel_rfl
theorem lM_again (a0 a1 a2 a3 a4 : D) : List.lookup (Str.ofString "again") [((Str.ofString "told_sorts"), a0), ((Str.ofString "told_calls"), a1), ((Str.ofString "told_rels"), a2), ((Str.ofString "told_means"), a3), ((Str.ofString "told_facts"), a4)] = none := by kernel_rfl
theorem lM_with_entry (a0 a1 a2 a3 a4 : D) : List.lookup (Str.ofString "with_entry") [((Str.ofString "told_sorts"), a0), ((Str.ofString "told_calls"), a1), ((Str.ofString "told_rels"), a2), ((Str.ofString "told_means"), a3), ((Str.ofString "told_facts"), a4)] = none := by kernel_rfl
theorem lM_statement (a0 a1 a2 a3 a4 : D) : List.lookup (Str.ofString "statement") [((Str.ofString "told_sorts"), a0), ((Str.ofString "told_calls"), a1), ((Str.ofString "told_rels"), a2), ((Str.ofString "told_means"), a3), ((Str.ofString "told_facts"), a4)] = none := by kernel_rfl

section
variable {rho : List (Option S)} {m : List MO} {i j n k d : Nat} {c c' : Str} {fs gs : List (Str × D)} {cs : List Str} {x y : Str} {ps : List (Key × D)}
theorem v_d {d : D} (h : rho[i]? = some (some (.d d))) : (eVar i : Sm MX S) ⟨rho, m⟩ = .ok (.d d) ⟨rho, m⟩ := by
  simp only [eVar, h]
theorem fld_set {f : Sm MX S} {x' : D} {m' : List MO} (h0 : f ⟨rho, m⟩ = .ok (.d x') ⟨rho, m'⟩) (hrho : rho[i]? = some (some (.d (.o n)))) (hm : m'[n]? = some (.ins c fs)) (hc : c ∈ cs) (hl : fs.length < 999) : (sFldM cs x f (eVar i) : Sm MX Out) ⟨rho, m⟩ = .ok .nx ⟨rho, m'.set n (.ins c (putFD x x' fs))⟩ := by
  simp only [sFldM, escf, h0, escS, Rs.bind_ok, opd, v_d hrho, insAt, rd, hm]
  rw [if_pos ⟨hc, hl⟩]
theorem fld_get {f : Sm MX S} {m' : List MO} {d : D} (h0 : f ⟨rho, m⟩ = .ok (.d (.o n)) ⟨rho, m'⟩) (hm : m'[n]? = some (.ins c fs)) (hc : c ∈ cs) (hl : fs.lookup x = some d) : (eFld cs x f : Sm MX S) ⟨rho, m⟩ = .ok (.d d) ⟨rho, m'⟩ := by
  simp only [eFld, opd, h0, Rs.bind_ok, insAt, rd, hm]
  rw [if_pos hc, hl]
theorem fld_new (hrho : rho[i]? = some (some (.d (.o n)))) (hm : (m ++ [MO.dK []])[n]? = some (.ins c fs)) (hc : c ∈ cs) (hl : fs.length < 999) : (sFldM cs x eNewD (eVar i) : Sm MX Out) ⟨rho, m⟩ = .ok .nx ⟨rho, (m ++ [MO.dK []]).set n (.ins c (putFD x (.o m.length) fs))⟩ :=
  fld_set (f := eNewD) rfl hrho hm hc hl
theorem fld_cpy (hj : rho[j]? = some (some (.d (.o k)))) (hrho : rho[i]? = some (some (.d (.o n)))) (hk : m[k]? = some (.ins c' gs)) (hc' : c' ∈ cs) (hy : gs.lookup y = some (.o d)) (hd : m[d]? = some (.dK ps)) (hm : (m ++ [MO.dK ps])[n]? = some (.ins c fs)) (hc : c ∈ cs) (hl : fs.length < 999) :
    (sFldM cs x (eDCopy (eFld cs y (eVar j))) (eVar i) : Sm MX Out) ⟨rho, m⟩ = .ok .nx ⟨rho, (m ++ [MO.dK ps]).set n (.ins c (putFD x (.o m.length) fs))⟩ := by
  refine fld_set (f := eDCopy (eFld cs y (eVar j))) ?_ hrho hm hc hl
  simp only [eDCopy, opd, fld_get (v_d hj) hk hc' hy, Rs.bind_ok, dictAt, rd, hd]
end
theorem init_eq {c : Fn → List S → List MO → Rs S (List MO)} (G : List MO) : fnM 1 (m_Known___init__ c) [.d (.o G.length)] (G ++ [.ins "Known" []]) = .ok (.d .non) (G ++ [MO.ins "Known" [((Str.ofString "told_sorts"), D.o (G.length + 1)), ((Str.ofString "told_calls"), D.o (G.length + 2)), ((Str.ofString "told_rels"), D.o (G.length + 3)), ((Str.ofString "told_means"), D.o (G.length + 4)), ((Str.ofString "told_facts"), D.o (G.length + 5))], MO.dK [], MO.dK [], MO.dK [], MO.dK [], MO.dK []]) := by
  have e0 : (sFldM ["Known"] "told_sorts" eNewD (eVar 0) : Sm MX Out) ⟨[some (.d (.o G.length))], G ++ [MO.ins "Known" []]⟩ = .ok .nx ⟨[some (.d (.o G.length))], G ++ [MO.ins "Known" [((Str.ofString "told_sorts"), D.o (G.length + 1))], MO.dK []]⟩ := by
    rw [fld_new (n := G.length) (c := "Known") rfl (by simp only [List.append_assoc, List.cons_append, List.nil_append]; exact gA0 _ _ _) memK (by simp)]
    simp only [List.append_assoc, List.cons_append, List.nil_append, sA0, lA, List.length_cons, List.length_nil, Nat.reduceAdd, pI0]
  have e1 : (sFldM ["Known"] "told_calls" eNewD (eVar 0) : Sm MX Out) ⟨[some (.d (.o G.length))], G ++ [MO.ins "Known" [((Str.ofString "told_sorts"), D.o (G.length + 1))], MO.dK []]⟩ = .ok .nx ⟨[some (.d (.o G.length))], G ++ [MO.ins "Known" [((Str.ofString "told_sorts"), D.o (G.length + 1)), ((Str.ofString "told_calls"), D.o (G.length + 2))], MO.dK [], MO.dK []]⟩ := by
    rw [fld_new (n := G.length) (c := "Known") rfl (by simp only [List.append_assoc, List.cons_append, List.nil_append]; exact gA0 _ _ _) memK (by simp)]
    simp only [List.append_assoc, List.cons_append, List.nil_append, sA0, lA, List.length_cons, List.length_nil, Nat.reduceAdd, pI1]
  have e2 : (sFldM ["Known"] "told_rels" eNewD (eVar 0) : Sm MX Out) ⟨[some (.d (.o G.length))], G ++ [MO.ins "Known" [((Str.ofString "told_sorts"), D.o (G.length + 1)), ((Str.ofString "told_calls"), D.o (G.length + 2))], MO.dK [], MO.dK []]⟩ = .ok .nx ⟨[some (.d (.o G.length))], G ++ [MO.ins "Known" [((Str.ofString "told_sorts"), D.o (G.length + 1)), ((Str.ofString "told_calls"), D.o (G.length + 2)), ((Str.ofString "told_rels"), D.o (G.length + 3))], MO.dK [], MO.dK [], MO.dK []]⟩ := by
    rw [fld_new (n := G.length) (c := "Known") rfl (by simp only [List.append_assoc, List.cons_append, List.nil_append]; exact gA0 _ _ _) memK (by simp)]
    simp only [List.append_assoc, List.cons_append, List.nil_append, sA0, lA, List.length_cons, List.length_nil, Nat.reduceAdd, pI2]
  have e3 : (sFldM ["Known"] "told_means" eNewD (eVar 0) : Sm MX Out) ⟨[some (.d (.o G.length))], G ++ [MO.ins "Known" [((Str.ofString "told_sorts"), D.o (G.length + 1)), ((Str.ofString "told_calls"), D.o (G.length + 2)), ((Str.ofString "told_rels"), D.o (G.length + 3))], MO.dK [], MO.dK [], MO.dK []]⟩ = .ok .nx ⟨[some (.d (.o G.length))], G ++ [MO.ins "Known" [((Str.ofString "told_sorts"), D.o (G.length + 1)), ((Str.ofString "told_calls"), D.o (G.length + 2)), ((Str.ofString "told_rels"), D.o (G.length + 3)), ((Str.ofString "told_means"), D.o (G.length + 4))], MO.dK [], MO.dK [], MO.dK [], MO.dK []]⟩ := by
    rw [fld_new (n := G.length) (c := "Known") rfl (by simp only [List.append_assoc, List.cons_append, List.nil_append]; exact gA0 _ _ _) memK (by simp)]
    simp only [List.append_assoc, List.cons_append, List.nil_append, sA0, lA, List.length_cons, List.length_nil, Nat.reduceAdd, pI3]
  have e4 : (sFldM ["Known"] "told_facts" eNewD (eVar 0) : Sm MX Out) ⟨[some (.d (.o G.length))], G ++ [MO.ins "Known" [((Str.ofString "told_sorts"), D.o (G.length + 1)), ((Str.ofString "told_calls"), D.o (G.length + 2)), ((Str.ofString "told_rels"), D.o (G.length + 3)), ((Str.ofString "told_means"), D.o (G.length + 4))], MO.dK [], MO.dK [], MO.dK [], MO.dK []]⟩ = .ok .nx ⟨[some (.d (.o G.length))], G ++ [MO.ins "Known" [((Str.ofString "told_sorts"), D.o (G.length + 1)), ((Str.ofString "told_calls"), D.o (G.length + 2)), ((Str.ofString "told_rels"), D.o (G.length + 3)), ((Str.ofString "told_means"), D.o (G.length + 4)), ((Str.ofString "told_facts"), D.o (G.length + 5))], MO.dK [], MO.dK [], MO.dK [], MO.dK [], MO.dK []]⟩ := by
    rw [fld_new (n := G.length) (c := "Known") rfl (by simp only [List.append_assoc, List.cons_append, List.nil_append]; exact gA0 _ _ _) memK (by simp)]
    simp only [List.append_assoc, List.cons_append, List.nil_append, sA0, lA, List.length_cons, List.length_nil, Nat.reduceAdd, pI4]
  rw [fnM_R]
  unfold m_Known___init__
  refine Eq.trans (congrArg fnR ?_) (rfl : fnR (.ok .nx ⟨[some (.d (.o G.length))], G ++ [MO.ins "Known" [((Str.ofString "told_sorts"), D.o (G.length + 1)), ((Str.ofString "told_calls"), D.o (G.length + 2)), ((Str.ofString "told_rels"), D.o (G.length + 3)), ((Str.ofString "told_means"), D.o (G.length + 4)), ((Str.ofString "told_facts"), D.o (G.length + 5))], MO.dK [], MO.dK [], MO.dK [], MO.dK [], MO.dK []]⟩) = _)
  show (sSeq _ _ : Sm MX Out) ⟨[some (.d (.o G.length))], G ++ [MO.ins "Known" []]⟩ = _
  rw [seq_nx e0, seq_nx e1, seq_nx e2, seq_nx e3]
  exact e4

def Kn (m : List MO) (n B : Nat) (f : Str → Option D) : Prop := ∃ (n0 n1 n2 n3 n4 : Nat) (s0 s1 s2 s3 s4 : List (Key × D)), m[n]? = some (MO.ins "Known" [((Str.ofString "told_sorts"), D.o (n0)), ((Str.ofString "told_calls"), D.o (n1)), ((Str.ofString "told_rels"), D.o (n2)), ((Str.ofString "told_means"), D.o (n3)), ((Str.ofString "told_facts"), D.o (n4))]) ∧ (m[n0]? = some (.dK s0) ∧ m[n1]? = some (.dK s1) ∧ m[n2]? = some (.dK s2) ∧ m[n3]? = some (.dK s3) ∧ m[n4]? = some (.dK s4)) ∧ (s0.length ≤ B ∧ s1.length ≤ B ∧ s2.length ≤ B ∧ s3.length ≤ B ∧ s4.length ≤ B) ∧ ∀ x, valD s4 (.inr x) = f x
theorem make_eq {c : Fn → List S → List MO → Rs S (List MO)} (hc : ∀ G, c .Known___init__ [.d (.o (G : List MO).length)] (G ++ [.ins "Known" []]) = .ok (.d .non) (G ++ [MO.ins "Known" [((Str.ofString "told_sorts"), D.o (G.length + 1)), ((Str.ofString "told_calls"), D.o (G.length + 2)), ((Str.ofString "told_rels"), D.o (G.length + 3)), ((Str.ofString "told_means"), D.o (G.length + 4)), ((Str.ofString "told_facts"), D.o (G.length + 5))], MO.dK [], MO.dK [], MO.dK [], MO.dK [], MO.dK []])) (rho : List (Option S)) (G : List MO) : (eMake "Known" (c .Known___init__) aNil : Sm MX S) ⟨rho, G⟩ = .ok (.d (.o G.length)) ⟨rho, G ++ [MO.ins "Known" [((Str.ofString "told_sorts"), D.o (G.length + 1)), ((Str.ofString "told_calls"), D.o (G.length + 2)), ((Str.ofString "told_rels"), D.o (G.length + 3)), ((Str.ofString "told_means"), D.o (G.length + 4)), ((Str.ofString "told_facts"), D.o (G.length + 5))], MO.dK [], MO.dK [], MO.dK [], MO.dK [], MO.dK []]⟩ := by
  simp only [eMake, aNil, Rs.bind_ok, List.all_nil, if_true]
  rw [hc G]
theorem again_eq {c ci : Fn → List S → List MO → Rs S (List MO)} (hc : ∀ G, ci .Known___init__ [.d (.o (G : List MO).length)] (G ++ [.ins "Known" []]) = .ok (.d .non) (G ++ [MO.ins "Known" [((Str.ofString "told_sorts"), D.o (G.length + 1)), ((Str.ofString "told_calls"), D.o (G.length + 2)), ((Str.ofString "told_rels"), D.o (G.length + 3)), ((Str.ofString "told_means"), D.o (G.length + 4)), ((Str.ofString "told_facts"), D.o (G.length + 5))], MO.dK [], MO.dK [], MO.dK [], MO.dK [], MO.dK []])) (G : List MO) (n n0 n1 n2 n3 n4 : Nat) (s0 s1 s2 s3 s4 : List (Key × D)) (hn : G[n]? = some (MO.ins "Known" [((Str.ofString "told_sorts"), D.o (n0)), ((Str.ofString "told_calls"), D.o (n1)), ((Str.ofString "told_rels"), D.o (n2)), ((Str.ofString "told_means"), D.o (n3)), ((Str.ofString "told_facts"), D.o (n4))])) (h0 : G[n0]? = some (.dK s0)) (h1 : G[n1]? = some (.dK s1)) (h2 : G[n2]? = some (.dK s2)) (h3 : G[n3]? = some (.dK s3)) (h4 : G[n4]? = some (.dK s4)) :
    fnM 2 (m_Known_again c ci) [.d (.o n)] G = .ok (.d (.o G.length)) (G ++ [MO.ins "Known" [((Str.ofString "told_sorts"), D.o (G.length + 6)), ((Str.ofString "told_calls"), D.o (G.length + 7)), ((Str.ofString "told_rels"), D.o (G.length + 8)), ((Str.ofString "told_means"), D.o (G.length + 9)), ((Str.ofString "told_facts"), D.o (G.length + 10))], MO.dK [], MO.dK [], MO.dK [], MO.dK [], MO.dK [], MO.dK s0, MO.dK s1, MO.dK s2, MO.dK s3, MO.dK s4]) := by
  have e0 : (sFldM ["Known"] "told_sorts" (eDCopy (eFld ["Known"] "told_sorts" (eVar 0))) (eVar 1) : Sm MX Out) ⟨[some (.d (.o n)), some (.d (.o G.length))], G ++ [MO.ins "Known" [((Str.ofString "told_sorts"), D.o (G.length + 1)), ((Str.ofString "told_calls"), D.o (G.length + 2)), ((Str.ofString "told_rels"), D.o (G.length + 3)), ((Str.ofString "told_means"), D.o (G.length + 4)), ((Str.ofString "told_facts"), D.o (G.length + 5))], MO.dK [], MO.dK [], MO.dK [], MO.dK [], MO.dK []]⟩ = .ok .nx ⟨[some (.d (.o n)), some (.d (.o G.length))], G ++ [MO.ins "Known" [((Str.ofString "told_sorts"), D.o (G.length + 6)), ((Str.ofString "told_calls"), D.o (G.length + 2)), ((Str.ofString "told_rels"), D.o (G.length + 3)), ((Str.ofString "told_means"), D.o (G.length + 4)), ((Str.ofString "told_facts"), D.o (G.length + 5))], MO.dK [], MO.dK [], MO.dK [], MO.dK [], MO.dK [], MO.dK s0]⟩ := by
    rw [fld_cpy (n := G.length) (c := "Known") (c' := "Known") (k := n) (d := n0) (ps := s0) rfl rfl (gP hn) memK (lF0 _ _ _ _ _) (gP h0) (by simp only [List.append_assoc, List.cons_append, List.nil_append]; exact gA0 _ _ _) memK (by simp)]
    simp only [List.append_assoc, List.cons_append, List.nil_append, sA0, lA, List.length_cons, List.length_nil, Nat.reduceAdd, pF0]
  have e1 : (sFldM ["Known"] "told_calls" (eDCopy (eFld ["Known"] "told_calls" (eVar 0))) (eVar 1) : Sm MX Out) ⟨[some (.d (.o n)), some (.d (.o G.length))], G ++ [MO.ins "Known" [((Str.ofString "told_sorts"), D.o (G.length + 6)), ((Str.ofString "told_calls"), D.o (G.length + 2)), ((Str.ofString "told_rels"), D.o (G.length + 3)), ((Str.ofString "told_means"), D.o (G.length + 4)), ((Str.ofString "told_facts"), D.o (G.length + 5))], MO.dK [], MO.dK [], MO.dK [], MO.dK [], MO.dK [], MO.dK s0]⟩ = .ok .nx ⟨[some (.d (.o n)), some (.d (.o G.length))], G ++ [MO.ins "Known" [((Str.ofString "told_sorts"), D.o (G.length + 6)), ((Str.ofString "told_calls"), D.o (G.length + 7)), ((Str.ofString "told_rels"), D.o (G.length + 3)), ((Str.ofString "told_means"), D.o (G.length + 4)), ((Str.ofString "told_facts"), D.o (G.length + 5))], MO.dK [], MO.dK [], MO.dK [], MO.dK [], MO.dK [], MO.dK s0, MO.dK s1]⟩ := by
    rw [fld_cpy (n := G.length) (c := "Known") (c' := "Known") (k := n) (d := n1) (ps := s1) rfl rfl (gP hn) memK (lF1 _ _ _ _ _) (gP h1) (by simp only [List.append_assoc, List.cons_append, List.nil_append]; exact gA0 _ _ _) memK (by simp)]
    simp only [List.append_assoc, List.cons_append, List.nil_append, sA0, lA, List.length_cons, List.length_nil, Nat.reduceAdd, pF1]
  have e2 : (sFldM ["Known"] "told_rels" (eDCopy (eFld ["Known"] "told_rels" (eVar 0))) (eVar 1) : Sm MX Out) ⟨[some (.d (.o n)), some (.d (.o G.length))], G ++ [MO.ins "Known" [((Str.ofString "told_sorts"), D.o (G.length + 6)), ((Str.ofString "told_calls"), D.o (G.length + 7)), ((Str.ofString "told_rels"), D.o (G.length + 3)), ((Str.ofString "told_means"), D.o (G.length + 4)), ((Str.ofString "told_facts"), D.o (G.length + 5))], MO.dK [], MO.dK [], MO.dK [], MO.dK [], MO.dK [], MO.dK s0, MO.dK s1]⟩ = .ok .nx ⟨[some (.d (.o n)), some (.d (.o G.length))], G ++ [MO.ins "Known" [((Str.ofString "told_sorts"), D.o (G.length + 6)), ((Str.ofString "told_calls"), D.o (G.length + 7)), ((Str.ofString "told_rels"), D.o (G.length + 8)), ((Str.ofString "told_means"), D.o (G.length + 4)), ((Str.ofString "told_facts"), D.o (G.length + 5))], MO.dK [], MO.dK [], MO.dK [], MO.dK [], MO.dK [], MO.dK s0, MO.dK s1, MO.dK s2]⟩ := by
    rw [fld_cpy (n := G.length) (c := "Known") (c' := "Known") (k := n) (d := n2) (ps := s2) rfl rfl (gP hn) memK (lF2 _ _ _ _ _) (gP h2) (by simp only [List.append_assoc, List.cons_append, List.nil_append]; exact gA0 _ _ _) memK (by simp)]
    simp only [List.append_assoc, List.cons_append, List.nil_append, sA0, lA, List.length_cons, List.length_nil, Nat.reduceAdd, pF2]
  have e3 : (sFldM ["Known"] "told_means" (eDCopy (eFld ["Known"] "told_means" (eVar 0))) (eVar 1) : Sm MX Out) ⟨[some (.d (.o n)), some (.d (.o G.length))], G ++ [MO.ins "Known" [((Str.ofString "told_sorts"), D.o (G.length + 6)), ((Str.ofString "told_calls"), D.o (G.length + 7)), ((Str.ofString "told_rels"), D.o (G.length + 8)), ((Str.ofString "told_means"), D.o (G.length + 4)), ((Str.ofString "told_facts"), D.o (G.length + 5))], MO.dK [], MO.dK [], MO.dK [], MO.dK [], MO.dK [], MO.dK s0, MO.dK s1, MO.dK s2]⟩ = .ok .nx ⟨[some (.d (.o n)), some (.d (.o G.length))], G ++ [MO.ins "Known" [((Str.ofString "told_sorts"), D.o (G.length + 6)), ((Str.ofString "told_calls"), D.o (G.length + 7)), ((Str.ofString "told_rels"), D.o (G.length + 8)), ((Str.ofString "told_means"), D.o (G.length + 9)), ((Str.ofString "told_facts"), D.o (G.length + 5))], MO.dK [], MO.dK [], MO.dK [], MO.dK [], MO.dK [], MO.dK s0, MO.dK s1, MO.dK s2, MO.dK s3]⟩ := by
    rw [fld_cpy (n := G.length) (c := "Known") (c' := "Known") (k := n) (d := n3) (ps := s3) rfl rfl (gP hn) memK (lF3 _ _ _ _ _) (gP h3) (by simp only [List.append_assoc, List.cons_append, List.nil_append]; exact gA0 _ _ _) memK (by simp)]
    simp only [List.append_assoc, List.cons_append, List.nil_append, sA0, lA, List.length_cons, List.length_nil, Nat.reduceAdd, pF3]
  have e4 : (sFldM ["Known"] "told_facts" (eDCopy (eFld ["Known"] "told_facts" (eVar 0))) (eVar 1) : Sm MX Out) ⟨[some (.d (.o n)), some (.d (.o G.length))], G ++ [MO.ins "Known" [((Str.ofString "told_sorts"), D.o (G.length + 6)), ((Str.ofString "told_calls"), D.o (G.length + 7)), ((Str.ofString "told_rels"), D.o (G.length + 8)), ((Str.ofString "told_means"), D.o (G.length + 9)), ((Str.ofString "told_facts"), D.o (G.length + 5))], MO.dK [], MO.dK [], MO.dK [], MO.dK [], MO.dK [], MO.dK s0, MO.dK s1, MO.dK s2, MO.dK s3]⟩ = .ok .nx ⟨[some (.d (.o n)), some (.d (.o G.length))], G ++ [MO.ins "Known" [((Str.ofString "told_sorts"), D.o (G.length + 6)), ((Str.ofString "told_calls"), D.o (G.length + 7)), ((Str.ofString "told_rels"), D.o (G.length + 8)), ((Str.ofString "told_means"), D.o (G.length + 9)), ((Str.ofString "told_facts"), D.o (G.length + 10))], MO.dK [], MO.dK [], MO.dK [], MO.dK [], MO.dK [], MO.dK s0, MO.dK s1, MO.dK s2, MO.dK s3, MO.dK s4]⟩ := by
    rw [fld_cpy (n := G.length) (c := "Known") (c' := "Known") (k := n) (d := n4) (ps := s4) rfl rfl (gP hn) memK (lF4 _ _ _ _ _) (gP h4) (by simp only [List.append_assoc, List.cons_append, List.nil_append]; exact gA0 _ _ _) memK (by simp)]
    simp only [List.append_assoc, List.cons_append, List.nil_append, sA0, lA, List.length_cons, List.length_nil, Nat.reduceAdd, pF4]
  have e : (sSet 1 (eMake "Known" (ci .Known___init__) aNil) : Sm MX Out) ⟨[some (.d (.o n)), none], G⟩ = .ok .nx ⟨[some (.d (.o n)), some (.d (.o G.length))], G ++ [MO.ins "Known" [((Str.ofString "told_sorts"), D.o (G.length + 1)), ((Str.ofString "told_calls"), D.o (G.length + 2)), ((Str.ofString "told_rels"), D.o (G.length + 3)), ((Str.ofString "told_means"), D.o (G.length + 4)), ((Str.ofString "told_facts"), D.o (G.length + 5))], MO.dK [], MO.dK [], MO.dK [], MO.dK [], MO.dK []]⟩ := by
    simp only [sSet, una, make_eq hc, Rs.bind_ok, List.set_cons_succ, List.set_cons_zero]
  rw [fnM_R]
  unfold m_Known_again
  refine Eq.trans (congrArg fnR ?_) (rfl : fnR (.ok (.rt (.d (.o G.length))) ⟨[some (.d (.o n)), some (.d (.o G.length))], G ++ [MO.ins "Known" [((Str.ofString "told_sorts"), D.o (G.length + 6)), ((Str.ofString "told_calls"), D.o (G.length + 7)), ((Str.ofString "told_rels"), D.o (G.length + 8)), ((Str.ofString "told_means"), D.o (G.length + 9)), ((Str.ofString "told_facts"), D.o (G.length + 10))], MO.dK [], MO.dK [], MO.dK [], MO.dK [], MO.dK [], MO.dK s0, MO.dK s1, MO.dK s2, MO.dK s3, MO.dK s4]⟩) = _)
  show (sSeq _ _ : Sm MX Out) ⟨[some (.d (.o n)), none], G⟩ = _
  rw [seq_nx e, seq_nx e0, seq_nx e1, seq_nx e2, seq_nx e3, seq_nx e4]
  rfl
end L
set_option pp.maxSteps 400
set_option pp.deepTerms false
namespace L
open PySem L2 G
local macro_rules | `(tactic| walk_at "ex") => `(tactic| try simp only [sSeq, sSet, sExpr, sRet, sIf, sAsg, una, escf, escS, opd, eVar, eC, eBin, eUn, eFn, eCall, eTup, eLst, aCons, aNil, fin, rd, rds, R.toS, dsOf, Rs.bind_ok, Rs.bind_bad, Rs.bind_ex, Rs.opt_some, Option.bind_some, Option.map_some, ownAt, eExt, eApp, ePop, List.getElem?_cons_zero, List.getElem?_cons_succ, List.set_cons_zero, List.set_cons_succ, okArg, List.all_cons, List.all_nil, Bool.and_self, if_true, kName, kTup, ksCons, ksNil, fMax, tOf, List.length_cons, List.length_nil, Bool.not_false, Bool.not_true, if_false, Bool.false_eq_true, lm0, lm1, lm2, lm3, lm4, lm5, lm6, lm7, lm8, lm9, lm10, lm11, lm12, fnM, List.map_cons, List.map_nil, List.replicate, List.cons_append, List.nil_append, Nat.reduceAdd, Nat.reduceSub, sNil, tAndM, tOrM, tNotM, tTru, dTru, eIf, dSub_i, dAdd_i, dLt_i, dLe_i, dGt_i, dGe_i, dEq_i, decide_true, decide_false, eChain, eAndM, eSl, oInt, dNeg, dIx, atI0, atI1, atI2, aDef, fTuple, wv_var, wc_var, wj_var, wb_var, wv_call, wc_call, wj_call, wb_call, wv_rel, wc_rel, wj_rel, wb_rel, wv_same, wc_same, wj_same, wb_same, wv_no, wc_no, wj_no, wb_no, wv_and, wc_and, wj_and, wb_and, wv_or, wc_or, wj_or, wb_or, wv_if, wc_if, wj_if, wb_if, wv_all, wc_all, wj_all, wb_all, wv_some, wc_some, wj_some, wb_some])
local macro_rules | `(tactic| walk_at "ey") => `(tactic| try simp only [sSeq, sSet, sExpr, sRet, sIf, sAsg, una, escf, escS, opd, eVar, eC, eBin, eUn, eFn, eCall, eTup, eLst, aCons, aNil, fin, rd, rds, R.toS, dsOf, Rs.bind_ok, Rs.bind_bad, Rs.bind_ex, Rs.opt_some, Option.bind_some, Option.map_some, ownAt, eExt, eApp, ePop, List.getElem?_cons_zero, List.getElem?_cons_succ, List.set_cons_zero, List.set_cons_succ, okArg, List.all_cons, List.all_nil, Bool.and_self, if_true, kName, kTup, ksCons, ksNil, fMax, tOf, List.length_cons, List.length_nil, Bool.not_false, Bool.not_true, if_false, Bool.false_eq_true, lm0, lm1, lm2, lm3, lm4, lm5, lm6, lm7, lm8, lm9, lm10, lm11, lm12, fnM, List.map_cons, List.map_nil, List.replicate, List.cons_append, List.nil_append, Nat.reduceAdd, Nat.reduceSub, sNil, tAndM, tOrM, tNotM, tTru, dTru, eIf, dSub_i, dAdd_i, dLt_i, dLe_i, dGt_i, dGe_i, dEq_i, decide_true, decide_false, eChain, eAndM, eSl, oInt, dNeg, fInt, aDef, fTuple])

def kst (G : List MO) (s0 s1 s2 s3 s4 : List (Key × D)) : List MO := G ++ [MO.ins "Known" [((Str.ofString "told_sorts"), D.o (G.length + 6)), ((Str.ofString "told_calls"), D.o (G.length + 7)), ((Str.ofString "told_rels"), D.o (G.length + 8)), ((Str.ofString "told_means"), D.o (G.length + 9)), ((Str.ofString "told_facts"), D.o (G.length + 10))], MO.dK [], MO.dK [], MO.dK [], MO.dK [], MO.dK [], MO.dK s0, MO.dK s1, MO.dK s2, MO.dK s3, MO.dK s4]
def wIf : Sm MX Out := (sIf (tOf (eBin dEq (eVar 3) (eC (.str "sort")))) (sSeq (sDPutM (eBin dIx (eVar 1) (eC (.int 2))) (eFld ["Known"] "told_sorts" (eVar 2)) (eVar 4))
    (sFor (iAnyM (eBin dIx (eVar 1) (eC (.int 2)))) (kName 5) (sDPutM (eTup (aCons (escf (eTup aNil)) (aCons (escf (eVar 4)) aNil))) (eFld ["Known"] "told_calls" (eVar 2)) (eVar 5)))) (sIf (tOf (eBin dEq (eVar 3) (eC (.str "func")))) (sDPutM (eTup (aCons (escf (eBin dIx (eVar 1) (eC (.int 2)))) (aCons (escf (eBin dIx (eVar 1) (eC (.int 3)))) aNil))) (eFld ["Known"] "told_calls" (eVar 2)) (eVar 4)) (sIf (tOf (eBin dIn (eVar 3) (eTup (aCons (escf (eC (.str "taken"))) (aCons (escf (eC (.str "shown"))) aNil))))) (sDPutM (eBin dIx (eVar 1) (eC (.int 2))) (eFld ["Known"] "told_facts" (eVar 2)) (eVar 4)) (sSeq (sDPutM (eBin dIx (eVar 1) (eC (.int 2))) (eFld ["Known"] "told_rels" (eVar 2)) (eVar 4))
    (sIf (tOf (eBin dEq (eVar 3) (eC (.str "mean")))) (sDPutM (eBin dIx (eVar 1) (eC (.int 3))) (eFld ["Known"] "told_means" (eVar 2)) (eVar 4)) sNil)))))
theorem if_t {t : Sm MX Bool} {a b : Sm MX Out} {z z1 : Z (List MO)} (h : t z = .ok true z1) : sIf t a b z = a z1 := by
  simp only [sIf, h, Rs.bind_ok, if_true]
theorem if_f {t : Sm MX Bool} {a b : Sm MX Out} {z z1 : Z (List MO)} (h : t z = .ok false z1) : sIf t a b z = b z1 := by
  simp only [sIf, h, Rs.bind_ok, Bool.false_eq_true, if_false]
theorem put_len (ps : List (Key × D)) (k : Key) (d : D) : (putD ps k d).length ≤ ps.length + 1 := by
  unfold putD
  split
  · rw [List.length_map]; omega
  · rw [List.length_append]; simp
theorem val_map (k k' : Key) (d : D) : ∀ ps : List (Key × D), valD (ps.map fun kv => if kv.1 = k then (kv.1, d) else kv) k' = if k = k' then (valD ps k).map (fun _ => d) else valD ps k'
  | [] => by simp [valD]
  | p :: r => by
    rw [List.map_cons]
    by_cases e : p.1 = k
    · rw [if_pos e, valD, valD, valD]
      by_cases e2 : k = k'
      · rw [if_pos (e.trans e2), if_pos e2, if_pos e]; rfl
      · rw [if_neg (fun h => e2 (e.symm.trans h)), if_neg e2, val_map k k' d r, if_neg e2, if_neg (fun h => e2 (e.symm.trans h))]
    · rw [if_neg e, valD, valD, valD]
      by_cases e2 : k = k'
      · rw [if_neg (fun h => e (h.trans e2.symm)), if_pos e2, if_neg e, val_map k k' d r, if_pos e2]
      · rw [if_neg e2, val_map k k' d r, if_neg e2]
theorem val_app (k k' : Key) (d : D) : ∀ ps : List (Key × D), valD (ps ++ [(k, d)]) k' = (valD ps k').or (if k = k' then some d else none)
  | [] => by simp [valD]
  | p :: r => by
    rw [List.cons_append, valD, valD]
    split
    · rfl
    · exact val_app k k' d r
theorem any_val (k : Key) : ∀ ps : List (Key × D), (ps.any fun kv => decide (kv.1 = k)) = (valD ps k).isSome
  | [] => rfl
  | p :: r => by
    rw [List.any_cons, valD, any_val k r]
    by_cases e : p.1 = k <;> simp [e]
theorem val_put (ps : List (Key × D)) (k k' : Key) (d : D) : valD (putD ps k d) k' = if k = k' then some d else valD ps k' := by
  unfold putD
  rw [any_val]
  cases h : valD ps k with
  | none =>
    rw [if_neg (by simp), val_app]
    by_cases e : k = k'
    · subst e; rw [h, if_pos rfl]; rfl
    · rw [if_neg e, if_neg e, Option.or_none]
  | some d' =>
    rw [if_pos (by simp), val_map]
    by_cases e : k = k'
    · rw [if_pos e, if_pos e, h]; rfl
    · rw [if_neg e, if_neg e]
theorem dput0 {rho : List (Option S)} {G : List MO} {s0 s1 s2 s3 s4 : List (Key × D)} {fv fk : Sm MX S} {x : D} {k : Key} {kd : D} (hv : escf fv ⟨rho, kst G s0 s1 s2 s3 s4⟩ = .ok (.d x) ⟨rho, kst G s0 s1 s2 s3 s4⟩) (hrho : rho[2]? = some (some (.d (.o G.length)))) (hk : opd fk ⟨rho, kst G s0 s1 s2 s3 s4⟩ = .ok (.d kd) ⟨rho, kst G s0 s1 s2 s3 s4⟩) (hq : keyD kd = some k) (hl : s0.length < lim) : (sDPutM fv (eFld ["Known"] "told_sorts" (eVar 2)) fk : Sm MX Out) ⟨rho, kst G s0 s1 s2 s3 s4⟩ = .ok .nx ⟨rho, kst G (putD s0 k x) s1 s2 s3 s4⟩ := by
  have q : (eFld ["Known"] "told_sorts" (eVar 2) : Sm MX S) ⟨rho, kst G s0 s1 s2 s3 s4⟩ = .ok (.d (.o (G.length + 6))) ⟨rho, kst G s0 s1 s2 s3 s4⟩ := fld_get (n := G.length) (c := "Known") (v_d hrho) (gA0 _ _ _) memK (lF0 _ _ _ _ _)
  have e : (kst G s0 s1 s2 s3 s4)[G.length + 6]? = some (.dK s0) := gAk _ _ _
  have q2 : opd (eFld ["Known"] "told_sorts" (eVar 2) : Sm MX S) ⟨rho, kst G s0 s1 s2 s3 s4⟩ = .ok (.d (.o (G.length + 6))) ⟨rho, kst G s0 s1 s2 s3 s4⟩ := by simp only [opd, q, Rs.bind_ok]
  simp only [sDPutM, hv, q2, hk, Rs.bind_ok, dictAt, rd, e, Option.bind_some, hq]
  rw [if_pos hl]
  unfold kst
  rw [sAk]
  rfl
theorem dput1 {rho : List (Option S)} {G : List MO} {s0 s1 s2 s3 s4 : List (Key × D)} {fv fk : Sm MX S} {x : D} {k : Key} {kd : D} (hv : escf fv ⟨rho, kst G s0 s1 s2 s3 s4⟩ = .ok (.d x) ⟨rho, kst G s0 s1 s2 s3 s4⟩) (hrho : rho[2]? = some (some (.d (.o G.length)))) (hk : opd fk ⟨rho, kst G s0 s1 s2 s3 s4⟩ = .ok (.d kd) ⟨rho, kst G s0 s1 s2 s3 s4⟩) (hq : keyD kd = some k) (hl : s1.length < lim) : (sDPutM fv (eFld ["Known"] "told_calls" (eVar 2)) fk : Sm MX Out) ⟨rho, kst G s0 s1 s2 s3 s4⟩ = .ok .nx ⟨rho, kst G s0 (putD s1 k x) s2 s3 s4⟩ := by
  have q : (eFld ["Known"] "told_calls" (eVar 2) : Sm MX S) ⟨rho, kst G s0 s1 s2 s3 s4⟩ = .ok (.d (.o (G.length + 7))) ⟨rho, kst G s0 s1 s2 s3 s4⟩ := fld_get (n := G.length) (c := "Known") (v_d hrho) (gA0 _ _ _) memK (lF1 _ _ _ _ _)
  have e : (kst G s0 s1 s2 s3 s4)[G.length + 7]? = some (.dK s1) := gAk _ _ _
  have q2 : opd (eFld ["Known"] "told_calls" (eVar 2) : Sm MX S) ⟨rho, kst G s0 s1 s2 s3 s4⟩ = .ok (.d (.o (G.length + 7))) ⟨rho, kst G s0 s1 s2 s3 s4⟩ := by simp only [opd, q, Rs.bind_ok]
  simp only [sDPutM, hv, q2, hk, Rs.bind_ok, dictAt, rd, e, Option.bind_some, hq]
  rw [if_pos hl]
  unfold kst
  rw [sAk]
  rfl
theorem dput2 {rho : List (Option S)} {G : List MO} {s0 s1 s2 s3 s4 : List (Key × D)} {fv fk : Sm MX S} {x : D} {k : Key} {kd : D} (hv : escf fv ⟨rho, kst G s0 s1 s2 s3 s4⟩ = .ok (.d x) ⟨rho, kst G s0 s1 s2 s3 s4⟩) (hrho : rho[2]? = some (some (.d (.o G.length)))) (hk : opd fk ⟨rho, kst G s0 s1 s2 s3 s4⟩ = .ok (.d kd) ⟨rho, kst G s0 s1 s2 s3 s4⟩) (hq : keyD kd = some k) (hl : s2.length < lim) : (sDPutM fv (eFld ["Known"] "told_rels" (eVar 2)) fk : Sm MX Out) ⟨rho, kst G s0 s1 s2 s3 s4⟩ = .ok .nx ⟨rho, kst G s0 s1 (putD s2 k x) s3 s4⟩ := by
  have q : (eFld ["Known"] "told_rels" (eVar 2) : Sm MX S) ⟨rho, kst G s0 s1 s2 s3 s4⟩ = .ok (.d (.o (G.length + 8))) ⟨rho, kst G s0 s1 s2 s3 s4⟩ := fld_get (n := G.length) (c := "Known") (v_d hrho) (gA0 _ _ _) memK (lF2 _ _ _ _ _)
  have e : (kst G s0 s1 s2 s3 s4)[G.length + 8]? = some (.dK s2) := gAk _ _ _
  have q2 : opd (eFld ["Known"] "told_rels" (eVar 2) : Sm MX S) ⟨rho, kst G s0 s1 s2 s3 s4⟩ = .ok (.d (.o (G.length + 8))) ⟨rho, kst G s0 s1 s2 s3 s4⟩ := by simp only [opd, q, Rs.bind_ok]
  simp only [sDPutM, hv, q2, hk, Rs.bind_ok, dictAt, rd, e, Option.bind_some, hq]
  rw [if_pos hl]
  unfold kst
  rw [sAk]
  rfl
theorem dput3 {rho : List (Option S)} {G : List MO} {s0 s1 s2 s3 s4 : List (Key × D)} {fv fk : Sm MX S} {x : D} {k : Key} {kd : D} (hv : escf fv ⟨rho, kst G s0 s1 s2 s3 s4⟩ = .ok (.d x) ⟨rho, kst G s0 s1 s2 s3 s4⟩) (hrho : rho[2]? = some (some (.d (.o G.length)))) (hk : opd fk ⟨rho, kst G s0 s1 s2 s3 s4⟩ = .ok (.d kd) ⟨rho, kst G s0 s1 s2 s3 s4⟩) (hq : keyD kd = some k) (hl : s3.length < lim) : (sDPutM fv (eFld ["Known"] "told_means" (eVar 2)) fk : Sm MX Out) ⟨rho, kst G s0 s1 s2 s3 s4⟩ = .ok .nx ⟨rho, kst G s0 s1 s2 (putD s3 k x) s4⟩ := by
  have q : (eFld ["Known"] "told_means" (eVar 2) : Sm MX S) ⟨rho, kst G s0 s1 s2 s3 s4⟩ = .ok (.d (.o (G.length + 9))) ⟨rho, kst G s0 s1 s2 s3 s4⟩ := fld_get (n := G.length) (c := "Known") (v_d hrho) (gA0 _ _ _) memK (lF3 _ _ _ _ _)
  have e : (kst G s0 s1 s2 s3 s4)[G.length + 9]? = some (.dK s3) := gAk _ _ _
  have q2 : opd (eFld ["Known"] "told_means" (eVar 2) : Sm MX S) ⟨rho, kst G s0 s1 s2 s3 s4⟩ = .ok (.d (.o (G.length + 9))) ⟨rho, kst G s0 s1 s2 s3 s4⟩ := by simp only [opd, q, Rs.bind_ok]
  simp only [sDPutM, hv, q2, hk, Rs.bind_ok, dictAt, rd, e, Option.bind_some, hq]
  rw [if_pos hl]
  unfold kst
  rw [sAk]
  rfl
theorem dput4 {rho : List (Option S)} {G : List MO} {s0 s1 s2 s3 s4 : List (Key × D)} {fv fk : Sm MX S} {x : D} {k : Key} {kd : D} (hv : escf fv ⟨rho, kst G s0 s1 s2 s3 s4⟩ = .ok (.d x) ⟨rho, kst G s0 s1 s2 s3 s4⟩) (hrho : rho[2]? = some (some (.d (.o G.length)))) (hk : opd fk ⟨rho, kst G s0 s1 s2 s3 s4⟩ = .ok (.d kd) ⟨rho, kst G s0 s1 s2 s3 s4⟩) (hq : keyD kd = some k) (hl : s4.length < lim) : (sDPutM fv (eFld ["Known"] "told_facts" (eVar 2)) fk : Sm MX Out) ⟨rho, kst G s0 s1 s2 s3 s4⟩ = .ok .nx ⟨rho, kst G s0 s1 s2 s3 (putD s4 k x)⟩ := by
  have q : (eFld ["Known"] "told_facts" (eVar 2) : Sm MX S) ⟨rho, kst G s0 s1 s2 s3 s4⟩ = .ok (.d (.o (G.length + 10))) ⟨rho, kst G s0 s1 s2 s3 s4⟩ := fld_get (n := G.length) (c := "Known") (v_d hrho) (gA0 _ _ _) memK (lF4 _ _ _ _ _)
  have e : (kst G s0 s1 s2 s3 s4)[G.length + 10]? = some (.dK s4) := gAk _ _ _
  have q2 : opd (eFld ["Known"] "told_facts" (eVar 2) : Sm MX S) ⟨rho, kst G s0 s1 s2 s3 s4⟩ = .ok (.d (.o (G.length + 10))) ⟨rho, kst G s0 s1 s2 s3 s4⟩ := by simp only [opd, q, Rs.bind_ok]
  simp only [sDPutM, hv, q2, hk, Rs.bind_ok, dictAt, rd, e, Option.bind_some, hq]
  rw [if_pos hl]
  unfold kst
  rw [sAk]
  rfl

theorem wif_func (G : List MO) (s0 s1 s2 s3 s4 : List (Key × D)) (n0 : Nat) (nm : Str) (a r : D) (h0 : s0.length < lim) (h1 : s1.length < lim) (h2 : s2.length < lim) (h3 : s3.length < lim) (h4 : s4.length < lim) : wIf ⟨[some (.d (.o n0)), some (.d (.tup [.str "func", .str nm, a, r])), some (.d (.o G.length)), some (.d (.str "func")), some (.d (.str nm)), none], kst G s0 s1 s2 s3 s4⟩ = .ok .nx ⟨[some (.d (.o n0)), some (.d (.tup [.str "func", .str nm, a, r])), some (.d (.o G.length)), some (.d (.str "func")), some (.d (.str nm)), none], kst G s0 (putD s1 (.inr nm) (.tup [a, r])) s2 s3 s4⟩ := by
  unfold wIf
  have t1 : ((tOf (eBin dEq (eVar 3) (eC (.str "sort")))) : Sm MX Bool) ⟨[some (.d (.o n0)), some (.d (.tup [.str "func", .str nm, a, r])), some (.d (.o G.length)), some (.d (.str "func")), some (.d (.str nm)), none], kst G s0 s1 s2 s3 s4⟩ = .ok false ⟨[some (.d (.o n0)), some (.d (.tup [.str "func", .str nm, a, r])), some (.d (.o G.length)), some (.d (.str "func")), some (.d (.str nm)), none], kst G s0 s1 s2 s3 s4⟩ := by kernel_rfl
  have t2 : ((tOf (eBin dEq (eVar 3) (eC (.str "func")))) : Sm MX Bool) ⟨[some (.d (.o n0)), some (.d (.tup [.str "func", .str nm, a, r])), some (.d (.o G.length)), some (.d (.str "func")), some (.d (.str nm)), none], kst G s0 s1 s2 s3 s4⟩ = .ok true ⟨[some (.d (.o n0)), some (.d (.tup [.str "func", .str nm, a, r])), some (.d (.o G.length)), some (.d (.str "func")), some (.d (.str nm)), none], kst G s0 s1 s2 s3 s4⟩ := by kernel_rfl
  rw [if_f t1]
  rw [if_t t2]
  exact dput1 (kd := .str nm) (by kernel_rfl) rfl (by kernel_rfl) rfl h1
theorem wif_rel (G : List MO) (s0 s1 s2 s3 s4 : List (Key × D)) (n0 : Nat) (nm : Str) (a : D) (h0 : s0.length < lim) (h1 : s1.length < lim) (h2 : s2.length < lim) (h3 : s3.length < lim) (h4 : s4.length < lim) : wIf ⟨[some (.d (.o n0)), some (.d (.tup [.str "rel", .str nm, a])), some (.d (.o G.length)), some (.d (.str "rel")), some (.d (.str nm)), none], kst G s0 s1 s2 s3 s4⟩ = .ok .nx ⟨[some (.d (.o n0)), some (.d (.tup [.str "rel", .str nm, a])), some (.d (.o G.length)), some (.d (.str "rel")), some (.d (.str nm)), none], kst G s0 s1 (putD s2 (.inr nm) a) s3 s4⟩ := by
  unfold wIf
  have t1 : ((tOf (eBin dEq (eVar 3) (eC (.str "sort")))) : Sm MX Bool) ⟨[some (.d (.o n0)), some (.d (.tup [.str "rel", .str nm, a])), some (.d (.o G.length)), some (.d (.str "rel")), some (.d (.str nm)), none], kst G s0 s1 s2 s3 s4⟩ = .ok false ⟨[some (.d (.o n0)), some (.d (.tup [.str "rel", .str nm, a])), some (.d (.o G.length)), some (.d (.str "rel")), some (.d (.str nm)), none], kst G s0 s1 s2 s3 s4⟩ := by kernel_rfl
  have t2 : ((tOf (eBin dEq (eVar 3) (eC (.str "func")))) : Sm MX Bool) ⟨[some (.d (.o n0)), some (.d (.tup [.str "rel", .str nm, a])), some (.d (.o G.length)), some (.d (.str "rel")), some (.d (.str nm)), none], kst G s0 s1 s2 s3 s4⟩ = .ok false ⟨[some (.d (.o n0)), some (.d (.tup [.str "rel", .str nm, a])), some (.d (.o G.length)), some (.d (.str "rel")), some (.d (.str nm)), none], kst G s0 s1 s2 s3 s4⟩ := by kernel_rfl
  rw [if_f t1]
  rw [if_f t2]
  have t3 : ((tOf (eBin dIn (eVar 3) (eTup (aCons (escf (eC (.str "taken"))) (aCons (escf (eC (.str "shown"))) aNil))))) : Sm MX Bool) ⟨[some (.d (.o n0)), some (.d (.tup [.str "rel", .str nm, a])), some (.d (.o G.length)), some (.d (.str "rel")), some (.d (.str nm)), none], kst G s0 s1 s2 s3 s4⟩ = .ok false ⟨[some (.d (.o n0)), some (.d (.tup [.str "rel", .str nm, a])), some (.d (.o G.length)), some (.d (.str "rel")), some (.d (.str nm)), none], kst G s0 s1 s2 s3 s4⟩ := by kernel_rfl
  rw [if_f t3]
  have p1 : ((sDPutM (eBin dIx (eVar 1) (eC (.int 2))) (eFld ["Known"] "told_rels" (eVar 2)) (eVar 4)) : Sm MX Out) ⟨[some (.d (.o n0)), some (.d (.tup [.str "rel", .str nm, a])), some (.d (.o G.length)), some (.d (.str "rel")), some (.d (.str nm)), none], kst G s0 s1 s2 s3 s4⟩ = .ok .nx ⟨[some (.d (.o n0)), some (.d (.tup [.str "rel", .str nm, a])), some (.d (.o G.length)), some (.d (.str "rel")), some (.d (.str nm)), none], kst G s0 s1 (putD s2 (.inr nm) a) s3 s4⟩ := dput2 (kd := .str nm) (by kernel_rfl) rfl (by kernel_rfl) rfl h2
  rw [seq_nx p1]
  have t4 : ((tOf (eBin dEq (eVar 3) (eC (.str "mean")))) : Sm MX Bool) ⟨[some (.d (.o n0)), some (.d (.tup [.str "rel", .str nm, a])), some (.d (.o G.length)), some (.d (.str "rel")), some (.d (.str nm)), none], kst G s0 s1 (putD s2 (.inr nm) a) s3 s4⟩ = .ok false ⟨[some (.d (.o n0)), some (.d (.tup [.str "rel", .str nm, a])), some (.d (.o G.length)), some (.d (.str "rel")), some (.d (.str nm)), none], kst G s0 s1 (putD s2 (.inr nm) a) s3 s4⟩ := by kernel_rfl
  rw [if_f t4]
  rfl
theorem wif_mean (G : List MO) (s0 s1 s2 s3 s4 : List (Key × D)) (n0 : Nat) (nm : Str) (a s : D) (h0 : s0.length < lim) (h1 : s1.length < lim) (h2 : s2.length < lim) (h3 : s3.length < lim) (h4 : s4.length < lim) : wIf ⟨[some (.d (.o n0)), some (.d (.tup [.str "mean", .str nm, a, s])), some (.d (.o G.length)), some (.d (.str "mean")), some (.d (.str nm)), none], kst G s0 s1 s2 s3 s4⟩ = .ok .nx ⟨[some (.d (.o n0)), some (.d (.tup [.str "mean", .str nm, a, s])), some (.d (.o G.length)), some (.d (.str "mean")), some (.d (.str nm)), none], kst G s0 s1 (putD s2 (.inr nm) a) (putD s3 (.inr nm) s) s4⟩ := by
  unfold wIf
  have t1 : ((tOf (eBin dEq (eVar 3) (eC (.str "sort")))) : Sm MX Bool) ⟨[some (.d (.o n0)), some (.d (.tup [.str "mean", .str nm, a, s])), some (.d (.o G.length)), some (.d (.str "mean")), some (.d (.str nm)), none], kst G s0 s1 s2 s3 s4⟩ = .ok false ⟨[some (.d (.o n0)), some (.d (.tup [.str "mean", .str nm, a, s])), some (.d (.o G.length)), some (.d (.str "mean")), some (.d (.str nm)), none], kst G s0 s1 s2 s3 s4⟩ := by kernel_rfl
  have t2 : ((tOf (eBin dEq (eVar 3) (eC (.str "func")))) : Sm MX Bool) ⟨[some (.d (.o n0)), some (.d (.tup [.str "mean", .str nm, a, s])), some (.d (.o G.length)), some (.d (.str "mean")), some (.d (.str nm)), none], kst G s0 s1 s2 s3 s4⟩ = .ok false ⟨[some (.d (.o n0)), some (.d (.tup [.str "mean", .str nm, a, s])), some (.d (.o G.length)), some (.d (.str "mean")), some (.d (.str nm)), none], kst G s0 s1 s2 s3 s4⟩ := by kernel_rfl
  rw [if_f t1]
  rw [if_f t2]
  have t3 : ((tOf (eBin dIn (eVar 3) (eTup (aCons (escf (eC (.str "taken"))) (aCons (escf (eC (.str "shown"))) aNil))))) : Sm MX Bool) ⟨[some (.d (.o n0)), some (.d (.tup [.str "mean", .str nm, a, s])), some (.d (.o G.length)), some (.d (.str "mean")), some (.d (.str nm)), none], kst G s0 s1 s2 s3 s4⟩ = .ok false ⟨[some (.d (.o n0)), some (.d (.tup [.str "mean", .str nm, a, s])), some (.d (.o G.length)), some (.d (.str "mean")), some (.d (.str nm)), none], kst G s0 s1 s2 s3 s4⟩ := by kernel_rfl
  rw [if_f t3]
  have p1 : ((sDPutM (eBin dIx (eVar 1) (eC (.int 2))) (eFld ["Known"] "told_rels" (eVar 2)) (eVar 4)) : Sm MX Out) ⟨[some (.d (.o n0)), some (.d (.tup [.str "mean", .str nm, a, s])), some (.d (.o G.length)), some (.d (.str "mean")), some (.d (.str nm)), none], kst G s0 s1 s2 s3 s4⟩ = .ok .nx ⟨[some (.d (.o n0)), some (.d (.tup [.str "mean", .str nm, a, s])), some (.d (.o G.length)), some (.d (.str "mean")), some (.d (.str nm)), none], kst G s0 s1 (putD s2 (.inr nm) a) s3 s4⟩ := dput2 (kd := .str nm) (by kernel_rfl) rfl (by kernel_rfl) rfl h2
  rw [seq_nx p1]
  have t4 : ((tOf (eBin dEq (eVar 3) (eC (.str "mean")))) : Sm MX Bool) ⟨[some (.d (.o n0)), some (.d (.tup [.str "mean", .str nm, a, s])), some (.d (.o G.length)), some (.d (.str "mean")), some (.d (.str nm)), none], kst G s0 s1 (putD s2 (.inr nm) a) s3 s4⟩ = .ok true ⟨[some (.d (.o n0)), some (.d (.tup [.str "mean", .str nm, a, s])), some (.d (.o G.length)), some (.d (.str "mean")), some (.d (.str nm)), none], kst G s0 s1 (putD s2 (.inr nm) a) s3 s4⟩ := by kernel_rfl
  rw [if_t t4]
  exact dput3 (kd := .str nm) (by kernel_rfl) rfl (by kernel_rfl) rfl h3
theorem wif_taken (G : List MO) (s0 s1 s2 s3 s4 : List (Key × D)) (n0 : Nat) (nm : Str) (t : D) (h0 : s0.length < lim) (h1 : s1.length < lim) (h2 : s2.length < lim) (h3 : s3.length < lim) (h4 : s4.length < lim) : wIf ⟨[some (.d (.o n0)), some (.d (.tup [.str "taken", .str nm, t])), some (.d (.o G.length)), some (.d (.str "taken")), some (.d (.str nm)), none], kst G s0 s1 s2 s3 s4⟩ = .ok .nx ⟨[some (.d (.o n0)), some (.d (.tup [.str "taken", .str nm, t])), some (.d (.o G.length)), some (.d (.str "taken")), some (.d (.str nm)), none], kst G s0 s1 s2 s3 (putD s4 (.inr nm) t)⟩ := by
  unfold wIf
  have t1 : ((tOf (eBin dEq (eVar 3) (eC (.str "sort")))) : Sm MX Bool) ⟨[some (.d (.o n0)), some (.d (.tup [.str "taken", .str nm, t])), some (.d (.o G.length)), some (.d (.str "taken")), some (.d (.str nm)), none], kst G s0 s1 s2 s3 s4⟩ = .ok false ⟨[some (.d (.o n0)), some (.d (.tup [.str "taken", .str nm, t])), some (.d (.o G.length)), some (.d (.str "taken")), some (.d (.str nm)), none], kst G s0 s1 s2 s3 s4⟩ := by kernel_rfl
  have t2 : ((tOf (eBin dEq (eVar 3) (eC (.str "func")))) : Sm MX Bool) ⟨[some (.d (.o n0)), some (.d (.tup [.str "taken", .str nm, t])), some (.d (.o G.length)), some (.d (.str "taken")), some (.d (.str nm)), none], kst G s0 s1 s2 s3 s4⟩ = .ok false ⟨[some (.d (.o n0)), some (.d (.tup [.str "taken", .str nm, t])), some (.d (.o G.length)), some (.d (.str "taken")), some (.d (.str nm)), none], kst G s0 s1 s2 s3 s4⟩ := by kernel_rfl
  rw [if_f t1]
  rw [if_f t2]
  have t3 : ((tOf (eBin dIn (eVar 3) (eTup (aCons (escf (eC (.str "taken"))) (aCons (escf (eC (.str "shown"))) aNil))))) : Sm MX Bool) ⟨[some (.d (.o n0)), some (.d (.tup [.str "taken", .str nm, t])), some (.d (.o G.length)), some (.d (.str "taken")), some (.d (.str nm)), none], kst G s0 s1 s2 s3 s4⟩ = .ok true ⟨[some (.d (.o n0)), some (.d (.tup [.str "taken", .str nm, t])), some (.d (.o G.length)), some (.d (.str "taken")), some (.d (.str nm)), none], kst G s0 s1 s2 s3 s4⟩ := by kernel_rfl
  rw [if_t t3]
  exact dput4 (kd := .str nm) (by kernel_rfl) rfl (by kernel_rfl) rfl h4
theorem wif_shown (G : List MO) (s0 s1 s2 s3 s4 : List (Key × D)) (n0 : Nat) (nm : Str) (t g : D) (h0 : s0.length < lim) (h1 : s1.length < lim) (h2 : s2.length < lim) (h3 : s3.length < lim) (h4 : s4.length < lim) : wIf ⟨[some (.d (.o n0)), some (.d (.tup [.str "shown", .str nm, t, g])), some (.d (.o G.length)), some (.d (.str "shown")), some (.d (.str nm)), none], kst G s0 s1 s2 s3 s4⟩ = .ok .nx ⟨[some (.d (.o n0)), some (.d (.tup [.str "shown", .str nm, t, g])), some (.d (.o G.length)), some (.d (.str "shown")), some (.d (.str nm)), none], kst G s0 s1 s2 s3 (putD s4 (.inr nm) t)⟩ := by
  unfold wIf
  have t1 : ((tOf (eBin dEq (eVar 3) (eC (.str "sort")))) : Sm MX Bool) ⟨[some (.d (.o n0)), some (.d (.tup [.str "shown", .str nm, t, g])), some (.d (.o G.length)), some (.d (.str "shown")), some (.d (.str nm)), none], kst G s0 s1 s2 s3 s4⟩ = .ok false ⟨[some (.d (.o n0)), some (.d (.tup [.str "shown", .str nm, t, g])), some (.d (.o G.length)), some (.d (.str "shown")), some (.d (.str nm)), none], kst G s0 s1 s2 s3 s4⟩ := by kernel_rfl
  have t2 : ((tOf (eBin dEq (eVar 3) (eC (.str "func")))) : Sm MX Bool) ⟨[some (.d (.o n0)), some (.d (.tup [.str "shown", .str nm, t, g])), some (.d (.o G.length)), some (.d (.str "shown")), some (.d (.str nm)), none], kst G s0 s1 s2 s3 s4⟩ = .ok false ⟨[some (.d (.o n0)), some (.d (.tup [.str "shown", .str nm, t, g])), some (.d (.o G.length)), some (.d (.str "shown")), some (.d (.str nm)), none], kst G s0 s1 s2 s3 s4⟩ := by kernel_rfl
  rw [if_f t1]
  rw [if_f t2]
  have t3 : ((tOf (eBin dIn (eVar 3) (eTup (aCons (escf (eC (.str "taken"))) (aCons (escf (eC (.str "shown"))) aNil))))) : Sm MX Bool) ⟨[some (.d (.o n0)), some (.d (.tup [.str "shown", .str nm, t, g])), some (.d (.o G.length)), some (.d (.str "shown")), some (.d (.str nm)), none], kst G s0 s1 s2 s3 s4⟩ = .ok true ⟨[some (.d (.o n0)), some (.d (.tup [.str "shown", .str nm, t, g])), some (.d (.o G.length)), some (.d (.str "shown")), some (.d (.str nm)), none], kst G s0 s1 s2 s3 s4⟩ := by kernel_rfl
  rw [if_t t3]
  exact dput4 (kd := .str nm) (by kernel_rfl) rfl (by kernel_rfl) rfl h4
theorem ws_loop (G : List MO) (s0 s2 s3 s4 : List (Key × D)) (n0 : Nat) (nm : Str) (ks : List Str) : ∀ (ls : List Str) (s1 : List (Key × D)) (x : Option S), s1.length + ls.length < lim → ∃ x' s1', forL (M := MX) (kName 5) (sDPutM (eTup (aCons (escf (eTup aNil)) (aCons (escf (eVar 4)) aNil))) (eFld ["Known"] "told_calls" (eVar 2)) (eVar 5)) (ls.map D.str) ⟨[some (.d (.o n0)), some (.d (.tup [.str "sort", .str nm, .tup (ks.map D.str)])), some (.d (.o G.length)), some (.d (.str "sort")), some (.d (.str nm)), x], kst G s0 s1 s2 s3 s4⟩ = .ok .nx ⟨[some (.d (.o n0)), some (.d (.tup [.str "sort", .str nm, .tup (ks.map D.str)])), some (.d (.o G.length)), some (.d (.str "sort")), some (.d (.str nm)), x'], kst G s0 s1' s2 s3 s4⟩ ∧ s1'.length ≤ s1.length + ls.length
  | [], s1, x, h => ⟨x, s1, rfl, by simp⟩
  | l :: r, s1, x, h => by
    rw [List.length_cons] at h
    have p := put_len s1 (.inr l) (.tup [.tup [], .str nm])
    obtain ⟨x', s1', e, hl⟩ := ws_loop G s0 s2 s3 s4 n0 nm ks r (putD s1 (.inr l) (.tup [.tup [], .str nm])) (some (.d (.str l))) (by omega)
    refine ⟨x', s1', ?_, by rw [List.length_cons]; omega⟩
    have b : ((sDPutM (eTup (aCons (escf (eTup aNil)) (aCons (escf (eVar 4)) aNil))) (eFld ["Known"] "told_calls" (eVar 2)) (eVar 5)) : Sm MX Out) ⟨[some (.d (.o n0)), some (.d (.tup [.str "sort", .str nm, .tup (ks.map D.str)])), some (.d (.o G.length)), some (.d (.str "sort")), some (.d (.str nm)), some (.d (.str l))], kst G s0 s1 s2 s3 s4⟩ = .ok .nx ⟨[some (.d (.o n0)), some (.d (.tup [.str "sort", .str nm, .tup (ks.map D.str)])), some (.d (.o G.length)), some (.d (.str "sort")), some (.d (.str nm)), some (.d (.str l))], kst G s0 (putD s1 (.inr l) (.tup [.tup [], .str nm])) s2 s3 s4⟩ := dput1 (kd := .str l) (by kernel_rfl) rfl (by kernel_rfl) rfl (by omega)
    show (((sDPutM (eTup (aCons (escf (eTup aNil)) (aCons (escf (eVar 4)) aNil))) (eFld ["Known"] "told_calls" (eVar 2)) (eVar 5)) : Sm MX Out) ⟨[some (.d (.o n0)), some (.d (.tup [.str "sort", .str nm, .tup (ks.map D.str)])), some (.d (.o G.length)), some (.d (.str "sort")), some (.d (.str nm)), some (.d (.str l))], kst G s0 s1 s2 s3 s4⟩).bind _ = _
    rw [b]
    exact e
theorem wif_sort (G : List MO) (s0 s1 s2 s3 s4 : List (Key × D)) (n0 : Nat) (nm : Str) (ks : List Str) (h0 : s0.length < lim) (h1 : s1.length + ks.length < lim) : ∃ x' s1', wIf ⟨[some (.d (.o n0)), some (.d (.tup [.str "sort", .str nm, .tup (ks.map D.str)])), some (.d (.o G.length)), some (.d (.str "sort")), some (.d (.str nm)), none], kst G s0 s1 s2 s3 s4⟩ = .ok .nx ⟨[some (.d (.o n0)), some (.d (.tup [.str "sort", .str nm, .tup (ks.map D.str)])), some (.d (.o G.length)), some (.d (.str "sort")), some (.d (.str nm)), x'], kst G (putD s0 (.inr nm) (.tup (ks.map D.str))) s1' s2 s3 s4⟩ ∧ s1'.length ≤ s1.length + ks.length := by
  obtain ⟨x', s1', e, hl⟩ := ws_loop G (putD s0 (.inr nm) (.tup (ks.map D.str))) s2 s3 s4 n0 nm ks ks s1 none (by omega)
  refine ⟨x', s1', ?_, hl⟩
  unfold wIf
  have t1 : ((tOf (eBin dEq (eVar 3) (eC (.str "sort")))) : Sm MX Bool) ⟨[some (.d (.o n0)), some (.d (.tup [.str "sort", .str nm, .tup (ks.map D.str)])), some (.d (.o G.length)), some (.d (.str "sort")), some (.d (.str nm)), none], kst G s0 s1 s2 s3 s4⟩ = .ok true ⟨[some (.d (.o n0)), some (.d (.tup [.str "sort", .str nm, .tup (ks.map D.str)])), some (.d (.o G.length)), some (.d (.str "sort")), some (.d (.str nm)), none], kst G s0 s1 s2 s3 s4⟩ := by kernel_rfl
  rw [if_t t1]
  have p1 : ((sDPutM (eBin dIx (eVar 1) (eC (.int 2))) (eFld ["Known"] "told_sorts" (eVar 2)) (eVar 4)) : Sm MX Out) ⟨[some (.d (.o n0)), some (.d (.tup [.str "sort", .str nm, .tup (ks.map D.str)])), some (.d (.o G.length)), some (.d (.str "sort")), some (.d (.str nm)), none], kst G s0 s1 s2 s3 s4⟩ = .ok .nx ⟨[some (.d (.o n0)), some (.d (.tup [.str "sort", .str nm, .tup (ks.map D.str)])), some (.d (.o G.length)), some (.d (.str "sort")), some (.d (.str nm)), none], kst G (putD s0 (.inr nm) (.tup (ks.map D.str))) s1 s2 s3 s4⟩ := dput0 (kd := .str nm) (by kernel_rfl) rfl (by kernel_rfl) rfl h0
  rw [seq_nx p1]
  refine ci_for (ds := ks.map D.str) ?_ e
  kernel_rfl

inductive En where
  | sort (nm : Str) (ks : List Str)
  | func (nm : Str) (a r : D)
  | rel (nm : Str) (a : D)
  | mean (nm : Str) (a s : D)
  | taken (nm : Str) (t : D)
  | shown (nm : Str) (t g : D)
def encE : En → D
  | .sort nm ks => .tup [.str "sort", .str nm, .tup (ks.map D.str)]
  | .func nm a r => .tup [.str "func", .str nm, a, r]
  | .rel nm a => .tup [.str "rel", .str nm, a]
  | .mean nm a s => .tup [.str "mean", .str nm, a, s]
  | .taken nm t => .tup [.str "taken", .str nm, t]
  | .shown nm t g => .tup [.str "shown", .str nm, t, g]
def En.kd : En → Str
  | .sort _ _ => "sort"
  | .func _ _ _ => "func"
  | .rel _ _ => "rel"
  | .mean _ _ _ => "mean"
  | .taken _ _ => "taken"
  | .shown _ _ _ => "shown"
def En.nm : En → Str
  | .sort n _ => n
  | .func n _ _ => n
  | .rel n _ => n
  | .mean n _ _ => n
  | .taken n _ => n
  | .shown n _ _ => n
def En.w : En → Nat
  | .sort _ ks => ks.length + 1
  | _ => 1
def upF (f : Str → Option D) : En → Str → Option D
  | .taken n t, x => if n = x then some t else f x
  | .shown n t _, x => if n = x then some t else f x
  | _, x => f x
theorem kn_mk (G : List MO) (s0 s1 s2 s3 s4 : List (Key × D)) (B : Nat) (f : Str → Option D) (hb0 : s0.length ≤ B) (hb1 : s1.length ≤ B) (hb2 : s2.length ≤ B) (hb3 : s3.length ≤ B) (hb4 : s4.length ≤ B) (hf : ∀ x, valD s4 (.inr x) = f x) : Kn (kst G s0 s1 s2 s3 s4) G.length B f :=
  ⟨G.length + 6, G.length + 7, G.length + 8, G.length + 9, G.length + 10, s0, s1, s2, s3, s4, gA0 _ _ _, ⟨gAk _ _ _, gAk _ _ _, gAk _ _ _, gAk _ _ _, gAk _ _ _⟩, ⟨hb0, hb1, hb2, hb3, hb4⟩, hf⟩
theorem we_head {c : Fn → List S → List MO → Rs S (List MO)} {C : Sm MX Out} (G : List MO) (s0 s1 s2 s3 s4 : List (Key × D)) (n0 : Nat) (gs : List (Str × D)) (E : En) (hn : G[n0]? = some (.ins "Known" gs)) (hg : gs.lookup (Str.ofString "again") = none) (ha : c .Known_again [.d (.o n0)] G = .ok (.d (.o G.length)) (kst G s0 s1 s2 s3 s4)) :
    (sSeq (sSet 2 (eCall (c .Known_again) (aMeth "Known" "again" (eVar 0) aNil))) (sSeq (sAsg (eSl dSl (eVar 1) (fun z => .ok none z) (oInt (eC (.int 2)))) (kTup 2 (ksCons (kName 3) (ksCons (kName 4) ksNil)))) C) : Sm MX Out) ⟨[some (.d (.o n0)), some (.d (encE E)), none, none, none, none], G⟩ = C ⟨[some (.d (.o n0)), some (.d (encE E)), some (.d (.o G.length)), some (.d (.str E.kd)), some (.d (.str E.nm)), none], kst G s0 s1 s2 s3 s4⟩ := by
  have e1 : ((sSet 2 (eCall (c .Known_again) (aMeth "Known" "again" (eVar 0) aNil))) : Sm MX Out) ⟨[some (.d (.o n0)), some (.d (encE E)), none, none, none, none], G⟩ = .ok .nx ⟨[some (.d (.o n0)), some (.d (encE E)), some (.d (.o G.length)), none, none, none], kst G s0 s1 s2 s3 s4⟩ := by
    have q : (aMeth "Known" "again" (eVar 0) aNil : Sm MX (List S)) ⟨[some (.d (.o n0)), some (.d (encE E)), none, none, none, none], G⟩ = .ok [.d (.o n0)] ⟨[some (.d (.o n0)), some (.d (encE E)), none, none, none, none], G⟩ := by
      simp only [aMeth, opd, eVar, List.getElem?_cons_zero, Rs.bind_ok, insAt, rd, hn]
      rw [if_pos ⟨trivial, hg⟩]
      rfl
    simp only [sSet, una, eCall, q, Rs.bind_ok, List.all_cons, okArg, List.all_nil, Bool.and_self, if_true, ha, List.set_cons_succ, List.set_cons_zero]
  rw [seq_nx e1]
  refine seq_nx ?_
  cases E <;> kernel_rfl
theorem with_entry_eq {c ci : Fn → List S → List MO → Rs S (List MO)} (ha : ∀ (G : List MO) (n n0 n1 n2 n3 n4 : Nat) (s0 s1 s2 s3 s4 : List (Key × D)), G[n]? = some (MO.ins "Known" [((Str.ofString "told_sorts"), D.o (n0)), ((Str.ofString "told_calls"), D.o (n1)), ((Str.ofString "told_rels"), D.o (n2)), ((Str.ofString "told_means"), D.o (n3)), ((Str.ofString "told_facts"), D.o (n4))]) → G[n0]? = some (.dK s0) → G[n1]? = some (.dK s1) → G[n2]? = some (.dK s2) → G[n3]? = some (.dK s3) → G[n4]? = some (.dK s4) → c .Known_again [.d (.o n)] G = .ok (.d (.o G.length)) (kst G s0 s1 s2 s3 s4))
    (G : List MO) (n B : Nat) (f : Str → Option D) (E : En) (hk : Kn G n B f) (hB : B + E.w < lim) : ∃ ext, fnM 6 (m_Known_with_entry c) [.d (.o n), .d (encE E)] G = .ok (.d (.o G.length)) (G ++ ext) ∧ Kn (G ++ ext) G.length (B + E.w) (upF f E) := by
  obtain ⟨n0, n1, n2, n3, n4, s0, s1, s2, s3, s4, hn, ⟨h0, h1, h2, h3, h4⟩, ⟨b0, b1, b2, b3, b4⟩, hf⟩ := hk
  have A := ha G n n0 n1 n2 n3 n4 s0 s1 s2 s3 s4 hn h0 h1 h2 h3 h4
  have wp : 1 ≤ E.w := by cases E <;> simp [En.w]
  have key : ∃ (s0' s1' s2' s3' s4' : List (Key × D)) (x' : Option S), wIf ⟨[some (.d (.o n)), some (.d (encE E)), some (.d (.o G.length)), some (.d (.str E.kd)), some (.d (.str E.nm)), none], kst G s0 s1 s2 s3 s4⟩ = .ok .nx ⟨[some (.d (.o n)), some (.d (encE E)), some (.d (.o G.length)), some (.d (.str E.kd)), some (.d (.str E.nm)), x'], kst G s0' s1' s2' s3' s4'⟩ ∧ Kn (kst G s0' s1' s2' s3' s4') G.length (B + E.w) (upF f E) := by
    cases E with
    | sort nm ks =>
      obtain ⟨x', s1', e, hl⟩ := wif_sort G s0 s1 s2 s3 s4 n nm ks (by omega) (by simp only [En.w] at hB; omega)
      have := put_len s0 (.inr nm) (.tup (ks.map D.str))
      exact ⟨_, _, _, _, _, _, e, kn_mk _ _ _ _ _ _ _ _ (by simp only [En.w]; omega) (by simp only [En.w]; omega) (by omega) (by omega) (by omega) hf⟩
    | func nm a r =>
      have := put_len s1 (.inr nm) (.tup [a, r])
      exact ⟨_, _, _, _, _, _, wif_func G s0 s1 s2 s3 s4 n nm a r (by omega) (by omega) (by omega) (by omega) (by omega), kn_mk _ _ _ _ _ _ _ _ (by omega) (by omega) (by omega) (by omega) (by omega) hf⟩
    | rel nm a =>
      have := put_len s2 (.inr nm) a
      exact ⟨_, _, _, _, _, _, wif_rel G s0 s1 s2 s3 s4 n nm a (by omega) (by omega) (by omega) (by omega) (by omega), kn_mk _ _ _ _ _ _ _ _ (by omega) (by omega) (by omega) (by omega) (by omega) hf⟩
    | mean nm a s =>
      have := put_len s2 (.inr nm) a
      have := put_len s3 (.inr nm) s
      exact ⟨_, _, _, _, _, _, wif_mean G s0 s1 s2 s3 s4 n nm a s (by omega) (by omega) (by omega) (by omega) (by omega), kn_mk _ _ _ _ _ _ _ _ (by omega) (by omega) (by omega) (by omega) (by omega) hf⟩
    | taken nm t =>
      have := put_len s4 (.inr nm) t
      refine ⟨_, _, _, _, _, _, wif_taken G s0 s1 s2 s3 s4 n nm t (by omega) (by omega) (by omega) (by omega) (by omega), kn_mk _ _ _ _ _ _ _ _ (by omega) (by omega) (by omega) (by omega) (by omega) fun x => ?_⟩
      rw [val_put, upF, hf x]
      by_cases e : nm = x
      · rw [if_pos (congrArg Sum.inr e), if_pos e]
      · rw [if_neg (fun h => e (Sum.inr.inj h)), if_neg e]
    | shown nm t g =>
      have := put_len s4 (.inr nm) t
      refine ⟨_, _, _, _, _, _, wif_shown G s0 s1 s2 s3 s4 n nm t g (by omega) (by omega) (by omega) (by omega) (by omega), kn_mk _ _ _ _ _ _ _ _ (by omega) (by omega) (by omega) (by omega) (by omega) fun x => ?_⟩
      rw [val_put, upF, hf x]
      by_cases e : nm = x
      · rw [if_pos (congrArg Sum.inr e), if_pos e]
      · rw [if_neg (fun h => e (Sum.inr.inj h)), if_neg e]
  obtain ⟨s0', s1', s2', s3', s4', x', e, hk⟩ := key
  refine ⟨_, ?_, hk⟩
  rw [fnM_R]
  unfold m_Known_with_entry
  refine Eq.trans (congrArg fnR ?_) (rfl : fnR (.ok (.rt (.d (.o G.length))) ⟨[some (.d (.o n)), some (.d (encE E)), some (.d (.o G.length)), some (.d (.str E.kd)), some (.d (.str E.nm)), x'], kst G s0' s1' s2' s3' s4'⟩) = _)
  refine Eq.trans (we_head G s0 s1 s2 s3 s4 n _ E hn (lM_again _ _ _ _ _) A) ?_
  refine Eq.trans (seq_nx (a := wIf) e) ?_
  rfl
end L
set_option pp.maxSteps 400
set_option pp.deepTerms false
namespace L
open PySem L2 G
local macro_rules | `(tactic| walk_at "ex") => `(tactic| try simp only [sSeq, sSet, sExpr, sRet, sIf, sAsg, una, escf, escS, opd, eVar, eC, eBin, eUn, eFn, eCall, eTup, eLst, aCons, aNil, fin, rd, rds, R.toS, dsOf, Rs.bind_ok, Rs.bind_bad, Rs.bind_ex, Rs.opt_some, Option.bind_some, Option.map_some, ownAt, eExt, eApp, ePop, List.getElem?_cons_zero, List.getElem?_cons_succ, List.set_cons_zero, List.set_cons_succ, okArg, List.all_cons, List.all_nil, Bool.and_self, if_true, kName, kTup, ksCons, ksNil, fMax, tOf, List.length_cons, List.length_nil, Bool.not_false, Bool.not_true, if_false, Bool.false_eq_true, lm0, lm1, lm2, lm3, lm4, lm5, lm6, lm7, lm8, lm9, lm10, lm11, lm12, fnM, List.map_cons, List.map_nil, List.replicate, List.cons_append, List.nil_append, Nat.reduceAdd, Nat.reduceSub, sNil, tAndM, tOrM, tNotM, tTru, dTru, eIf, dSub_i, dAdd_i, dLt_i, dLe_i, dGt_i, dGe_i, dEq_i, decide_true, decide_false, eChain, eAndM, eSl, oInt, dNeg, dIx, atI0, atI1, atI2, aDef, fTuple, wv_var, wc_var, wj_var, wb_var, wv_call, wc_call, wj_call, wb_call, wv_rel, wc_rel, wj_rel, wb_rel, wv_same, wc_same, wj_same, wb_same, wv_no, wc_no, wj_no, wb_no, wv_and, wc_and, wj_and, wb_and, wv_or, wc_or, wj_or, wb_or, wv_if, wc_if, wj_if, wb_if, wv_all, wc_all, wj_all, wb_all, wv_some, wc_some, wj_some, wb_some])
local macro_rules | `(tactic| walk_at "ey") => `(tactic| try simp only [sSeq, sSet, sExpr, sRet, sIf, sAsg, una, escf, escS, opd, eVar, eC, eBin, eUn, eFn, eCall, eTup, eLst, aCons, aNil, fin, rd, rds, R.toS, dsOf, Rs.bind_ok, Rs.bind_bad, Rs.bind_ex, Rs.opt_some, Option.bind_some, Option.map_some, ownAt, eExt, eApp, ePop, List.getElem?_cons_zero, List.getElem?_cons_succ, List.set_cons_zero, List.set_cons_succ, okArg, List.all_cons, List.all_nil, Bool.and_self, if_true, kName, kTup, ksCons, ksNil, fMax, tOf, List.length_cons, List.length_nil, Bool.not_false, Bool.not_true, if_false, Bool.false_eq_true, lm0, lm1, lm2, lm3, lm4, lm5, lm6, lm7, lm8, lm9, lm10, lm11, lm12, fnM, List.map_cons, List.map_nil, List.replicate, List.cons_append, List.nil_append, Nat.reduceAdd, Nat.reduceSub, sNil, tAndM, tOrM, tNotM, tTru, dTru, eIf, dSub_i, dAdd_i, dLt_i, dLe_i, dGt_i, dGe_i, dEq_i, decide_true, decide_false, eChain, eAndM, eSl, oInt, dNeg, fInt, aDef, fTuple])

mutual
def tms (i : Int) : Th → Nat
  | .var v => if v = i then 1 else 0
  | .call _ as => tmss i as
  | .rel _ as => tmss i as
  | .same a b => tms i a + tms i b
  | .no => 0
  | .and a b => tms i a + tms i b
  | .or a b => tms i a + tms i b
  | .imp a b => tms i a + tms i b
  | .all _ a => tms i a
  | .some _ a => tms i a
def tmss (i : Int) : List Th → Nat
  | [] => 0
  | t :: r => tms i t + tmss i r
end
theorem tms_kids (i : Int) (t : Th) : tms i t = (if eqT t (.var i) = true then 1 else 0) + tmss i (kids t) := by
  cases t with
  | var v =>
    rw [tms, kids, tmss]
    by_cases e : v = i
    · subst e; rw [eqT_self]; simp
    · rw [eqT_no.mpr (fun h => e (by injection h))]; simp [e]
  | _ => rw [eqT_no.mpr (fun h => by cases h)]; simp [tms, kids, tmss]
theorem ints_map {α : Type} (g : α → Int) : ∀ ts : List α, intsOf (ts.map fun u => D.int (g u)) = some (ts.map g)
  | [] => rfl
  | t :: r => by rw [List.map_cons, intsOf, ints_map g r]; rfl
theorem sum_tms (i : Int) : ∀ ts : List Th, (ts.map fun u => ((tms i u : Nat) : Int)).sum = ((tmss i ts : Nat) : Int)
  | [] => rfl
  | t :: r => by rw [List.map_cons, List.sum_cons, sum_tms i r, tmss]; simp
theorem sum_sz : ∀ ts : List Th, (ts.map fun u => ((size u : Nat) : Int)).sum = ((sizes ts : Nat) : Int)
  | [] => rfl
  | t :: r => by rw [List.map_cons, List.sum_cons, sum_sz r, sizes]; simp
theorem len_sizes : ∀ ts : List Th, ts.length ≤ sizes ts
  | [] => by simp [sizes]
  | t :: r => by rw [List.length_cons, sizes]; have := len_sizes r; have := size_kids t; omega
theorem nmss_mem : ∀ {ts : List Th} {u : Th}, nmss ts = true → u ∈ ts → nms u = true
  | t :: r, u, h, hu => by
    rw [nmss, Bool.and_eq_true] at h
    rcases List.mem_cons.mp hu with rfl | hu
    · exact h.1
    · exact nmss_mem h.2 hu
theorem nms_kid {t u : Th} (h : nms t = true) (hu : u ∈ kids t) : nms u = true := by
  cases t with
  | var v => cases hu
  | no => cases hu
  | call f as => rw [nms, Bool.and_eq_true] at h; exact nmss_mem h.2 hu
  | rel f as => rw [nms, Bool.and_eq_true] at h; exact nmss_mem h.2 hu
  | all s a => rw [nms, Bool.and_eq_true] at h; rw [kids, List.mem_singleton] at hu; rw [hu]; exact h.2
  | some s a => rw [nms, Bool.and_eq_true] at h; rw [kids, List.mem_singleton] at hu; rw [hu]; exact h.2
  | same a b => rw [nms, Bool.and_eq_true] at h; simp [kids] at hu; rcases hu with rfl | rfl; exact h.1; exact h.2
  | and a b => rw [nms, Bool.and_eq_true] at h; simp [kids] at hu; rcases hu with rfl | rfl; exact h.1; exact h.2
  | or a b => rw [nms, Bool.and_eq_true] at h; simp [kids] at hu; rcases hu with rfl | rfl; exact h.1; exact h.2
  | imp a b => rw [nms, Bool.and_eq_true] at h; simp [kids] at hu; rcases hu with rfl | rfl; exact h.1; exact h.2
theorem fInt_bl (b : Bool) : fInt [.bl b] = some (.d (.int (if b = true then 1 else 0))) := rfl
theorem t_step {c : Fn → List S → List MO → Rs S (List MO)} (i : Int) (t : Th) (m : List MO) (hn : nms t = true) (hl : (kids t).length ≤ lim) (hw : c .within [.d (enc t)] m = .ok (.l (encs (kids t))) m) (hr : ∀ u ∈ kids t, c .times_in [.d (enc u), .d (.int i)] m = .ok (.d (.int ((tms i u : Nat) : Int))) m) : fnM 3 (m_times_in c) [.d (enc t), .d (.int i)] m = .ok (.d (.int ((tms i t : Nat) : Int))) m := by
  have e0 : dEq (enc t) (.tup [.str "var", .int i]) = some (.d (.bl (eqT t (.var i)))) := by
    have := eq_enc (a := t) (b := .var i) hn rfl (by simp [depth])
    rw [enc] at this
    exact this
  have e1 : ((eLc (iAnyM (eCall (c .within) (aCons (escf (eVar 0)) aNil))) (kName 2) (fun z => .ok true z) (eCall (c .times_in) (aCons (escf (eVar 2)) (aCons (escf (eVar 1)) aNil))) [2]) : Sm MX S) ⟨[some (.d (enc t)), some (.d (.int i)), none], m⟩ = .ok (.l ((kids t).map fun u => D.int ((tms i u : Nat) : Int))) ⟨[some (.d (enc t)), some (.d (.int i)), none], m⟩ := by
    refine elc_mapK enc ?_ rfl rfl rfl hl ?_
    · simp only [iAnyM, eCall, aCons, aNil, escf, escS, eVar, List.getElem?_cons_zero, Rs.bind_ok, List.all_cons, okArg, List.all_nil, Bool.and_self, if_true, hw, itemsD, Rs.opt_some, encs_map]
    · intro u hu
      refine ⟨⟨[some (.d (enc t)), some (.d (.int i)), some (.d (enc u))], m⟩, ⟨[some (.d (enc t)), some (.d (.int i)), some (.d (enc u))], m⟩, rfl, ?_, rfl⟩
      simp only [eCall, aCons, aNil, escf, escS, eVar, List.getElem?_cons_zero, List.getElem?_cons_succ, Rs.bind_ok, List.all_cons, okArg, List.all_nil, Bool.and_self, if_true, hr u hu]
  have e2 : fSum [.lst ((kids t).map fun u => D.int ((tms i u : Nat) : Int))] = some (.d (.int ((tmss i (kids t) : Nat) : Int))) := by
    simp only [fSum, ints_map, Option.map_some, sum_tms]
  have e3 : fInt [.bl (eqT t (.var i))] = some (.d (.int (if eqT t (.var i) = true then 1 else 0))) := rfl
  unfold m_times_in
  walk_at "ey"
  simp only [rd, e0, e1, e2, Option.bind_some, fin, R.toS, rds, fInt_bl, dAdd_i]
  walk_at "ey"
  rw [tms_kids i t, e1]
  walk_at "ey"
  simp only [e2, fin, R.toS, dAdd_i]
  walk_at "ey"
  cases eqT t (.var i) <;> simp
theorem t_eq : ∀ (n : Nat) (i : Int) (t : Th) (m : List MO), depth t ≤ n → nms t = true → size t ≤ 900000 → mir (n + 1) .times_in [.d (enc t), .d (.int i)] m = .ok (.d (.int ((tms i t : Nat) : Int))) m
  | 0, i, t, m, h, _, _ => by have := depth_kids t; omega
  | n + 1, i, t, m, h, hn, hs => by
    have hk := depth_kids t
    have hz := size_kids t
    have hl := len_sizes (kids t)
    exact t_step (c := mir (n + 1)) i t m hn (by unfold lim; omega) (within_eq n t m) (fun u hu => t_eq n i u m (by have := depths_le (Nat.le_refl _) u hu; omega) (nms_kid hn hu) (by have := mem_sizes hu; omega))

theorem l_step {c : Fn → List S → List MO → Rs S (List MO)} (i : Int) (t : Th) (m : List MO) (hn : nms t = true) (hl : (kids t).length ≤ lim) (hw : c ._law_kids [.d (enc t)] m = .ok (.l (encs (kids t))) m) (hr : ∀ u ∈ kids t, c ._law_times [.d (enc u), .d (.int i)] m = .ok (.d (.int ((tms i u : Nat) : Int))) m) : fnM 3 (m__law_times c) [.d (enc t), .d (.int i)] m = .ok (.d (.int ((tms i t : Nat) : Int))) m := by
  have e0 : dEq (enc t) (.tup [.str "var", .int i]) = some (.d (.bl (eqT t (.var i)))) := by
    have := eq_enc (a := t) (b := .var i) hn rfl (by simp [depth])
    rw [enc] at this
    exact this
  have e1 : ((eLc (iAnyM (eCall (c ._law_kids) (aCons (escf (eVar 0)) aNil))) (kName 2) (fun z => .ok true z) (eCall (c ._law_times) (aCons (escf (eVar 2)) (aCons (escf (eVar 1)) aNil))) [2]) : Sm MX S) ⟨[some (.d (enc t)), some (.d (.int i)), none], m⟩ = .ok (.l ((kids t).map fun u => D.int ((tms i u : Nat) : Int))) ⟨[some (.d (enc t)), some (.d (.int i)), none], m⟩ := by
    refine elc_mapK enc ?_ rfl rfl rfl hl ?_
    · simp only [iAnyM, eCall, aCons, aNil, escf, escS, eVar, List.getElem?_cons_zero, Rs.bind_ok, List.all_cons, okArg, List.all_nil, Bool.and_self, if_true, hw, itemsD, Rs.opt_some, encs_map]
    · intro u hu
      refine ⟨⟨[some (.d (enc t)), some (.d (.int i)), some (.d (enc u))], m⟩, ⟨[some (.d (enc t)), some (.d (.int i)), some (.d (enc u))], m⟩, rfl, ?_, rfl⟩
      simp only [eCall, aCons, aNil, escf, escS, eVar, List.getElem?_cons_zero, List.getElem?_cons_succ, Rs.bind_ok, List.all_cons, okArg, List.all_nil, Bool.and_self, if_true, hr u hu]
  have e2 : fSum [.lst ((kids t).map fun u => D.int ((tms i u : Nat) : Int))] = some (.d (.int ((tmss i (kids t) : Nat) : Int))) := by
    simp only [fSum, ints_map, Option.map_some, sum_tms]
  have e3 : fInt [.bl (eqT t (.var i))] = some (.d (.int (if eqT t (.var i) = true then 1 else 0))) := rfl
  unfold m__law_times
  walk_at "ey"
  simp only [rd, e0, e1, e2, Option.bind_some, fin, R.toS, rds, fInt_bl, dAdd_i]
  walk_at "ey"
  rw [tms_kids i t, e1]
  walk_at "ey"
  simp only [e2, fin, R.toS, dAdd_i]
  walk_at "ey"
  cases eqT t (.var i) <;> simp
theorem l_eq : ∀ (n : Nat) (i : Int) (t : Th) (m : List MO), depth t ≤ n → nms t = true → size t ≤ 900000 → mir (n + 1) ._law_times [.d (enc t), .d (.int i)] m = .ok (.d (.int ((tms i t : Nat) : Int))) m
  | 0, i, t, m, h, _, _ => by have := depth_kids t; omega
  | n + 1, i, t, m, h, hn, hs => by
    have hk := depth_kids t
    have hz := size_kids t
    have hl := len_sizes (kids t)
    exact l_step (c := mir (n + 1)) i t m hn (by unfold lim; omega) (kids_eq n t m) (fun u hu => l_eq n i u m (by have := depths_le (Nat.le_refl _) u hu; omega) (nms_kid hn hu) (by have := mem_sizes hu; omega))

theorem p_step {c : Fn → List S → List MO → Rs S (List MO)} (t : Th) (m : List MO) (hl : (kids t).length ≤ lim) (hw : c ._law_kids [.d (enc t)] m = .ok (.l (encs (kids t))) m) (hr : ∀ u ∈ kids t, c ._law_parts [.d (enc u)] m = .ok (.d (.int ((size u : Nat) : Int))) m) : fnM 2 (m__law_parts c) [.d (enc t)] m = .ok (.d (.int ((size t : Nat) : Int))) m := by
  have e1 : ((eLc (iAnyM (eCall (c ._law_kids) (aCons (escf (eVar 0)) aNil))) (kName 1) (fun z => .ok true z) (eCall (c ._law_parts) (aCons (escf (eVar 1)) aNil)) [1]) : Sm MX S) ⟨[some (.d (enc t)), none], m⟩ = .ok (.l ((kids t).map fun u => D.int ((size u : Nat) : Int))) ⟨[some (.d (enc t)), none], m⟩ := by
    refine elc_mapK enc ?_ rfl rfl rfl hl ?_
    · simp only [iAnyM, eCall, aCons, aNil, escf, escS, eVar, List.getElem?_cons_zero, Rs.bind_ok, List.all_cons, okArg, List.all_nil, Bool.and_self, if_true, hw, itemsD, Rs.opt_some, encs_map]
    · intro u hu
      refine ⟨⟨[some (.d (enc t)), some (.d (enc u))], m⟩, ⟨[some (.d (enc t)), some (.d (enc u))], m⟩, rfl, ?_, rfl⟩
      simp only [eCall, aCons, aNil, escf, escS, eVar, List.getElem?_cons_zero, List.getElem?_cons_succ, Rs.bind_ok, List.all_cons, okArg, List.all_nil, Bool.and_self, if_true, hr u hu]
  have e2 : fSum [.lst ((kids t).map fun u => D.int ((size u : Nat) : Int))] = some (.d (.int ((sizes (kids t) : Nat) : Int))) := by
    simp only [fSum, ints_map, Option.map_some, sum_sz]
  unfold m__law_parts
  walk_at "ey"
  rw [size_kids t, e1]
  walk_at "ey"
  simp only [e2, fin, R.toS, dAdd_i]
  walk_at "ey"
  simp
theorem p_eq : ∀ (n : Nat) (t : Th) (m : List MO), depth t ≤ n → size t ≤ 900000 → mir (n + 1) ._law_parts [.d (enc t)] m = .ok (.d (.int ((size t : Nat) : Int))) m
  | 0, t, m, h, _ => by have := depth_kids t; omega
  | n + 1, t, m, h, hs => by
    have hk := depth_kids t
    have hz := size_kids t
    have hl := len_sizes (kids t)
    exact p_step (c := mir (n + 1)) t m (by unfold lim; omega) (kids_eq n t m) (fun u hu => p_eq n u m (by have := depths_le (Nat.le_refl _) u hu; omega) (by have := mem_sizes hu; omega))

/-! known_of -/
def sumw : List En → Nat
  | [] => 0
  | e :: r => e.w + sumw r
theorem sumw_app : ∀ a b : List En, sumw (a ++ b) = sumw a + sumw b
  | [], b => by simp [sumw]
  | e :: r, b => by rw [List.cons_append, sumw, sumw, sumw_app r b]; omega
def factsOf (es : List En) : Str → Option D := es.foldl upF (fun _ => none)
theorem kw_step {c : Fn → List S → List MO → Rs S (List MO)} (hw : ∀ (G : List MO) (n B : Nat) (f : Str → Option D) (E : En), Kn G n B f → B + E.w < lim → ∃ ext, c .Known_with_entry [.d (.o n), .d (encE E)] G = .ok (.d (.o G.length)) (G ++ ext) ∧ Kn (G ++ ext) G.length (B + E.w) (upF f E)) (E0 : Option S) : ∀ (es : List En) (G : List MO) (k B : Nat) (f : Str → Option D) (x : Option S), Kn G k B f → B + sumw es < lim →
    ∃ ext k' x', forL (M := MX) (kName 2) (sSet 1 (eCall (c .Known_with_entry) (aMeth "Known" "with_entry" (eVar 1) (aCons (escf (eVar 2)) aNil)))) (es.map encE) ⟨[E0, some (.d (.o k)), x], G⟩ = .ok .nx ⟨[E0, some (.d (.o k')), x'], G ++ ext⟩ ∧ Kn (G ++ ext) k' (B + sumw es) (es.foldl upF f)
  | [], G, k, B, f, x, hk, hB => ⟨[], k, x, by rw [List.append_nil]; rfl, by rw [List.append_nil]; exact hk⟩
  | E :: r, G, k, B, f, x, hk, hB => by
    rw [sumw] at hB
    obtain ⟨ext, e, hk1⟩ := hw G k B f E hk (by omega)
    obtain ⟨ext2, k', x', e2, hk2⟩ := kw_step hw E0 r (G ++ ext) G.length (B + E.w) (upF f E) (some (.d (encE E))) hk1 (by omega)
    rw [List.append_assoc] at e2 hk2
    refine ⟨ext ++ ext2, k', x', ?_, by rw [sumw, ← Nat.add_assoc]; exact hk2⟩
    rw [List.map_cons]
    have b : ((sSet 1 (eCall (c .Known_with_entry) (aMeth "Known" "with_entry" (eVar 1) (aCons (escf (eVar 2)) aNil)))) : Sm MX Out) ⟨[E0, some (.d (.o k)), some (.d (encE E))], G⟩ = .ok .nx ⟨[E0, some (.d (.o G.length)), some (.d (encE E))], G ++ ext⟩ := by
      obtain ⟨n0, n1, n2, n3, n4, s0, s1, s2, s3, s4, hn, _⟩ := hk
      have q : (aMeth "Known" "with_entry" (eVar 1) (aCons (escf (eVar 2)) aNil) : Sm MX (List S)) ⟨[E0, some (.d (.o k)), some (.d (encE E))], G⟩ = .ok [.d (.o k), .d (encE E)] ⟨[E0, some (.d (.o k)), some (.d (encE E))], G⟩ := by
        simp only [aMeth, opd, eVar, List.getElem?_cons_zero, List.getElem?_cons_succ, Rs.bind_ok, insAt, rd, hn]
        rw [if_pos ⟨trivial, lM_with_entry _ _ _ _ _⟩]
        rfl
      simp only [sSet, una, eCall, q, Rs.bind_ok, List.all_cons, okArg, List.all_nil, Bool.and_self, if_true, e, List.set_cons_succ, List.set_cons_zero]
    show (((sSet 1 (eCall (c .Known_with_entry) (aMeth "Known" "with_entry" (eVar 1) (aCons (escf (eVar 2)) aNil)))) : Sm MX Out) ⟨[E0, some (.d (.o k)), some (.d (encE E))], G⟩).bind _ = _
    rw [b]
    exact e2
theorem init_mir (n : Nat) (G : List MO) : mir (n + 1) .Known___init__ [.d (.o G.length)] (G ++ [.ins "Known" []]) = .ok (.d .non) (G ++ [MO.ins "Known" [((Str.ofString "told_sorts"), D.o (G.length + 1)), ((Str.ofString "told_calls"), D.o (G.length + 2)), ((Str.ofString "told_rels"), D.o (G.length + 3)), ((Str.ofString "told_means"), D.o (G.length + 4)), ((Str.ofString "told_facts"), D.o (G.length + 5))], MO.dK [], MO.dK [], MO.dK [], MO.dK [], MO.dK []]) := init_eq (c := mir n) G
theorem known_ok (n : Nat) (es : List En) (G : List MO) (hB : sumw es < lim) : ∃ ext k, mir (n + 5) .known_of [.d (.tup (es.map encE))] G = .ok (.d (.o k)) (G ++ ext) ∧ Kn (G ++ ext) k (sumw es) (factsOf es) := by
  let G1 : List MO := G ++ [MO.ins "Known" [((Str.ofString "told_sorts"), D.o (G.length + 1)), ((Str.ofString "told_calls"), D.o (G.length + 2)), ((Str.ofString "told_rels"), D.o (G.length + 3)), ((Str.ofString "told_means"), D.o (G.length + 4)), ((Str.ofString "told_facts"), D.o (G.length + 5))], MO.dK [], MO.dK [], MO.dK [], MO.dK [], MO.dK []]
  have k0 : Kn G1 G.length 0 (fun _ => none) := ⟨_, _, _, _, _, [], [], [], [], [], gA0 _ _ _, ⟨gAk _ _ _, gAk _ _ _, gAk _ _ _, gAk _ _ _, gAk _ _ _⟩, ⟨Nat.le_refl _, Nat.le_refl _, Nat.le_refl _, Nat.le_refl _, Nat.le_refl _⟩, fun x => rfl⟩
  obtain ⟨ext, k', x', e, hk⟩ := kw_step (c := mir (n + 4)) (fun G n' B f E hk hB => with_entry_eq (c := mir (n + 3)) (ci := mirI (n + 3)) (fun G n' n0 n1 n2 n3 n4 s0 s1 s2 s3 s4 hn h0 h1 h2 h3 h4 => again_eq (c := mir (n + 2)) (ci := mirI (n + 2)) (fun G => init_mir n G) G n' n0 n1 n2 n3 n4 s0 s1 s2 s3 s4 hn h0 h1 h2 h3 h4) G n' B f E hk hB) (some (.d (.tup (es.map encE)))) es G1 G.length 0 (fun _ => none) none k0 (by omega)
  rw [Nat.zero_add] at hk
  rw [show G1 ++ ext = G ++ (_ ++ ext) from List.append_assoc _ _ _] at e hk
  refine ⟨_, k', ?_, hk⟩
  have e0 : (sSet 1 (eMake "Known" (mirI (n + 4) .Known___init__) aNil) : Sm MX Out) ⟨[some (.d (.tup (es.map encE))), none, none], G⟩ = .ok .nx ⟨[some (.d (.tup (es.map encE))), some (.d (.o G.length)), none], G1⟩ := by
    simp only [sSet, una, make_eq (c := mirI (n + 4)) (fun G => init_mir (n + 2) G), Rs.bind_ok, List.set_cons_succ, List.set_cons_zero]
    rfl
  show fnM 3 (m_known_of (mir (n + 4)) (mirI (n + 4))) _ _ = _
  rw [fnM_R]
  unfold m_known_of
  refine Eq.trans (congrArg fnR ?_) (rfl : fnR (.ok (.rt (.d (.o k'))) ⟨[some (.d (.tup (es.map encE))), some (.d (.o k')), x'], G ++ _⟩) = _)
  refine Eq.trans (seq_nx e0) ?_
  refine Eq.trans (seq_nx (ci_for (ds := es.map encE) (by kernel_rfl) e)) ?_
  rfl
end L
set_option pp.maxSteps 400
set_option pp.deepTerms false
namespace L
open PySem L2 G
local macro_rules | `(tactic| walk_at "ex") => `(tactic| try simp only [sSeq, sSet, sExpr, sRet, sIf, sAsg, una, escf, escS, opd, eVar, eC, eBin, eUn, eFn, eCall, eTup, eLst, aCons, aNil, fin, rd, rds, R.toS, dsOf, Rs.bind_ok, Rs.bind_bad, Rs.bind_ex, Rs.opt_some, Option.bind_some, Option.map_some, ownAt, eExt, eApp, ePop, List.getElem?_cons_zero, List.getElem?_cons_succ, List.set_cons_zero, List.set_cons_succ, okArg, List.all_cons, List.all_nil, Bool.and_self, if_true, kName, kTup, ksCons, ksNil, fMax, tOf, List.length_cons, List.length_nil, Bool.not_false, Bool.not_true, if_false, Bool.false_eq_true, lm0, lm1, lm2, lm3, lm4, lm5, lm6, lm7, lm8, lm9, lm10, lm11, lm12, fnM, List.map_cons, List.map_nil, List.replicate, List.cons_append, List.nil_append, Nat.reduceAdd, Nat.reduceSub, sNil, tAndM, tOrM, tNotM, tTru, dTru, eIf, dSub_i, dAdd_i, dLt_i, dLe_i, dGt_i, dGe_i, dEq_i, decide_true, decide_false, eChain, eAndM, eSl, oInt, dNeg, dIx, atI0, atI1, atI2, aDef, fTuple, wv_var, wc_var, wj_var, wb_var, wv_call, wc_call, wj_call, wb_call, wv_rel, wc_rel, wj_rel, wb_rel, wv_same, wc_same, wj_same, wb_same, wv_no, wc_no, wj_no, wb_no, wv_and, wc_and, wj_and, wb_and, wv_or, wc_or, wj_or, wb_or, wv_if, wc_if, wj_if, wb_if, wv_all, wc_all, wj_all, wb_all, wv_some, wc_some, wj_some, wb_some])
local macro_rules | `(tactic| walk_at "ey") => `(tactic| try simp only [sSeq, sSet, sExpr, sRet, sIf, sAsg, una, escf, escS, opd, eVar, eC, eBin, eUn, eFn, eCall, eTup, eLst, aCons, aNil, fin, rd, rds, R.toS, dsOf, Rs.bind_ok, Rs.bind_bad, Rs.bind_ex, Rs.opt_some, Option.bind_some, Option.map_some, ownAt, eExt, eApp, ePop, List.getElem?_cons_zero, List.getElem?_cons_succ, List.set_cons_zero, List.set_cons_succ, okArg, List.all_cons, List.all_nil, Bool.and_self, if_true, kName, kTup, ksCons, ksNil, fMax, tOf, List.length_cons, List.length_nil, Bool.not_false, Bool.not_true, if_false, Bool.false_eq_true, lm0, lm1, lm2, lm3, lm4, lm5, lm6, lm7, lm8, lm9, lm10, lm11, lm12, fnM, List.map_cons, List.map_nil, List.replicate, List.cons_append, List.nil_append, Nat.reduceAdd, Nat.reduceSub, sNil, tAndM, tOrM, tNotM, tTru, dTru, eIf, dSub_i, dAdd_i, dLt_i, dLe_i, dGt_i, dGe_i, dEq_i, decide_true, decide_false, eChain, eAndM, eSl, oInt, dNeg, fInt, aDef, fTuple])

/-! what a rule is -/
def peel : Th → Nat × Th
  | .all _ a => ((peel a).1 + 1, (peel a).2)
  | t => (0, t)
def isCall : Th → Bool
  | .call _ _ => true
  | _ => false
def isR (k : Nat) (l r : Th) : Bool := decide (k ≤ 6) && (isCall l && (decide (size r < size l) && (List.range k).all fun i => decide (max 1 (tms (i : Int) r) ≤ tms (i : Int) l)))
def isRule (t : Th) : Bool := match (peel t).2 with
  | .same l r => isR (peel t).1 l r
  | _ => false
def isAll : Th → Bool
  | .all _ _ => true
  | _ => false
theorem peel_no {t : Th} (h : isAll t = false) : peel t = (0, t) := by
  cases t <;> first | rfl | cases h
theorem wdAll (t : Th) : dEq (.str (wd t)) (.str "all") = some (.d (.bl (isAll t))) := by
  cases t <;> kernel_rfl
def isSame : Th → Bool
  | .same _ _ => true
  | _ => false
theorem wdSame (t : Th) : dNe (.str (wd t)) (.str "same") = some (.d (.bl (!isSame t))) := by
  cases t <;> kernel_rfl
theorem wdCall (t : Th) : dNe (.str (wd t)) (.str "call") = some (.d (.bl (!isCall t))) := by
  cases t <;> kernel_rfl
theorem isNotE (t : Th) : dIsNot (enc t) .non = some (.d (.bl true)) := by
  cases t <;> (rw [enc]; rfl)
theorem isE (t : Th) : dIs (enc t) .non = some (.d (.bl false)) := by
  cases t <;> (rw [enc]; rfl)
theorem sameOf {t : Th} (h : isSame t = true) : ∃ l r, t = .same l r := by
  cases t with
  | same l r => exact ⟨l, r, rfl⟩
  | _ => cases h
theorem peel_all (s : Str) (a : Th) : peel (.all s a) = ((peel a).1 + 1, (peel a).2) := rfl
theorem w_cond (k : Nat) (nmD : D) (t : Th) (j : Int) (x : Option S) (m : List MO) : ((tAndM (tOf (eBin dIsNot (eVar 2) (eC .non))) (tOf (eBin dEq (eBin dIx (eVar 2) (eC (.int 0))) (eC (.str "all"))))) : Sm MX Bool) ⟨[some (.d (.o k)), some (.d nmD), some (.d (enc t)), some (.d (.int j)), x], m⟩ = .ok (isAll t) ⟨[some (.d (.o k)), some (.d nmD), some (.d (enc t)), some (.d (.int j)), x], m⟩ := by
  walk_at "ey"
  simp only [isNotE, Option.bind_some, fin, R.toS, Rs.bind_ok, if_true, Rs.opt_some, rd]
  walk_at "ey"
  simp only [hd0, fin, R.toS, Option.bind_some, Rs.opt_some]
  walk_at "ey"
  simp only [wdAll, fin, R.toS, Option.bind_some, Rs.opt_some]
  walk_at "ey"
theorem w_loop (k : Nat) (nmD : D) (x : Option S) (m : List MO) : ∀ (n : Nat) (t : Th) (j : Int), size t ≤ n → ((sWhile (tAndM (tOf (eBin dIsNot (eVar 2) (eC .non))) (tOf (eBin dEq (eBin dIx (eVar 2) (eC (.int 0))) (eC (.str "all"))))) (sSeq (sSet 2 (eBin dIx (eVar 2) (eC (.int 2))))
    (sSet 3 (eBin dAdd (eVar 3) (eC (.int 1))))) n) : Sm MX Out) ⟨[some (.d (.o k)), some (.d nmD), some (.d (enc t)), some (.d (.int j)), x], m⟩ = .ok .nx ⟨[some (.d (.o k)), some (.d nmD), some (.d (enc (peel t).2)), some (.d (.int (j + ((peel t).1 : Nat)))), x], m⟩
  | 0, t, j, h => by have := size_kids t; omega
  | n + 1, t, j, h => by
    unfold sWhile
    rw [w_cond, Rs.bind_ok]
    cases e : isAll t with
    | false =>
      rw [peel_no e]
      simp
    | true =>
      cases t with
      | all s a =>
        rw [size] at h
        have b : ((sSeq (sSet 2 (eBin dIx (eVar 2) (eC (.int 2))))
    (sSet 3 (eBin dAdd (eVar 3) (eC (.int 1))))) : Sm MX Out) ⟨[some (.d (.o k)), some (.d nmD), some (.d (enc (.all s a))), some (.d (.int j)), x], m⟩ = .ok .nx ⟨[some (.d (.o k)), some (.d nmD), some (.d (enc a)), some (.d (.int (j + 1))), x], m⟩ := by
          rw [enc]
          kernel_rfl
        rw [if_pos rfl, b, Rs.bind_ok, peel_all]
        have := w_loop k nmD x m n a (j + 1) (by omega)
        simp only
        rw [this, show j + 1 + (((peel a).1 : Nat) : Int) = j + (((peel a).1 + 1 : Nat) : Int) by omega]
      | _ => cases e
theorem peel_size (t : Th) : size (peel t).2 ≤ size t := by
  induction t using kids_ind with
  | h t ih =>
    cases t with
    | all s a => rw [peel_all, size]; have := ih a (by simp [kids]); simp only at this ⊢; omega
    | _ => exact Nat.le_refl _
theorem peel_depth (t : Th) : depth (peel t).2 ≤ depth t := by
  induction t using kids_ind with
  | h t ih =>
    cases t with
    | all s a => rw [peel_all, depth]; have := ih a (by simp [kids]); simp only at this ⊢; omega
    | _ => exact Nat.le_refl _
theorem peel_nms (t : Th) : nms t = true → nms (peel t).2 = true := by
  induction t using kids_ind with
  | h t ih =>
    cases t with
    | all s a => intro h; rw [peel_all]; rw [nms, Bool.and_eq_true] at h; exact ih a (by simp [kids]) h.2
    | _ => exact fun h => h
theorem or_t {a b : Sm MX Bool} {z z1 : Z (List MO)} (h : a z = .ok true z1) : tOrM a b z = .ok true z1 := by
  simp only [tOrM, h, Rs.bind_ok, if_true]
theorem or_f {a b : Sm MX Bool} {z z1 : Z (List MO)} (h : a z = .ok false z1) : tOrM a b z = b z1 := by
  simp only [tOrM, h, Rs.bind_ok, Bool.false_eq_true, if_false]
def okL (l r : Th) (i : Nat) : Bool := decide (max 1 (tms (i : Int) r) ≤ tms (i : Int) l)
theorem max1 (a : Nat) : (if ((a : Nat) : Int) > 1 then ((a : Nat) : Int) else 1) = ((max 1 a : Nat) : Int) := by
  by_cases h : a > 1
  · rw [if_pos (by omega)]; congr 1; omega
  · rw [if_neg (by omega)]; have : max 1 a = 1 := by omega
    rw [this]; rfl
theorem r_body {c : Fn → List S → List MO → Rs S (List MO)} (k : Nat) (nmD : D) (l r : Th) (j : Int) (i : Nat) (m : List MO) (hl : c .times_in [.d (enc l), .d (.int i)] m = .ok (.d (.int ((tms (i : Int) l : Nat) : Int))) m) (hr : c .times_in [.d (enc r), .d (.int i)] m = .ok (.d (.int ((tms (i : Int) r : Nat) : Int))) m) : ((sIf (tNotM (tOf (eBin dLe (eFn fMax (aCons (opd (eC (.int 1))) (aCons (opd (eCall (c .times_in) (aCons (escf (eBin dIx (eVar 2) (eC (.int 2)))) (aCons (escf (eVar 4)) aNil)))) aNil))) (eCall (c .times_in) (aCons (escf (eBin dIx (eVar 2) (eC (.int 1)))) (aCons (escf (eVar 4)) aNil)))))) (sRet (eC .non)) sNil) : Sm MX Out) ⟨[some (.d (.o k)), some (.d nmD), some (.d (enc (.same l r))), some (.d (.int j)), some (.d (.int i))], m⟩ = .ok (if okL l r i = true then .nx else .rt (.d .non)) ⟨[some (.d (.o k)), some (.d nmD), some (.d (enc (.same l r))), some (.d (.int j)), some (.d (.int i))], m⟩ := by
  rw [enc]
  walk_at "ey"
  simp only [i32, i31, fin, R.toS, Option.bind_some, Rs.opt_some, Rs.bind_ok]
  walk_at "ey"
  simp only [hr, hl]
  walk_at "ey"
  rw [max1]
  simp only [i32, i31, fin, R.toS, Option.bind_some, Rs.opt_some, Rs.bind_ok]
  walk_at "ey"
  simp only [hl]
  walk_at "ey"
  unfold okL
  by_cases q : max 1 (tms (i : Int) r) ≤ tms (i : Int) l
  · rw [decide_eq_true q, decide_eq_true (by omega)]; simp
  · rw [decide_eq_false q, decide_eq_false (by omega)]; simp
theorem r_loop {c : Fn → List S → List MO → Rs S (List MO)} (k : Nat) (nmD : D) (l r : Th) (j : Int) (m : List MO) (hl : ∀ i : Nat, c .times_in [.d (enc l), .d (.int i)] m = .ok (.d (.int ((tms (i : Int) l : Nat) : Int))) m) (hr : ∀ i : Nat, c .times_in [.d (enc r), .d (.int i)] m = .ok (.d (.int ((tms (i : Int) r : Nat) : Int))) m) : ∀ (n i : Nat) (x : Option S), ∃ x', forL (M := MX) (kName 4) (sIf (tNotM (tOf (eBin dLe (eFn fMax (aCons (opd (eC (.int 1))) (aCons (opd (eCall (c .times_in) (aCons (escf (eBin dIx (eVar 2) (eC (.int 2)))) (aCons (escf (eVar 4)) aNil)))) aNil))) (eCall (c .times_in) (aCons (escf (eBin dIx (eVar 2) (eC (.int 1)))) (aCons (escf (eVar 4)) aNil)))))) (sRet (eC .non)) sNil) (rg i n) ⟨[some (.d (.o k)), some (.d nmD), some (.d (enc (.same l r))), some (.d (.int j)), x], m⟩ = .ok (if (List.range' i n).all (okL l r) = true then .nx else .rt (.d .non)) ⟨[some (.d (.o k)), some (.d nmD), some (.d (enc (.same l r))), some (.d (.int j)), x'], m⟩
  | 0, i, x => ⟨x, rfl⟩
  | n + 1, i, x => by
    have b := r_body k nmD l r j i m (hl i) (hr i)
    rw [rg, List.range'_succ, List.all_cons]
    cases e : okL l r i with
    | true =>
      obtain ⟨x', e2⟩ := r_loop k nmD l r j m hl hr n (i + 1) (some (.d (.int i)))
      refine ⟨x', ?_⟩
      rw [Bool.true_and]
      rw [e, if_pos rfl] at b
      show (((sIf (tNotM (tOf (eBin dLe (eFn fMax (aCons (opd (eC (.int 1))) (aCons (opd (eCall (c .times_in) (aCons (escf (eBin dIx (eVar 2) (eC (.int 2)))) (aCons (escf (eVar 4)) aNil)))) aNil))) (eCall (c .times_in) (aCons (escf (eBin dIx (eVar 2) (eC (.int 1)))) (aCons (escf (eVar 4)) aNil)))))) (sRet (eC .non)) sNil) : Sm MX Out) ⟨[some (.d (.o k)), some (.d nmD), some (.d (enc (.same l r))), some (.d (.int j)), some (.d (.int i))], m⟩).bind _ = _
      rw [b]
      exact e2
    | false =>
      refine ⟨some (.d (.int i)), ?_⟩
      rw [Bool.false_and]
      rw [e, if_neg (by simp)] at b
      show (((sIf (tNotM (tOf (eBin dLe (eFn fMax (aCons (opd (eC (.int 1))) (aCons (opd (eCall (c .times_in) (aCons (escf (eBin dIx (eVar 2) (eC (.int 2)))) (aCons (escf (eVar 4)) aNil)))) aNil))) (eCall (c .times_in) (aCons (escf (eBin dIx (eVar 2) (eC (.int 1)))) (aCons (escf (eVar 4)) aNil)))))) (sRet (eC .non)) sNil) : Sm MX Out) ⟨[some (.d (.o k)), some (.d nmD), some (.d (enc (.same l r))), some (.d (.int j)), some (.d (.int i))], m⟩).bind _ = _
      rw [b]
      rfl
end L
set_option pp.maxSteps 400
set_option pp.deepTerms false
namespace L
open PySem L2 G
local macro_rules | `(tactic| walk_at "ex") => `(tactic| try simp only [sSeq, sSet, sExpr, sRet, sIf, sAsg, una, escf, escS, opd, eVar, eC, eBin, eUn, eFn, eCall, eTup, eLst, aCons, aNil, fin, rd, rds, R.toS, dsOf, Rs.bind_ok, Rs.bind_bad, Rs.bind_ex, Rs.opt_some, Option.bind_some, Option.map_some, ownAt, eExt, eApp, ePop, List.getElem?_cons_zero, List.getElem?_cons_succ, List.set_cons_zero, List.set_cons_succ, okArg, List.all_cons, List.all_nil, Bool.and_self, if_true, kName, kTup, ksCons, ksNil, fMax, tOf, List.length_cons, List.length_nil, Bool.not_false, Bool.not_true, if_false, Bool.false_eq_true, lm0, lm1, lm2, lm3, lm4, lm5, lm6, lm7, lm8, lm9, lm10, lm11, lm12, fnM, List.map_cons, List.map_nil, List.replicate, List.cons_append, List.nil_append, Nat.reduceAdd, Nat.reduceSub, sNil, tAndM, tOrM, tNotM, tTru, dTru, eIf, dSub_i, dAdd_i, dLt_i, dLe_i, dGt_i, dGe_i, dEq_i, decide_true, decide_false, eChain, eAndM, eSl, oInt, dNeg, dIx, atI0, atI1, atI2, aDef, fTuple, wv_var, wc_var, wj_var, wb_var, wv_call, wc_call, wj_call, wb_call, wv_rel, wc_rel, wj_rel, wb_rel, wv_same, wc_same, wj_same, wb_same, wv_no, wc_no, wj_no, wb_no, wv_and, wc_and, wj_and, wb_and, wv_or, wc_or, wj_or, wb_or, wv_if, wc_if, wj_if, wb_if, wv_all, wc_all, wj_all, wb_all, wv_some, wc_some, wj_some, wb_some])
local macro_rules | `(tactic| walk_at "ey") => `(tactic| try simp only [sSeq, sSet, sExpr, sRet, sIf, sAsg, una, escf, escS, opd, eVar, eC, eBin, eUn, eFn, eCall, eTup, eLst, aCons, aNil, fin, rd, rds, R.toS, dsOf, Rs.bind_ok, Rs.bind_bad, Rs.bind_ex, Rs.opt_some, Option.bind_some, Option.map_some, ownAt, eExt, eApp, ePop, List.getElem?_cons_zero, List.getElem?_cons_succ, List.set_cons_zero, List.set_cons_succ, okArg, List.all_cons, List.all_nil, Bool.and_self, if_true, kName, kTup, ksCons, ksNil, fMax, tOf, List.length_cons, List.length_nil, Bool.not_false, Bool.not_true, if_false, Bool.false_eq_true, lm0, lm1, lm2, lm3, lm4, lm5, lm6, lm7, lm8, lm9, lm10, lm11, lm12, fnM, List.map_cons, List.map_nil, List.replicate, List.cons_append, List.nil_append, Nat.reduceAdd, Nat.reduceSub, sNil, tAndM, tOrM, tNotM, tTru, dTru, eIf, dSub_i, dAdd_i, dLt_i, dLe_i, dGt_i, dGe_i, dEq_i, decide_true, decide_false, eChain, eAndM, eSl, oInt, dNeg, fInt, aDef, fTuple])

theorem pU0 (d : D) : putFD (Str.ofString "name") d [] = [((Str.ofString "name"), d)] := by kernel_rfl
theorem pU1 (a0 d : D) : putFD (Str.ofString "many") d [((Str.ofString "name"), a0)] = [((Str.ofString "name"), a0), ((Str.ofString "many"), d)] := by kernel_rfl
theorem pU2 (a0 a1 d : D) : putFD (Str.ofString "left") d [((Str.ofString "name"), a0), ((Str.ofString "many"), a1)] = [((Str.ofString "name"), a0), ((Str.ofString "many"), a1), ((Str.ofString "left"), d)] := by kernel_rfl
theorem pU3 (a0 a1 a2 d : D) : putFD (Str.ofString "right") d [((Str.ofString "name"), a0), ((Str.ofString "many"), a1), ((Str.ofString "left"), a2)] = [((Str.ofString "name"), a0), ((Str.ofString "many"), a1), ((Str.ofString "left"), a2), ((Str.ofString "right"), d)] := by kernel_rfl

theorem rinit_eq {c : Fn → List S → List MO → Rs S (List MO)} (G : List MO) (d0 d1 d2 d3 : D) : fnM 5 (m_Rule___init__ c) [.d (.o G.length), .d d0, .d d1, .d d2, .d d3] (G ++ [.ins "Rule" []]) = .ok (.d .non) (G ++ [MO.ins "Rule" [((Str.ofString "name"), d0), ((Str.ofString "many"), d1), ((Str.ofString "left"), d2), ((Str.ofString "right"), d3)]]) := by
  have e0 : (sFldM ["Rule"] "name" (eVar 1) (eVar 0) : Sm MX Out) ⟨[some (.d (.o G.length)), some (.d d0), some (.d d1), some (.d d2), some (.d d3)], G ++ [MO.ins "Rule" []]⟩ = .ok .nx ⟨[some (.d (.o G.length)), some (.d d0), some (.d d1), some (.d d2), some (.d d3)], G ++ [MO.ins "Rule" [((Str.ofString "name"), d0)]]⟩ := by
    rw [fld_set (f := eVar 1) (x' := d0) (n := G.length) (c := "Rule") (v_d rfl) rfl (gA0 _ _ _) memR (by simp)]
    simp only [sA0, pU0]
  have e1 : (sFldM ["Rule"] "many" (eVar 2) (eVar 0) : Sm MX Out) ⟨[some (.d (.o G.length)), some (.d d0), some (.d d1), some (.d d2), some (.d d3)], G ++ [MO.ins "Rule" [((Str.ofString "name"), d0)]]⟩ = .ok .nx ⟨[some (.d (.o G.length)), some (.d d0), some (.d d1), some (.d d2), some (.d d3)], G ++ [MO.ins "Rule" [((Str.ofString "name"), d0), ((Str.ofString "many"), d1)]]⟩ := by
    rw [fld_set (f := eVar 2) (x' := d1) (n := G.length) (c := "Rule") (v_d rfl) rfl (gA0 _ _ _) memR (by simp)]
    simp only [sA0, pU1]
  have e2 : (sFldM ["Rule"] "left" (eVar 3) (eVar 0) : Sm MX Out) ⟨[some (.d (.o G.length)), some (.d d0), some (.d d1), some (.d d2), some (.d d3)], G ++ [MO.ins "Rule" [((Str.ofString "name"), d0), ((Str.ofString "many"), d1)]]⟩ = .ok .nx ⟨[some (.d (.o G.length)), some (.d d0), some (.d d1), some (.d d2), some (.d d3)], G ++ [MO.ins "Rule" [((Str.ofString "name"), d0), ((Str.ofString "many"), d1), ((Str.ofString "left"), d2)]]⟩ := by
    rw [fld_set (f := eVar 3) (x' := d2) (n := G.length) (c := "Rule") (v_d rfl) rfl (gA0 _ _ _) memR (by simp)]
    simp only [sA0, pU2]
  have e3 : (sFldM ["Rule"] "right" (eVar 4) (eVar 0) : Sm MX Out) ⟨[some (.d (.o G.length)), some (.d d0), some (.d d1), some (.d d2), some (.d d3)], G ++ [MO.ins "Rule" [((Str.ofString "name"), d0), ((Str.ofString "many"), d1), ((Str.ofString "left"), d2)]]⟩ = .ok .nx ⟨[some (.d (.o G.length)), some (.d d0), some (.d d1), some (.d d2), some (.d d3)], G ++ [MO.ins "Rule" [((Str.ofString "name"), d0), ((Str.ofString "many"), d1), ((Str.ofString "left"), d2), ((Str.ofString "right"), d3)]]⟩ := by
    rw [fld_set (f := eVar 4) (x' := d3) (n := G.length) (c := "Rule") (v_d rfl) rfl (gA0 _ _ _) memR (by simp)]
    simp only [sA0, pU3]
  rw [fnM_R]
  unfold m_Rule___init__
  refine Eq.trans (congrArg fnR ?_) (rfl : fnR (.ok .nx ⟨[some (.d (.o G.length)), some (.d d0), some (.d d1), some (.d d2), some (.d d3)], G ++ [MO.ins "Rule" [((Str.ofString "name"), d0), ((Str.ofString "many"), d1), ((Str.ofString "left"), d2), ((Str.ofString "right"), d3)]]⟩) = _)
  show (sSeq _ _ : Sm MX Out) ⟨[some (.d (.o G.length)), some (.d d0), some (.d d1), some (.d d2), some (.d d3)], G ++ [MO.ins "Rule" []]⟩ = _
  rw [seq_nx e0, seq_nx e1, seq_nx e2]
  exact e3
theorem stmt_eq {c : Fn → List S → List MO → Rs S (List MO)} (G : List MO) (k B : Nat) (f : Str → Option D) (x : Str) (hk : Kn G k B f) : fnM 2 (m_Known_statement c) [.d (.o k), .d (.str x)] G = .ok (.d ((f x).getD .non)) G := by
  obtain ⟨n0, n1, n2, n3, n4, s0, s1, s2, s3, s4, hn, ⟨h0, h1, h2, h3, h4⟩, _, hf⟩ := hk
  have q : (eFld ["Known"] "told_facts" (eVar 0) : Sm MX S) ⟨[some (.d (.o k)), some (.d (.str x))], G⟩ = .ok (.d (.o n4)) ⟨[some (.d (.o k)), some (.d (.str x))], G⟩ := fld_get (n := k) (c := "Known") (v_d rfl) hn memK (lF4 _ _ _ _ _)
  unfold m_Known_statement
  walk_at "ey"
  simp only [eDGet2, opd, q, Rs.bind_ok, dictAt, rd, h4, eVar, List.getElem?_cons_succ, List.getElem?_cons_zero, escf, eC, escS, keyD, Option.bind_some, hf]
theorem stmt_at {c : Fn → List S → List MO → Rs S (List MO)} (G : List MO) (k B : Nat) (f : Str → Option D) (x : Str) (hk : Kn G k B f) (hc : c .Known_statement [.d (.o k), .d (.str x)] G = .ok (.d ((f x).getD .non)) G) : ((sSet 2 (eIf (tTru dTru (eUn (dIsiN "str") (eVar 1))) (eCall (c .Known_statement) (aMeth "Known" "statement" (eVar 0) (aCons (escf (eVar 1)) aNil))) (eC .non))) : Sm MX Out) ⟨[some (.d (.o k)), some (.d (.str x)), none, none, none], G⟩ = .ok .nx ⟨[some (.d (.o k)), some (.d (.str x)), some (.d ((f x).getD .non)), none, none], G⟩ := by
  obtain ⟨n0, n1, n2, n3, n4, s0, s1, s2, s3, s4, hn, _⟩ := hk
  have q : (aMeth "Known" "statement" (eVar 0) (aCons (escf (eVar 1)) aNil) : Sm MX (List S)) ⟨[some (.d (.o k)), some (.d (.str x)), none, none, none], G⟩ = .ok [.d (.o k), .d (.str x)] ⟨[some (.d (.o k)), some (.d (.str x)), none, none, none], G⟩ := by
    simp only [aMeth, opd, eVar, List.getElem?_cons_zero, List.getElem?_cons_succ, Rs.bind_ok, insAt, rd, hn]
    rw [if_pos ⟨trivial, lM_statement _ _ _ _ _⟩]
    rfl
  have t0 : (tTru dTru (eUn (dIsiN "str") (eVar 1)) : Sm MX Bool) ⟨[some (.d (.o k)), some (.d (.str x)), none, none, none], G⟩ = .ok true ⟨[some (.d (.o k)), some (.d (.str x)), none, none, none], G⟩ := by kernel_rfl
  simp only [sSet, una, eIf, t0, Rs.bind_ok, if_true, eCall, q, List.all_cons, okArg, List.all_nil, Bool.and_self, hc, List.set_cons_succ, List.set_cons_zero]
def badC (k : Nat) : Th → Bool
  | .same l r => decide (6 < k) || (!isCall l || decide (size l ≤ size r))
  | _ => true
theorem isRule_bad {t : Th} (h : badC (peel t).1 (peel t).2 = true) : isRule t = false := by
  unfold isRule
  cases e : (peel t).2 with
  | same l r =>
    rw [e] at h
    simp only [badC, Bool.or_eq_true, decide_eq_true_eq, Bool.not_eq_true'] at h
    simp only [isR]
    rcases h with h | h | h
    · rw [decide_eq_false (by omega)]; rfl
    · rw [h]; simp
    · rw [decide_eq_false (show ¬ size r < size l by omega)]; simp
  | _ => rfl
theorem isRule_ok {t l r : Th} (e : (peel t).2 = .same l r) (h : badC (peel t).1 (peel t).2 = false) : isRule t = (List.range (peel t).1).all (okL l r) := by
  unfold isRule
  rw [e] at h ⊢
  simp only [badC, Bool.or_eq_false_iff, decide_eq_false_iff_not, Bool.not_eq_false'] at h
  simp only [isR]
  rw [decide_eq_true (by omega), h.2.1, decide_eq_true (by omega)]
  rfl
theorem t_if {c : Fn → List S → List MO → Rs S (List MO)} (k : Nat) (nmD : D) (b : Th) (p : Nat) (x : Option S) (m : List MO) (hp : ∀ u ∈ kids b, c .parts_of [.d (enc u)] m = .ok (.d (.int ((size u : Nat) : Int))) m) : ((tOrM (tOf (eBin dIs (eVar 2) (eC .non))) (tOrM (tOf (eBin dGt (eVar 3) (eC c_MOST_ALLS))) (tOrM (tOf (eBin dNe (eBin dIx (eVar 2) (eC (.int 0))) (eC (.str "same")))) (tOrM (tOf (eBin dNe (eBin dIx (eBin dIx (eVar 2) (eC (.int 1))) (eC (.int 0))) (eC (.str "call")))) (tOf (eBin dGe (eCall (c .parts_of) (aCons (escf (eBin dIx (eVar 2) (eC (.int 2)))) aNil)) (eCall (c .parts_of) (aCons (escf (eBin dIx (eVar 2) (eC (.int 1)))) aNil)))))))) : Sm MX Bool) ⟨[some (.d (.o k)), some (.d nmD), some (.d (enc b)), some (.d (.int ((p : Nat) : Int))), x], m⟩ = .ok (decide (6 < p) || badC p b) ⟨[some (.d (.o k)), some (.d nmD), some (.d (enc b)), some (.d (.int ((p : Nat) : Int))), x], m⟩ := by
  have t1 : ((tOf (eBin dIs (eVar 2) (eC .non))) : Sm MX Bool) ⟨[some (.d (.o k)), some (.d nmD), some (.d (enc b)), some (.d (.int ((p : Nat) : Int))), x], m⟩ = .ok false ⟨[some (.d (.o k)), some (.d nmD), some (.d (enc b)), some (.d (.int ((p : Nat) : Int))), x], m⟩ := by
    walk_at "ey"
    simp only [isE, fin, R.toS, Rs.bind_ok]
  have t2 : ((tOf (eBin dGt (eVar 3) (eC c_MOST_ALLS))) : Sm MX Bool) ⟨[some (.d (.o k)), some (.d nmD), some (.d (enc b)), some (.d (.int ((p : Nat) : Int))), x], m⟩ = .ok (decide (6 < p)) ⟨[some (.d (.o k)), some (.d nmD), some (.d (enc b)), some (.d (.int ((p : Nat) : Int))), x], m⟩ := by
    unfold c_MOST_ALLS
    walk_at "ey"
    by_cases q : 6 < p
    · rw [decide_eq_true q, decide_eq_true (by omega)]
    · rw [decide_eq_false q, decide_eq_false (by omega)]
  have t3 : ((tOf (eBin dNe (eBin dIx (eVar 2) (eC (.int 0))) (eC (.str "same")))) : Sm MX Bool) ⟨[some (.d (.o k)), some (.d nmD), some (.d (enc b)), some (.d (.int ((p : Nat) : Int))), x], m⟩ = .ok (!isSame b) ⟨[some (.d (.o k)), some (.d nmD), some (.d (enc b)), some (.d (.int ((p : Nat) : Int))), x], m⟩ := by
    walk_at "ey"
    simp only [hd0, fin, R.toS, Rs.bind_ok, rd, Option.bind_some]
    walk_at "ey"
    simp only [wdSame, fin, R.toS, Rs.bind_ok]
  rw [or_f t1]
  cases q : decide (6 < p) with
  | true => rw [q] at t2; rw [or_t t2]; rfl
  | false =>
    rw [q] at t2
    rw [or_f t2]
    cases q2 : isSame b with
    | false =>
      rw [q2] at t3
      rw [or_t t3]
      cases b <;> first | rfl | cases q2
    | true =>
      rw [q2] at t3
      rw [or_f t3]
      obtain ⟨l, r, rfl⟩ := sameOf q2
      have hl := hp l (by simp [kids])
      have hr := hp r (by simp [kids])
      have t4 : ((tOf (eBin dNe (eBin dIx (eBin dIx (eVar 2) (eC (.int 1))) (eC (.int 0))) (eC (.str "call")))) : Sm MX Bool) ⟨[some (.d (.o k)), some (.d nmD), some (.d (enc (.same l r))), some (.d (.int ((p : Nat) : Int))), x], m⟩ = .ok (!isCall l) ⟨[some (.d (.o k)), some (.d nmD), some (.d (enc (.same l r))), some (.d (.int ((p : Nat) : Int))), x], m⟩ := by
        rw [enc]
        walk_at "ey"
        simp only [i31, fin, R.toS, Rs.bind_ok, rd, Option.bind_some]
        walk_at "ey"
        simp only [hd0, fin, R.toS, Rs.bind_ok, rd, Option.bind_some]
        walk_at "ey"
        simp only [wdCall, fin, R.toS, Rs.bind_ok]
      have t5 : ((tOf (eBin dGe (eCall (c .parts_of) (aCons (escf (eBin dIx (eVar 2) (eC (.int 2)))) aNil)) (eCall (c .parts_of) (aCons (escf (eBin dIx (eVar 2) (eC (.int 1)))) aNil)))) : Sm MX Bool) ⟨[some (.d (.o k)), some (.d nmD), some (.d (enc (.same l r))), some (.d (.int ((p : Nat) : Int))), x], m⟩ = .ok (decide (size l ≤ size r)) ⟨[some (.d (.o k)), some (.d nmD), some (.d (enc (.same l r))), some (.d (.int ((p : Nat) : Int))), x], m⟩ := by
        rw [enc]
        walk_at "ey"
        simp only [i32, i31, fin, R.toS, Rs.bind_ok, rd, Option.bind_some]
        walk_at "ey"
        simp only [hr]
        walk_at "ey"
        simp only [i32, i31, fin, R.toS, Rs.bind_ok, rd, Option.bind_some]
        walk_at "ey"
        simp only [hl]
        walk_at "ey"
        by_cases q : size l ≤ size r
        · rw [decide_eq_true q, decide_eq_true (by omega)]
        · rw [decide_eq_false q, decide_eq_false (by omega)]
      simp only [badC, q, Bool.false_or]
      cases q4 : isCall l with
      | false => rw [q4] at t4; rw [or_t t4]; rfl
      | true => rw [q4] at t4; rw [or_f t4, t5]; rfl
theorem bad_gt (p : Nat) (b : Th) : (decide (6 < p) || badC p b) = badC p b := by
  cases b <;> simp [badC]
theorem rule_some {c ci : Fn → List S → List MO → Rs S (List MO)} (G : List MO) (k B : Nat) (f : Str → Option D) (x : Str) (t : Th) (hk : Kn G k B f) (hf : f x = some (enc t)) (hs : size t ≤ 900000) (hc : c .Known_statement [.d (.o k), .d (.str x)] G = .ok (.d ((f x).getD .non)) G)
    (hp : ∀ u ∈ kids (peel t).2, c .parts_of [.d (enc u)] G = .ok (.d (.int ((size u : Nat) : Int))) G) (ht : ∀ u ∈ kids (peel t).2, ∀ i : Nat, c .times_in [.d (enc u), .d (.int i)] G = .ok (.d (.int ((tms (i : Int) u : Nat) : Int))) G) (hi : ∀ d0 d1 d2 d3, ci .Rule___init__ [.d (.o G.length), .d d0, .d d1, .d d2, .d d3] (G ++ [.ins "Rule" []]) = .ok (.d .non) (G ++ [MO.ins "Rule" [((Str.ofString "name"), d0), ((Str.ofString "many"), d1), ((Str.ofString "left"), d2), ((Str.ofString "right"), d3)]])) :
    ∃ ext, fnM 5 (m_rule_of c ci) [.d (.o k), .d (.str x)] G = .ok (.d (if isRule t = true then .o G.length else .non)) (G ++ ext) := by
  have pk : (peel t).1 ≤ size t := by
    have : ∀ t : Th, (peel t).1 ≤ size t := fun t => by
      induction t using kids_ind with
      | h t ih =>
        cases t with
        | all s a => rw [peel_all, size]; have := ih a (by simp [kids]); simp only at this ⊢; omega
        | _ => exact Nat.zero_le _
    exact this t
  have e1 := stmt_at G k B f x hk hc
  rw [hf, Option.getD_some] at e1
  have e3 := w_loop k (.str x) none G whileN t 0 (by show size t ≤ 1000000000; omega)
  rw [Int.zero_add] at e3
  have e4 := t_if k (.str x) (peel t).2 (peel t).1 none G hp
  rw [bad_gt] at e4
  have hd : ∀ C : Sm MX Out, (sSeq (sSet 2 (eIf (tTru dTru (eUn (dIsiN "str") (eVar 1))) (eCall (c .Known_statement) (aMeth "Known" "statement" (eVar 0) (aCons (escf (eVar 1)) aNil))) (eC .non))) (sSeq (sSet 3 (eC (.int 0))) (sSeq (sWhile (tAndM (tOf (eBin dIsNot (eVar 2) (eC .non))) (tOf (eBin dEq (eBin dIx (eVar 2) (eC (.int 0))) (eC (.str "all"))))) (sSeq (sSet 2 (eBin dIx (eVar 2) (eC (.int 2))))
    (sSet 3 (eBin dAdd (eVar 3) (eC (.int 1))))) whileN) C)) : Sm MX Out) ⟨[some (.d (.o k)), some (.d (.str x)), none, none, none], G⟩ = C ⟨[some (.d (.o k)), some (.d (.str x)), some (.d (enc (peel t).2)), some (.d (.int ((peel t).1 : Nat))), none], G⟩ := fun C => by
    rw [seq_nx e1]
    refine Eq.trans (seq_nx (z1 := ⟨[some (.d (.o k)), some (.d (.str x)), some (.d (enc t)), some (.d (.int 0)), none], G⟩) rfl) ?_
    rw [seq_nx e3]
  rw [fnM_R]
  unfold m_rule_of
  have hd2 := hd
  cases q : badC (peel t).1 (peel t).2 with
  | true =>
    rw [isRule_bad q]
    refine ⟨[], ?_⟩
    rw [List.append_nil]
    rw [q] at e4
    refine Eq.trans (congrArg fnR (Eq.trans (hd _) ?_)) (rfl : fnR (.ok (.rt (.d .non)) ⟨[some (.d (.o k)), some (.d (.str x)), some (.d (enc (peel t).2)), some (.d (.int ((peel t).1 : Nat))), none], G⟩) = _)
    unfold sSeq
    rw [if_t e4]
    rfl
  | false =>
    rw [q] at e4
    obtain ⟨l, r, eb⟩ : ∃ l r, (peel t).2 = .same l r := by
      cases h : (peel t).2 with
      | same l r => exact ⟨l, r, rfl⟩
      | _ => rw [h] at q; cases q
    rw [isRule_ok eb q]
    rw [eb] at hp ht e4 hd
    obtain ⟨x', e5⟩ := r_loop k (.str x) l r ((peel t).1 : Nat) G (fun i => ht l (by simp [kids]) i) (fun i => ht r (by simp [kids]) i) (peel t).1 0 none
    rw [← List.range_eq_range'] at e5
    have e6 : ((sFor (iRg1M (aCons (opd (eVar 3)) aNil)) (kName 4) (sIf (tNotM (tOf (eBin dLe (eFn fMax (aCons (opd (eC (.int 1))) (aCons (opd (eCall (c .times_in) (aCons (escf (eBin dIx (eVar 2) (eC (.int 2)))) (aCons (escf (eVar 4)) aNil)))) aNil))) (eCall (c .times_in) (aCons (escf (eBin dIx (eVar 2) (eC (.int 1)))) (aCons (escf (eVar 4)) aNil)))))) (sRet (eC .non)) sNil)) : Sm MX Out) ⟨[some (.d (.o k)), some (.d (.str x)), some (.d (enc (.same l r))), some (.d (.int ((peel t).1 : Nat))), none], G⟩ = .ok (if (List.range (peel t).1).all (okL l r) = true then .nx else .rt (.d .non)) ⟨[some (.d (.o k)), some (.d (.str x)), some (.d (enc (.same l r))), some (.d (.int ((peel t).1 : Nat))), x'], G⟩ := ci_for (ds := rg 0 (peel t).1) (by
      have := rg1_it (g := (aCons (opd (eVar 3)) aNil)) (z := ⟨[some (.d (.o k)), some (.d (.str x)), some (.d (enc (.same l r))), some (.d (.int ((peel t).1 : Nat))), none], G⟩) (j := ((peel t).1 : Nat)) rfl (by omega) (by omega)
      rw [Int.toNat_natCast] at this
      exact this) e5
    have e7 : ((sIf (tOrM (tOf (eBin dIs (eVar 2) (eC .non))) (tOrM (tOf (eBin dGt (eVar 3) (eC c_MOST_ALLS))) (tOrM (tOf (eBin dNe (eBin dIx (eVar 2) (eC (.int 0))) (eC (.str "same")))) (tOrM (tOf (eBin dNe (eBin dIx (eBin dIx (eVar 2) (eC (.int 1))) (eC (.int 0))) (eC (.str "call")))) (tOf (eBin dGe (eCall (c .parts_of) (aCons (escf (eBin dIx (eVar 2) (eC (.int 2)))) aNil)) (eCall (c .parts_of) (aCons (escf (eBin dIx (eVar 2) (eC (.int 1)))) aNil)))))))) (sRet (eC .non)) sNil) : Sm MX Out) ⟨[some (.d (.o k)), some (.d (.str x)), some (.d (enc (.same l r))), some (.d (.int ((peel t).1 : Nat))), none], G⟩ = .ok .nx ⟨[some (.d (.o k)), some (.d (.str x)), some (.d (enc (.same l r))), some (.d (.int ((peel t).1 : Nat))), none], G⟩ := by
      rw [if_f e4]; rfl
    cases q2 : (List.range (peel t).1).all (okL l r) with
    | false =>
      refine ⟨[], ?_⟩
      rw [List.append_nil]
      rw [q2] at e6
      refine Eq.trans (congrArg fnR (Eq.trans (hd _) ?_)) (rfl : fnR (.ok (.rt (.d .non)) ⟨[some (.d (.o k)), some (.d (.str x)), some (.d (enc (.same l r))), some (.d (.int ((peel t).1 : Nat))), x'], G⟩) = _)
      refine Eq.trans (seq_nx e7) ?_
      unfold sSeq
      rw [e6]
      rfl
    | true =>
      rw [q2] at e6
      refine ⟨[MO.ins "Rule" [((Str.ofString "name"), D.str x), ((Str.ofString "many"), D.int ((peel t).1 : Nat)), ((Str.ofString "left"), enc l), ((Str.ofString "right"), enc r)]], ?_⟩
      refine Eq.trans (congrArg fnR (Eq.trans (hd _) ?_)) (rfl : fnR (.ok (.rt (.d (.o G.length))) ⟨[some (.d (.o k)), some (.d (.str x)), some (.d (enc (.same l r))), some (.d (.int ((peel t).1 : Nat))), x'], (G ++ [MO.ins "Rule" [((Str.ofString "name"), D.str x), ((Str.ofString "many"), D.int ((peel t).1 : Nat)), ((Str.ofString "left"), enc l), ((Str.ofString "right"), enc r)]])⟩) = _)
      refine Eq.trans (seq_nx e7) ?_
      refine Eq.trans (seq_nx (show _ = Rs.ok Out.nx _ from e6)) ?_
      have q9 : (aCons (escf (eVar 1)) (aCons (escf (eVar 3)) (aCons (escf (eBin dIx (eVar 2) (eC (.int 1)))) (aCons (escf (eBin dIx (eVar 2) (eC (.int 2)))) aNil))) : Sm MX (List S)) ⟨[some (.d (.o k)), some (.d (.str x)), some (.d (enc (.same l r))), some (.d (.int ((peel t).1 : Nat))), x'], G⟩ = .ok [.d (.str x), .d (.int ((peel t).1 : Nat)), .d (enc l), .d (enc r)] ⟨[some (.d (.o k)), some (.d (.str x)), some (.d (enc (.same l r))), some (.d (.int ((peel t).1 : Nat))), x'], G⟩ := by
        rw [enc]
        rfl
      simp only [sRet, una, eMake, q9, Rs.bind_ok, List.all_cons, okArg, List.all_nil, Bool.and_self, if_true, hi]
end L
set_option pp.maxSteps 400
set_option pp.deepTerms false
namespace L
open PySem L2 G
local macro_rules | `(tactic| walk_at "ex") => `(tactic| try simp only [sSeq, sSet, sExpr, sRet, sIf, sAsg, una, escf, escS, opd, eVar, eC, eBin, eUn, eFn, eCall, eTup, eLst, aCons, aNil, fin, rd, rds, R.toS, dsOf, Rs.bind_ok, Rs.bind_bad, Rs.bind_ex, Rs.opt_some, Option.bind_some, Option.map_some, ownAt, eExt, eApp, ePop, List.getElem?_cons_zero, List.getElem?_cons_succ, List.set_cons_zero, List.set_cons_succ, okArg, List.all_cons, List.all_nil, Bool.and_self, if_true, kName, kTup, ksCons, ksNil, fMax, tOf, List.length_cons, List.length_nil, Bool.not_false, Bool.not_true, if_false, Bool.false_eq_true, lm0, lm1, lm2, lm3, lm4, lm5, lm6, lm7, lm8, lm9, lm10, lm11, lm12, fnM, List.map_cons, List.map_nil, List.replicate, List.cons_append, List.nil_append, Nat.reduceAdd, Nat.reduceSub, sNil, tAndM, tOrM, tNotM, tTru, dTru, eIf, dSub_i, dAdd_i, dLt_i, dLe_i, dGt_i, dGe_i, dEq_i, decide_true, decide_false, eChain, eAndM, eSl, oInt, dNeg, dIx, atI0, atI1, atI2, aDef, fTuple, wv_var, wc_var, wj_var, wb_var, wv_call, wc_call, wj_call, wb_call, wv_rel, wc_rel, wj_rel, wb_rel, wv_same, wc_same, wj_same, wb_same, wv_no, wc_no, wj_no, wb_no, wv_and, wc_and, wj_and, wb_and, wv_or, wc_or, wj_or, wb_or, wv_if, wc_if, wj_if, wb_if, wv_all, wc_all, wj_all, wb_all, wv_some, wc_some, wj_some, wb_some])
local macro_rules | `(tactic| walk_at "ey") => `(tactic| try simp only [sSeq, sSet, sExpr, sRet, sIf, sAsg, una, escf, escS, opd, eVar, eC, eBin, eUn, eFn, eCall, eTup, eLst, aCons, aNil, fin, rd, rds, R.toS, dsOf, Rs.bind_ok, Rs.bind_bad, Rs.bind_ex, Rs.opt_some, Option.bind_some, Option.map_some, ownAt, eExt, eApp, ePop, List.getElem?_cons_zero, List.getElem?_cons_succ, List.set_cons_zero, List.set_cons_succ, okArg, List.all_cons, List.all_nil, Bool.and_self, if_true, kName, kTup, ksCons, ksNil, fMax, tOf, List.length_cons, List.length_nil, Bool.not_false, Bool.not_true, if_false, Bool.false_eq_true, lm0, lm1, lm2, lm3, lm4, lm5, lm6, lm7, lm8, lm9, lm10, lm11, lm12, fnM, List.map_cons, List.map_nil, List.replicate, List.cons_append, List.nil_append, Nat.reduceAdd, Nat.reduceSub, sNil, tAndM, tOrM, tNotM, tTru, dTru, eIf, dSub_i, dAdd_i, dLt_i, dLe_i, dGt_i, dGe_i, dEq_i, decide_true, decide_false, eChain, eAndM, eSl, oInt, dNeg, fInt, aDef, fTuple])

theorem while_f {a : Sm MX Bool} {b : Sm MX Out} {n : Nat} {z z1 : Z (List MO)} (h : a z = .ok false z1) : sWhile a b (n + 1) z = .ok .nx z1 := by
  simp only [sWhile, h, Rs.bind_ok, Bool.false_eq_true, if_false]
theorem rule_non {c ci : Fn → List S → List MO → Rs S (List MO)} (G : List MO) (k : Nat) (nd : D) (h : ((sSet 2 (eIf (tTru dTru (eUn (dIsiN "str") (eVar 1))) (eCall (c .Known_statement) (aMeth "Known" "statement" (eVar 0) (aCons (escf (eVar 1)) aNil))) (eC .non))) : Sm MX Out) ⟨[some (.d (.o k)), some (.d nd), none, none, none], G⟩ = .ok .nx ⟨[some (.d (.o k)), some (.d nd), some (.d .non), none, none], G⟩) : fnM 5 (m_rule_of c ci) [.d (.o k), .d nd] G = .ok (.d .non) G := by
  rw [fnM_R]
  unfold m_rule_of
  refine Eq.trans (congrArg fnR ?_) (rfl : fnR (.ok (.rt (.d .non)) ⟨[some (.d (.o k)), some (.d nd), some (.d .non), some (.d (.int 0)), none], G⟩) = _)
  show (sSeq _ _ : Sm MX Out) ⟨[some (.d (.o k)), some (.d nd), none, none, none], G⟩ = _
  rw [seq_nx h]
  refine Eq.trans (seq_nx (z1 := ⟨[some (.d (.o k)), some (.d nd), some (.d .non), some (.d (.int 0)), none], G⟩) rfl) ?_
  refine Eq.trans (seq_nx (z1 := ⟨[some (.d (.o k)), some (.d nd), some (.d .non), some (.d (.int 0)), none], G⟩) (while_f (n := 999999999) (by kernel_rfl))) ?_
  unfold sSeq
  rw [if_t (z1 := ⟨[some (.d (.o k)), some (.d nd), some (.d .non), some (.d (.int 0)), none], G⟩) (or_t (by kernel_rfl))]
  rfl
theorem rule_no {c ci : Fn → List S → List MO → Rs S (List MO)} (G : List MO) (k B : Nat) (f : Str → Option D) (x : Str) (hk : Kn G k B f) (hf : f x = none) (hc : c .Known_statement [.d (.o k), .d (.str x)] G = .ok (.d ((f x).getD .non)) G) : fnM 5 (m_rule_of c ci) [.d (.o k), .d (.str x)] G = .ok (.d .non) G := by
  have e1 := stmt_at G k B f x hk hc
  rw [hf, Option.getD_none] at e1
  exact rule_non G k (.str x) e1
theorem rule_odd {c ci : Fn → List S → List MO → Rs S (List MO)} (G : List MO) (k : Nat) (nd : D) (h : dIsiN "str" nd = some (.d (.bl false))) : fnM 5 (m_rule_of c ci) [.d (.o k), .d nd] G = .ok (.d .non) G := by
  refine rule_non G k nd ?_
  have t0 : (tTru dTru (eUn (dIsiN "str") (eVar 1)) : Sm MX Bool) ⟨[some (.d (.o k)), some (.d nd), none, none, none], G⟩ = .ok false ⟨[some (.d (.o k)), some (.d nd), none, none, none], G⟩ := by
    walk_at "ey"
    simp only [h, fin, R.toS, Rs.bind_ok, Option.bind_some, rd, dTru, Rs.opt_some]
    walk_at "ey"
  simp only [sSet, una, eIf, t0, Rs.bind_ok, Bool.false_eq_true, if_false, eC, List.set_cons_succ, List.set_cons_zero]
/-- what a name is told to be -/
def Tells (f : Str → Option D) (x : Str) (b : Bool) : Prop := (f x = none ∧ b = false) ∨ ∃ t, f x = some (enc t) ∧ nms t = true ∧ size t ≤ 2000 ∧ depth t ≤ 40 ∧ b = isRule t
theorem rule_ok (n : Nat) (G : List MO) (k B : Nat) (f : Str → Option D) (x : Str) (b : Bool) (hk : Kn G k B f) (h : Tells f x b) : ∃ ext d, mir (n + 50) .rule_of [.d (.o k), .d (.str x)] G = .ok (.d d) (G ++ ext) ∧ dIsNot d .non = some (.d (.bl b)) := by
  have hc : mir (n + 49) .Known_statement [.d (.o k), .d (.str x)] G = .ok (.d ((f x).getD .non)) G := stmt_eq (c := mir (n + 48)) G k B f x hk
  rcases h with ⟨hf, rfl⟩ | ⟨t, hf, hn, hs, hd, rfl⟩
  · exact ⟨[], .non, by rw [List.append_nil]; exact rule_no (c := mir (n + 49)) (ci := mirI (n + 49)) G k B f x hk hf hc, rfl⟩
  · have pn := peel_nms t hn
    have ps := peel_size t
    have pd := peel_depth t
    have kd := depth_kids (peel t).2
    have ks := size_kids (peel t).2
    obtain ⟨ext, e⟩ := rule_some (c := mir (n + 49)) (ci := mirI (n + 49)) G k B f x t hk hf (by omega) hc (fun u hu => parts_eq (n + 47) u G (by have := mem_sizes hu; omega) (nms_kid pn hu)) (fun u hu i => t_eq (n + 48) i u G (by have := depths_le (Nat.le_refl _) u hu; omega) (nms_kid pn hu) (by have := mem_sizes hu; omega)) (fun d0 d1 d2 d3 => rinit_eq (c := mir (n + 47)) G d0 d1 d2 d3)
    refine ⟨ext, _, e, ?_⟩
    cases isRule t <;> rfl
theorem isr_gen {c : Fn → List S → List MO → Rs S (List MO)} {es d nd : D} {k : Nat} {G G1 G2 : List MO} {b : Bool} (h1 : c .known_of [.d es] G = .ok (.d (.o k)) G1) (h2 : c .rule_of [.d (.o k), .d nd] G1 = .ok (.d d) G2) (h3 : dIsNot d .non = some (.d (.bl b))) : fnM 2 (m_is_rule c) [.d es, .d nd] G = .ok (.d (.bl b)) G2 := by
  unfold m_is_rule
  walk_at "ey"
  simp only [h1]
  walk_at "ey"
  simp only [h2]
  walk_at "ey"
  simp only [h3, fin, R.toS]
  walk_at "ey"
theorem is_rule_ok (n : Nat) (es : List En) (G : List MO) (x : Str) (b : Bool) (hB : sumw es < lim) (h : Tells (factsOf es) x b) : ∃ ext, mir (n + 51) .is_rule [.d (.tup (es.map encE)), .d (.str x)] G = .ok (.d (.bl b)) (G ++ ext) := by
  obtain ⟨e1, k, h1, hk⟩ := known_ok (n + 45) es G hB
  obtain ⟨e2, d, h2, h3⟩ := rule_ok n (G ++ e1) k _ _ x b hk h
  exact ⟨e1 ++ e2, by rw [← List.append_assoc]; exact isr_gen (c := mir (n + 50)) h1 h2 h3⟩
theorem is_rule_odd (n : Nat) (es : List En) (G : List MO) (nd : D) (hB : sumw es < lim) (h : dIsiN "str" nd = some (.d (.bl false))) : ∃ ext, mir (n + 51) .is_rule [.d (.tup (es.map encE)), .d nd] G = .ok (.d (.bl false)) (G ++ ext) := by
  obtain ⟨e1, k, h1, hk⟩ := known_ok (n + 45) es G hB
  exact ⟨e1, isr_gen (c := mir (n + 50)) h1 (rule_odd (c := mir (n + 49)) (ci := mirI (n + 49)) (G ++ e1) k nd h) rfl⟩
/-! rows -/
theorem for_cons {kk : D → Z (List MO) → Option (Z (List MO))} {b : Sm MX Out} {d : D} {r : List D} {z z1 z2 : Z (List MO)} (h1 : kk d z = some z1) (h2 : b z1 = .ok .nx z2) : forL (M := MX) kk b (d :: r) z = forL (M := MX) kk b r z2 := by
  simp only [forL, h1, h2, Rs.bind_ok]
def prD (l r : Th) (i : Nat) : D := .tup [.int ((tms (i : Int) l : Nat) : Int), .int ((tms (i : Int) r : Nat) : Int)]
def encR (ks : List Str) (l r : Th) : D := .tup [.tup (ks.map D.str), enc l, enc r]
def wholeT (ks : List Str) (l r : Th) : Th := ks.foldr Th.all (.same l r)
theorem peel_whole (l r : Th) : ∀ ks : List Str, peel (wholeT ks l r) = (ks.length, .same l r)
  | [] => rfl
  | k :: r' => by
    show peel (.all k (wholeT r' l r)) = _
    rw [peel_all, peel_whole l r r']; rfl
theorem isRule_whole (ks : List Str) (l r : Th) : isRule (wholeT ks l r) = isR ks.length l r := by
  unfold isRule
  rw [peel_whole]
theorem whole_loop (x0 : Option S) (m : List MO) : ∀ (ls : List Str) (t : Th) (x : Option S), ∃ x', forL (M := MX) (kName 2) (sSet 1 (eTup (aCons (escf (eC (.str "all"))) (aCons (escf (eVar 2)) (aCons (escf (eVar 1)) aNil))))) (ls.map D.str) ⟨[x0, some (.d (enc t)), x], m⟩ = .ok .nx ⟨[x0, some (.d (enc (ls.foldl (fun t s => .all s t) t))), x'], m⟩
  | [], t, x => ⟨x, rfl⟩
  | s :: r, t, x => by
    obtain ⟨x', e⟩ := whole_loop x0 m r (.all s t) (some (.d (.str s)))
    refine ⟨x', ?_⟩
    rw [List.map_cons, List.foldl_cons]
    refine Eq.trans (for_cons (z1 := ⟨[x0, some (.d (enc t)), some (.d (.str s))], m⟩) rfl ?_) e
    rw [show enc (.all s t) = .tup [.str "all", .str s, enc t] by rw [enc]]
    rfl
theorem whole_eq (n : Nat) (ks : List Str) (l r : Th) (m : List MO) : mir (n + 1) ._law_whole [.d (encR ks l r)] m = .ok (.d (enc (wholeT ks l r))) m := by
  show fnM 3 (m__law_whole (mir n)) _ _ = _
  obtain ⟨x', e⟩ := whole_loop (some (.d (encR ks l r))) m ks.reverse (.same l r) none
  rw [List.foldl_reverse] at e
  rw [fnM_R]
  unfold m__law_whole
  refine Eq.trans (congrArg fnR ?_) (rfl : fnR (.ok (.rt (.d (enc (wholeT ks l r)))) ⟨[some (.d (encR ks l r)), some (.d (enc (wholeT ks l r))), x'], m⟩) = _)
  refine Eq.trans (seq_nx (z1 := ⟨[some (.d (encR ks l r)), some (.d (enc (.same l r))), none], m⟩) (by rw [show enc (.same l r) = .tup [.str "same", enc l, enc r] by rw [enc]]; kernel_rfl)) ?_
  refine Eq.trans (seq_nx (ci_for (ds := ks.reverse.map D.str) (z1 := ⟨[some (.d (encR ks l r)), some (.d (enc (.same l r))), none], m⟩) (by rw [List.map_reverse]; kernel_rfl) e)) ?_
  rfl
theorem eqNil {xs : List D} (h : lays xs = true) : dEq (.lst xs) (.lst []) = some (.d (.bl xs.isEmpty)) := by
  have e : eqOk (.lst xs) (.lst []) = true := by
    unfold eqOk
    rw [lay, h]
    simp [lay, lays, dep, deps]
  unfold dEq
  rw [if_pos e, eqD_lst]
  cases xs <;> rfl
theorem lays_map {α : Type} (g : α → D) (h : ∀ i, lay (g i) = true) : ∀ ts : List α, lays (ts.map g) = true
  | [] => rfl
  | t :: r => by rw [List.map_cons, lays, h t, lays_map g h r]; rfl
theorem filt_all {α : Type} (p : α → Bool) : ∀ ts : List α, (ts.filter fun i => !p i).isEmpty = ts.all p
  | [] => rfl
  | t :: r => by
    rw [List.all_cons, List.filter_cons]
    cases p t with
    | true => simpa using filt_all p r
    | false => rfl
theorem lir_step {c : Fn → List S → List MO → Rs S (List MO)} (ks : List Str) (l r : Th) (m : List MO) (hk : ks.length ≤ 1000) (hp : ∀ u ∈ [l, r], c ._law_parts [.d (enc u)] m = .ok (.d (.int ((size u : Nat) : Int))) m) (ht : ∀ u ∈ [l, r], ∀ i : Nat, c ._law_times [.d (enc u), .d (.int i)] m = .ok (.d (.int ((tms (i : Int) u : Nat) : Int))) m) : fnM 7 (m__law_is_rule c) [.d (encR ks l r)] m = .ok (.d (.bl (isR ks.length l r))) m := by
  have pl := hp l (by simp)
  have pr := hp r (by simp)
  have tl := ht l (by simp)
  have tr := ht r (by simp)
  have t1 : ((tOf (eBin dGt (eFn fLen (aCons (opd (eVar 1)) aNil)) (eC (.int 6)))) : Sm MX Bool) ⟨[some (.d (encR ks l r)), some (.d (.tup (ks.map D.str))), some (.d (enc l)), some (.d (enc r)), none, none, none], m⟩ = .ok (decide (6 < ks.length)) ⟨[some (.d (encR ks l r)), some (.d (.tup (ks.map D.str))), some (.d (enc l)), some (.d (enc r)), none, none, none], m⟩ := by
    have e : fLen [.tup (ks.map D.str)] = some (.d (.int (ks.length : Nat))) := by simp only [fLen, List.length_map]
    walk_at "ey"
    simp only [e, fin, R.toS]
    walk_at "ey"
    by_cases q : 6 < ks.length
    · rw [decide_eq_true q, decide_eq_true (by omega)]
    · rw [decide_eq_false q, decide_eq_false (by omega)]
  have t2 : ((tOf (eBin dNe (eBin dIx (eVar 2) (eC (.int 0))) (eC (.str "call")))) : Sm MX Bool) ⟨[some (.d (encR ks l r)), some (.d (.tup (ks.map D.str))), some (.d (enc l)), some (.d (enc r)), none, none, none], m⟩ = .ok (!isCall l) ⟨[some (.d (encR ks l r)), some (.d (.tup (ks.map D.str))), some (.d (enc l)), some (.d (enc r)), none, none, none], m⟩ := by
    walk_at "ey"
    simp only [hd0, fin, R.toS, Rs.bind_ok, rd, Option.bind_some]
    walk_at "ey"
    simp only [wdCall, fin, R.toS, Rs.bind_ok]
  have t3 : ((tOf (eBin dGe (eCall (c ._law_parts) (aCons (escf (eVar 3)) aNil)) (eCall (c ._law_parts) (aCons (escf (eVar 2)) aNil)))) : Sm MX Bool) ⟨[some (.d (encR ks l r)), some (.d (.tup (ks.map D.str))), some (.d (enc l)), some (.d (enc r)), none, none, none], m⟩ = .ok (decide (size l ≤ size r)) ⟨[some (.d (encR ks l r)), some (.d (.tup (ks.map D.str))), some (.d (enc l)), some (.d (enc r)), none, none, none], m⟩ := by
    walk_at "ey"
    simp only [pr]
    walk_at "ey"
    simp only [pl]
    walk_at "ey"
    by_cases q : size l ≤ size r
    · rw [decide_eq_true q, decide_eq_true (by omega)]
    · rw [decide_eq_false q, decide_eq_false (by omega)]
  have hb : ((tOrM (tOf (eBin dGt (eFn fLen (aCons (opd (eVar 1)) aNil)) (eC (.int 6)))) (tOrM (tOf (eBin dNe (eBin dIx (eVar 2) (eC (.int 0))) (eC (.str "call")))) (tOf (eBin dGe (eCall (c ._law_parts) (aCons (escf (eVar 3)) aNil)) (eCall (c ._law_parts) (aCons (escf (eVar 2)) aNil)))))) : Sm MX Bool) ⟨[some (.d (encR ks l r)), some (.d (.tup (ks.map D.str))), some (.d (enc l)), some (.d (enc r)), none, none, none], m⟩ = .ok (decide (6 < ks.length) || (!isCall l || decide (size l ≤ size r))) ⟨[some (.d (encR ks l r)), some (.d (.tup (ks.map D.str))), some (.d (enc l)), some (.d (enc r)), none, none, none], m⟩ := by
    cases q : decide (6 < ks.length) with
    | true => rw [q] at t1; rw [or_t t1]; rfl
    | false =>
      rw [q] at t1; rw [or_f t1]
      cases q2 : isCall l with
      | false => rw [q2] at t2; rw [or_t t2]; rfl
      | true => rw [q2] at t2; rw [or_f t2, t3]; rfl
  have ea : ((sAsg (eVar 0) (kTup 3 (ksCons (kName 1) (ksCons (kName 2) (ksCons (kName 3) ksNil))))) : Sm MX Out) ⟨[some (.d (encR ks l r)), none, none, none, none, none, none], m⟩ = .ok .nx ⟨[some (.d (encR ks l r)), some (.d (.tup (ks.map D.str))), some (.d (enc l)), some (.d (enc r)), none, none, none], m⟩ := by
    unfold encR
    kernel_rfl
  rw [fnM_R]
  unfold m__law_is_rule
  cases q : (decide (6 < ks.length) || (!isCall l || decide (size l ≤ size r))) with
  | true =>
    rw [q] at hb
    have e : isR ks.length l r = false := by
      simp only [Bool.or_eq_true, decide_eq_true_eq, Bool.not_eq_true'] at q
      unfold isR
      rcases q with h | h | h
      · rw [decide_eq_false (by omega)]; rfl
      · rw [h]; simp
      · rw [decide_eq_false (show ¬ size r < size l by omega)]; simp
    rw [e]
    refine Eq.trans (congrArg fnR ?_) (rfl : fnR (.ok (.rt (.d (.bl false))) ⟨[some (.d (encR ks l r)), some (.d (.tup (ks.map D.str))), some (.d (enc l)), some (.d (enc r)), none, none, none], m⟩) = _)
    refine Eq.trans (seq_nx ea) ?_
    unfold sSeq
    rw [if_t hb]
    rfl
  | false =>
    rw [q] at hb
    have e : isR ks.length l r = (List.range ks.length).all (okL l r) := by
      simp only [Bool.or_eq_false_iff, decide_eq_false_iff_not, Bool.not_eq_false'] at q
      unfold isR
      rw [decide_eq_true (by omega), q.2.1, decide_eq_true (by omega)]
      rfl
    rw [e]
    have e1 : ((eLc (iRg1M (aCons (opd (eFn fLen (aCons (opd (eVar 1)) aNil))) aNil)) (kName 5) (fun z => .ok true z) (eTup (aCons (escf (eCall (c ._law_times) (aCons (escf (eVar 2)) (aCons (escf (eVar 5)) aNil)))) (aCons (escf (eCall (c ._law_times) (aCons (escf (eVar 3)) (aCons (escf (eVar 5)) aNil)))) aNil))) [5]) : Sm MX S) ⟨[some (.d (encR ks l r)), some (.d (.tup (ks.map D.str))), some (.d (enc l)), some (.d (enc r)), none, none, none], m⟩ = .ok (.l ((List.range ks.length).map fun i => prD l r i)) ⟨[some (.d (encR ks l r)), some (.d (.tup (ks.map D.str))), some (.d (enc l)), some (.d (enc r)), none, none, none], m⟩ := by
      refine elc_mapK (fun i : Nat => D.int (i : Int)) ?_ rfl rfl rfl (by rw [List.length_range]; unfold lim; omega) ?_
      · have := rg1_it (g := (aCons (opd (eFn fLen (aCons (opd (eVar 1)) aNil))) aNil)) (z := ⟨[some (.d (encR ks l r)), some (.d (.tup (ks.map D.str))), some (.d (enc l)), some (.d (enc r)), none, none, none], m⟩) (z1 := ⟨[some (.d (encR ks l r)), some (.d (.tup (ks.map D.str))), some (.d (enc l)), some (.d (enc r)), none, none, none], m⟩) (j := (ks.length : Nat)) (by
          have e : fLen [.tup (ks.map D.str)] = some (.d (.int (ks.length : Nat))) := by simp only [fLen, List.length_map]
          walk_at "ey"
          simp only [e, fin, R.toS]
          walk_at "ey") (by omega) (by omega)
        rw [Int.toNat_natCast, rg_map] at this
        exact this
      · intro i hi
        refine ⟨⟨[some (.d (encR ks l r)), some (.d (.tup (ks.map D.str))), some (.d (enc l)), some (.d (enc r)), none, some (.d (.int (i : Int))), none], m⟩, ⟨[some (.d (encR ks l r)), some (.d (.tup (ks.map D.str))), some (.d (enc l)), some (.d (enc r)), none, some (.d (.int (i : Int))), none], m⟩, rfl, ?_, rfl⟩
        walk_at "ey"
        simp only [tl]
        walk_at "ey"
        simp only [tr]
        walk_at "ey"
        rfl
    have e2 : ((eLc (iAnyM (eVar 4)) (kName 6) (tOrM (tOf (eBin dEq (eBin dIx (eVar 6) (eC (.int 0))) (eC (.int 0)))) (tOf (eBin dGt (eBin dIx (eVar 6) (eC (.int 1))) (eBin dIx (eVar 6) (eC (.int 0)))))) (eVar 6) [6]) : Sm MX S) ⟨[some (.d (encR ks l r)), some (.d (.tup (ks.map D.str))), some (.d (enc l)), some (.d (enc r)), some (.l ((List.range ks.length).map fun i => prD l r i)), none, none], m⟩ = .ok (.l (((List.range ks.length).filter fun i => !okL l r i).map fun i => prD l r i)) ⟨[some (.d (encR ks l r)), some (.d (.tup (ks.map D.str))), some (.d (enc l)), some (.d (enc r)), some (.d (.lst ((List.range ks.length).map fun i => prD l r i))), none, none], m⟩ := by
      refine elc_filt (fun i : Nat => prD l r i) rfl rfl (by rw [List.length_range]; unfold lim; omega) ?_
      intro i hi
      refine ⟨?_, rfl⟩
      show ((tOrM (tOf (eBin dEq (eBin dIx (eVar 6) (eC (.int 0))) (eC (.int 0)))) (tOf (eBin dGt (eBin dIx (eVar 6) (eC (.int 1))) (eBin dIx (eVar 6) (eC (.int 0)))))) : Sm MX Bool) ⟨[some (.d (encR ks l r)), some (.d (.tup (ks.map D.str))), some (.d (enc l)), some (.d (enc r)), some (.d (.lst ((List.range ks.length).map fun i => prD l r i))), none, some (.d (prD l r i))], m⟩ = .ok _ _
      unfold prD
      have ii0 : ∀ a b : D, dIx (.tup [a, b]) (.int 0) = some (.d a) := fun _ _ => rfl
      have ii1 : ∀ a b : D, dIx (.tup [a, b]) (.int 1) = some (.d b) := fun _ _ => rfl
      walk_at "ey"
      simp only [ii0, ii1, fin, R.toS, Rs.bind_ok, rd, Option.bind_some]
      walk_at "ey"
      simp only [ii0, ii1, fin, R.toS, Rs.bind_ok, rd, Option.bind_some]
      walk_at "ey"
      simp only [ii0, ii1, fin, R.toS, Rs.bind_ok, rd, Option.bind_some]
      walk_at "ey"
      unfold okL
      by_cases q1 : tms (i : Int) l = 0
      · rw [decide_eq_true (show ((tms (i : Int) l : Nat) : Int) = 0 by omega), if_pos rfl, decide_eq_false (by omega)]; rfl
      · rw [decide_eq_false (show ¬ ((tms (i : Int) l : Nat) : Int) = 0 by omega), if_neg (by simp)]
        by_cases q2 : tms (i : Int) l < tms (i : Int) r
        · rw [decide_eq_true (by omega), decide_eq_false (by omega)]; rfl
        · rw [decide_eq_false (by omega), decide_eq_true (by omega)]; rfl
    have eq0 := eqNil (xs := ((List.range ks.length).filter fun i => !okL l r i).map fun i => prD l r i) (lays_map _ (fun i => rfl) _)
    have ei : (((List.range ks.length).filter fun i => !okL l r i).map fun i => prD l r i).isEmpty = (List.range ks.length).all (okL l r) := by
      rw [List.isEmpty_map]
      exact filt_all _ _
    rw [ei] at eq0
    refine Eq.trans (congrArg fnR ?_) (rfl : fnR (.ok (.rt (.d (.bl ((List.range ks.length).all (okL l r))))) ⟨[some (.d (encR ks l r)), some (.d (.tup (ks.map D.str))), some (.d (enc l)), some (.d (enc r)), some (.d (.lst ((List.range ks.length).map fun i => prD l r i))), none, none], m⟩) = _)
    refine Eq.trans (seq_nx ea) ?_
    refine Eq.trans (seq_nx (z1 := ⟨[some (.d (encR ks l r)), some (.d (.tup (ks.map D.str))), some (.d (enc l)), some (.d (enc r)), none, none, none], m⟩) (by rw [if_f hb]; rfl)) ?_
    refine Eq.trans (seq_nx (z1 := ⟨[some (.d (encR ks l r)), some (.d (.tup (ks.map D.str))), some (.d (enc l)), some (.d (enc r)), some (.l ((List.range ks.length).map fun i => prD l r i)), none, none], m⟩) (by simp only [sSet, una, e1, Rs.bind_ok, List.set_cons_succ, List.set_cons_zero])) ?_
    simp only [sRet, una, eBin, opd, e2, Rs.bind_ok, eLst, aNil, dsOf, List.length_nil, lm0, if_true, rd, Option.bind_some, eq0, fin, R.toS]
theorem lir_eq (n : Nat) (ks : List Str) (l r : Th) (m : List MO) (hk : ks.length ≤ 1000) (hl : nms l = true ∧ size l ≤ 2000 ∧ depth l ≤ 40) (hr : nms r = true ∧ size r ≤ 2000 ∧ depth r ≤ 40) : mir (n + 50) ._law_is_rule [.d (encR ks l r)] m = .ok (.d (.bl (isR ks.length l r))) m := by
  have h : ∀ u ∈ [l, r], nms u = true ∧ size u ≤ 2000 ∧ depth u ≤ 40 := by
    intro u hu
    simp at hu
    rcases hu with rfl | rfl
    · exact hl
    · exact hr
  exact lir_step (c := mir (n + 49)) ks l r m hk (fun u hu => p_eq (n + 48) u m (by have := h u hu; omega) (by have := h u hu; omega)) (fun u hu i => l_eq (n + 48) i u m (by have := h u hu; omega) (h u hu).1 (by have := h u hu; omega))
end L
set_option pp.maxSteps 400
set_option pp.deepTerms false
namespace L
open PySem L2 G
local macro_rules | `(tactic| walk_at "ex") => `(tactic| try simp only [sSeq, sSet, sExpr, sRet, sIf, sAsg, una, escf, escS, opd, eVar, eC, eBin, eUn, eFn, eCall, eTup, eLst, aCons, aNil, fin, rd, rds, R.toS, dsOf, Rs.bind_ok, Rs.bind_bad, Rs.bind_ex, Rs.opt_some, Option.bind_some, Option.map_some, ownAt, eExt, eApp, ePop, List.getElem?_cons_zero, List.getElem?_cons_succ, List.set_cons_zero, List.set_cons_succ, okArg, List.all_cons, List.all_nil, Bool.and_self, if_true, kName, kTup, ksCons, ksNil, fMax, tOf, List.length_cons, List.length_nil, Bool.not_false, Bool.not_true, if_false, Bool.false_eq_true, lm0, lm1, lm2, lm3, lm4, lm5, lm6, lm7, lm8, lm9, lm10, lm11, lm12, fnM, List.map_cons, List.map_nil, List.replicate, List.cons_append, List.nil_append, Nat.reduceAdd, Nat.reduceSub, sNil, tAndM, tOrM, tNotM, tTru, dTru, eIf, dSub_i, dAdd_i, dLt_i, dLe_i, dGt_i, dGe_i, dEq_i, decide_true, decide_false, eChain, eAndM, eSl, oInt, dNeg, dIx, atI0, atI1, atI2, aDef, fTuple, wv_var, wc_var, wj_var, wb_var, wv_call, wc_call, wj_call, wb_call, wv_rel, wc_rel, wj_rel, wb_rel, wv_same, wc_same, wj_same, wb_same, wv_no, wc_no, wj_no, wb_no, wv_and, wc_and, wj_and, wb_and, wv_or, wc_or, wj_or, wb_or, wv_if, wc_if, wj_if, wb_if, wv_all, wc_all, wj_all, wb_all, wv_some, wc_some, wj_some, wb_some])
local macro_rules | `(tactic| walk_at "ey") => `(tactic| try simp only [sSeq, sSet, sExpr, sRet, sIf, sAsg, una, escf, escS, opd, eVar, eC, eBin, eUn, eFn, eCall, eTup, eLst, aCons, aNil, fin, rd, rds, R.toS, dsOf, Rs.bind_ok, Rs.bind_bad, Rs.bind_ex, Rs.opt_some, Option.bind_some, Option.map_some, ownAt, eExt, eApp, ePop, List.getElem?_cons_zero, List.getElem?_cons_succ, List.set_cons_zero, List.set_cons_succ, okArg, List.all_cons, List.all_nil, Bool.and_self, if_true, kName, kTup, ksCons, ksNil, fMax, tOf, List.length_cons, List.length_nil, Bool.not_false, Bool.not_true, if_false, Bool.false_eq_true, lm0, lm1, lm2, lm3, lm4, lm5, lm6, lm7, lm8, lm9, lm10, lm11, lm12, fnM, List.map_cons, List.map_nil, List.replicate, List.cons_append, List.nil_append, Nat.reduceAdd, Nat.reduceSub, sNil, tAndM, tOrM, tNotM, tTru, dTru, eIf, dSub_i, dAdd_i, dLt_i, dLe_i, dGt_i, dGe_i, dEq_i, decide_true, decide_false, eChain, eAndM, eSl, oInt, dNeg, fInt, aDef, fTuple])

/-- the rows of _law_sames -/
structure Row where
  ks : List Str
  l : Th
  r : Th
def encRow (w : Row) : D := encR w.ks w.l w.r
def fN (e : Str) (t : Th) : Th := .call (nm "f" e) [t]
def gN (e : Str) (a b : Th) : Th := .call (nm "g" e) [a, b]
def cN (e : Str) : Th := .call (nm "c" e) []
def kN (k : Str) : Th := .call k []
def f4 (e : Str) : Th := fN e (fN e (fN e (fN e (gN e (.var 1) (.var 0)))))
def g6 (e : Str) : Th := gN e (gN e (gN e (gN e (gN e (gN e (cN e) (.var 0)) (.var 1)) (.var 2)) (.var 3)) (.var 4)) (.var 5)
def rows (e k : Str) : List Row :=
  [⟨[nm "s" e], fN e (.var 0), .var 0⟩, ⟨[nm "s" e], fN e (fN e (.var 0)), fN e (.var 0)⟩, ⟨[], fN e (cN e), cN e⟩, ⟨[nm "s" e, nm "m" e], gN e (.var 1) (.var 0), .var 1⟩, ⟨[nm "s" e], gN e (.var 0) (kN k), fN e (.var 0)⟩, ⟨[nm "s" e, nm "m" e], gN e (fN e (.var 1)) (.var 0), gN e (.var 1) (.var 0)⟩,
   ⟨[], gN e (cN e) (kN k), cN e⟩, ⟨[nm "s" e, nm "m" e], gN e (.var 1) (.var 0), cN e⟩, ⟨[nm "s" e], gN e (fN e (.var 0)) (kN k), .var 0⟩, ⟨[nm "s" e, nm "m" e], gN e (fN e (.var 1)) (.var 0), fN e (.var 1)⟩,
   ⟨[nm "s" e], .var 0, fN e (.var 0)⟩, ⟨[nm "s" e], fN e (.var 0), gN e (.var 0) (kN k)⟩, ⟨[nm "s" e, nm "s" e], fN e (.var 0), .var 0⟩, ⟨[], cN e, cN e⟩, ⟨[nm "s" e], fN e (.var 0), fN e (.var 0)⟩, ⟨[nm "s" e, nm "m" e], gN e (.var 1) (.var 0), gN e (fN e (.var 1)) (.var 0)⟩,
   ⟨[nm "s" e, nm "m" e], f4 e, gN e (gN e (.var 1) (.var 0)) (.var 0)⟩, ⟨[nm "s" e, nm "m" e], f4 e, gN e (.var 1) (.var 0)⟩,
   ⟨List.replicate 6 (nm "m" e), g6 e, cN e⟩, ⟨List.replicate 7 (nm "m" e), gN e (g6 e) (.var 6), cN e⟩, ⟨List.replicate 7 (nm "m" e), g6 e, cN e⟩]
def rowT : List Bool := [true, true, true, true, true, true, true, true, true, true, false, false, false, false, false, false, false, true, true, false, false]
theorem rows_true (e k : Str) : (rows e k).map (fun w => isR w.ks.length w.l w.r) = rowT := by kernel_rfl
structure RowOk (w : Row) : Prop where
  n : w.ks.length ≤ 10
  ks : ∀ k ∈ w.ks, PyData.strOk k = true
  l : nms w.l = true ∧ size w.l ≤ 100 ∧ depth w.l ≤ 20
  r : nms w.r = true ∧ size w.r ≤ 100 ∧ depth w.r ≤ 20
theorem rows_ok {e : Str} {ks : List Str} (h : RmOk e ks) (k : Str) (hk : PyData.strOk k = true) : ∀ w ∈ rows e k, RowOk w := by
  have hs := nm_ok "s" h.ok
  have hm := nm_ok "m" h.ok
  have hf := nm_ok "f" h.ok
  have hg := nm_ok "g" h.ok
  have hc := nm_ok "c" h.ok
  simp only [rows, List.forall_mem_cons]
  refine ⟨?_, ?_, ?_, ?_, ?_, ?_, ?_, ?_, ?_, ?_, ?_, ?_, ?_, ?_, ?_, ?_, ?_, ?_, ?_, ?_, ?_, fun _ h => by cases h⟩ <;> (constructor <;> simp [fN, gN, cN, kN, f4, g6, nms, nmss, size, sizes, depth, depths, hs, hm, hf, hg, hc, hk])

theorem sames_eq (n : Nat) (e : Str) (ks : List Str) (h : RmOk e ks) (m : List MO) : ∃ k ∈ ks, mir (n + 1) ._law_sames [.d (room e ks)] m = .ok (.l ((rows e k).map encRow)) m := by
  have lo := h.lo
  have hi := h.hi
  match ks, lo, hi with
  | [a, b], _, _ => exact ⟨a, by simp, by kernel_rfl⟩
  | [a, b, c], _, _ => exact ⟨a, by simp, by kernel_rfl⟩
  | [a, b, c, d], _, _ => exact ⟨a, by simp, by kernel_rfl⟩
  | [], lo, _ => simp at lo
  | [_], lo, _ => simp at lo
  | _ :: _ :: _ :: _ :: _ :: r, _, hi => simp at hi
/-! the room as entries -/
theorem addL3 (a b c d e f : D) : dAdd (.lst [a, b, c]) (.lst [d, e, f]) = some (.l [a, b, c, d, e, f]) := rfl
def v0 : D := .tup [.str "var", .int 0]
def v1 : D := .tup [.str "var", .int 1]
def thP (e : Str) : Th := .all (nm "s" e) (.rel (nm "p" e) [.var 0])
def thZ (e : Str) : Th := .rel (nm "z" e) []
def thQ (e : Str) : Th := .some (nm "m" e) (.rel (nm "q" e) [.call (nm "c" e) [], .var 0])
def roomE (e : Str) (ks : List Str) : List En := [.sort (nm "s" e) [], .sort (nm "m" e) ks, .func (nm "c" e) (.tup []) (.str (nm "s" e)), .func (nm "f" e) (.tup [.str (nm "s" e)]) (.str (nm "s" e)), .func (nm "g" e) (.tup [.str (nm "s" e), .str (nm "m" e)]) (.str (nm "s" e)), .rel (nm "p" e) (.tup [.str (nm "s" e)]), .rel (nm "q" e) (.tup [.str (nm "s" e), .str (nm "m" e)]), .rel (nm "z" e) (.tup []),
  .mean (nm "top" e) (.tup [.str (nm "s" e)]) (.tup [.str "same", v0, v0]), .mean (nm "eq" e) (.tup [.str (nm "s" e), .str (nm "s" e)]) (.tup [.str "same", v1, v0]), .taken (nm "hp" e) (enc (thP e)), .taken (nm "hz" e) (enc (thZ e)), .taken (nm "hq" e) (enc (thQ e))]
theorem room_en (e : Str) (ks : List Str) : room e ks = .tup ((roomE e ks).map encE) := by
  kernel_rfl
theorem ixT {xs : List D} {i : Nat} {d : D} (h : xs[i]? = some d) : dIx (.tup xs) (.int (i : Int)) = some (.d d) := by
  show (atI xs (i : Int)).map R.d = _
  rw [atI_nat h]
  rfl
theorem pickD (l : List D) (i : Int) (h : 0 ≤ i) (h2 : i < (l.length : Nat)) : ∃ t ∈ l, dIx (.lst l) (.int i) = some (.d t) := by
  obtain ⟨k, rfl⟩ : ∃ k : Nat, i = (k : Int) := ⟨i.toNat, by omega⟩
  have hk : k < l.length := by omega
  refine ⟨l[k], List.getElem_mem hk, ?_⟩
  show (atI l (k : Int)).map R.d = _
  rw [atI_nat (List.getElem?_eq_getElem hk)]
  rfl
theorem pickR (l : List Row) (i : Int) (h : 0 ≤ i) (h2 : i < (l.length : Nat)) : ∃ t ∈ l, dIx (.lst (l.map encRow)) (.int i) = some (.d (encRow t)) := by
  obtain ⟨d, hd, e⟩ := pickD (l.map encRow) i h (by rw [List.length_map]; exact h2)
  obtain ⟨w, hw, rfl⟩ := List.mem_map.mp hd
  exact ⟨w, hw, e⟩
section
variable (e : Str) (ks : List Str) (fs : List En)
def entD : D := .tup ((roomE e ks ++ fs).map encE)
theorem en0 : dIx (entD e ks fs) (.int 0) = some (.d (.tup [.str "sort", .str (nm "s" e), .tup []])) := ixT (i := 0) rfl
theorem en1 : dIx (entD e ks fs) (.int 1) = some (.d (.tup [.str "sort", .str (nm "m" e), .tup (ks.map D.str)])) := ixT (i := 1) rfl
theorem en3 : dIx (entD e ks fs) (.int 3) = some (.d (.tup [.str "func", .str (nm "f" e), .tup [.str (nm "s" e)], .str (nm "s" e)])) := ixT (i := 3) rfl
theorem en5 : dIx (entD e ks fs) (.int 5) = some (.d (.tup [.str "rel", .str (nm "p" e), .tup [.str (nm "s" e)]])) := ixT (i := 5) rfl
theorem en8 : dIx (entD e ks fs) (.int 8) = some (.d (.tup [.str "mean", .str (nm "top" e), .tup [.str (nm "s" e)], .tup [.str "same", v0, v0]])) := ixT (i := 8) rfl
theorem en10 : dIx (entD e ks fs) (.int 10) = some (.d (.tup [.str "taken", .str (nm "hp" e), enc (thP e)])) := ixT (i := 10) rfl
end
def smF (e : Str) : Th := .same (fN e (.var 0)) (.var 0)
def sht (e : Str) : List Th := [.rel (nm "p" e) [.var 0], .and (smF e) (smF e), .imp .no (smF e), .some (nm "s" e) (smF e), .imp (smF e) .no, .or (smF e) .no]
structure ThOk (t : Th) : Prop where
  n : nms t = true
  s : size t ≤ 2000
  d : depth t ≤ 40
theorem shaped_ok (n : Nat) (e : Str) (ks : List Str) (fs : List En) (h : RmOk e ks) (r : Int) (hr : 0 ≤ r) (m : List MO) : ∃ t, mir (n + 1) ._law_shaped [.d (entD e ks fs), .d (.int r)] m = .ok (.d (enc t)) m ∧ ThOk t ∧ isRule t = false := by
  obtain ⟨u, hu, eu⟩ := pick (sht e) (r % 6) (by omega) (by show _ < 6; omega)
  refine ⟨.all (nm "s" e) u, ?_, ?_⟩
  · show fnM 6 (m__law_shaped (mir n)) _ _ = _
    have i0 := en0 e ks fs
    have i3 := en3 e ks fs
    have i5 := en5 e ks fs
    generalize entD e ks fs = E at i0 i3 i5
    have hm := modA r 6 (by omega)
    have ez : (.lst (encs (sht e)) : D) = .lst [.tup [.str "rel", .str (nm "p" e), .tup [.tup [.str "var", .int 0]]], .tup [.str "and", .tup [.str "same", .tup [.str "call", .str (nm "f" e), .tup [.tup [.str "var", .int 0]]], .tup [.str "var", .int 0]], .tup [.str "same", .tup [.str "call", .str (nm "f" e), .tup [.tup [.str "var", .int 0]]], .tup [.str "var", .int 0]]], .tup [.str "if", .tup [.str "no"], .tup [.str "same", .tup [.str "call", .str (nm "f" e), .tup [.tup [.str "var", .int 0]]], .tup [.str "var", .int 0]]], .tup [.str "some", .str (nm "s" e), .tup [.str "same", .tup [.str "call", .str (nm "f" e), .tup [.tup [.str "var", .int 0]]], .tup [.str "var", .int 0]]], .tup [.str "if", .tup [.str "same", .tup [.str "call", .str (nm "f" e), .tup [.tup [.str "var", .int 0]]], .tup [.str "var", .int 0]], .tup [.str "no"]], .tup [.str "or", .tup [.str "same", .tup [.str "call", .str (nm "f" e), .tup [.tup [.str "var", .int 0]]], .tup [.str "var", .int 0]], .tup [.str "no"]]] := by kernel_rfl
    rw [ez] at eu
    unfold m__law_shaped
    simp only [sSeq, sSet, sExpr, sRet, sIf, sAsg, una, escf, escS, opd, eVar, eC, eBin, eUn, eFn, eCall, eTup, eLst, aCons, aNil, fin, rd, rds, R.toS, dsOf, Rs.bind_ok, Rs.bind_bad, Rs.bind_ex, Rs.opt_some, Option.bind_some, Option.map_some, ownAt, eExt, eApp, ePop, List.getElem?_cons_zero, List.getElem?_cons_succ, List.set_cons_zero, List.set_cons_succ, okArg, List.all_cons, List.all_nil, Bool.and_self, if_true, kName, kTup, ksCons, ksNil, fMax, tOf, List.length_cons, List.length_nil, Bool.not_false, Bool.not_true, if_false, Bool.false_eq_true, lm0, lm1, lm2, lm3, lm4, lm5, lm6, lm7, lm8, lm9, lm10, lm11, lm12, fnM, List.map_cons, List.map_nil, List.replicate, List.cons_append, List.nil_append, Nat.reduceAdd, Nat.reduceSub, sNil, tAndM, tOrM, tNotM, tTru, dTru, eIf, dSub_i, dAdd_i, dLt_i, dLe_i, dGt_i, dGe_i, dEq_i, decide_true, decide_false, eChain, eAndM, eSl, oInt, dNeg, fInt, aDef, fTuple, sPar, i0, i3, i5, i31, i41, hm, eu, addL3, Nat.reduceLeDiff]
    rw [enc]
  · have hs := nm_ok "s" h.ok
    have hp := nm_ok "p" h.ok
    have hf := nm_ok "f" h.ok
    simp only [sht, List.mem_cons, List.not_mem_nil, or_false] at hu
    rcases hu with rfl | rfl | rfl | rfl | rfl | rfl <;> exact ⟨by constructor <;> simp [smF, fN, nms, nmss, size, sizes, depth, depths, hs, hp, hf], rfl⟩
theorem five_of {e : Str} (h : e ∈ [Str.ofString "", Str.ofString "a", Str.ofString "x1", Str.ofString "7", Str.ofString "bb"]) : e = Str.ofString "" ∨ e = Str.ofString "a" ∨ e = Str.ofString "x1" ∨ e = Str.ofString "7" ∨ e = Str.ofString "bb" := by
  simp only [List.mem_cons, List.not_mem_nil, or_false] at h
  exact h
def hdS (x : Str) : Option Nat := x.cps.toList.head?
theorem hp_add {e : Str} {ks : List Str} (h : RmOk e ks) : dAdd (.str (nm "hp" e)) (.str "x") = some (.d (.str (nm "hp" e ++ Str.ofString "x"))) := by
  rcases five_of h.five with rfl | rfl | rfl | rfl | rfl <;> kernel_rfl
theorem hds {e : Str} {ks : List Str} (h : RmOk e ks) : hdS (nm "s" e) ≠ some 114 ∧ hdS (nm "f" e) ≠ some 114 ∧ hdS (nm "p" e) ≠ some 114 ∧ hdS (nm "top" e) ≠ some 114 ∧ hdS (nm "hp" e ++ Str.ofString "x") ≠ some 114 ∧ hdS "" ≠ some 114 ∧ hdS "no" ≠ some 114 ∧ hdS "zz9" ≠ some 114 := by
  rcases five_of h.five with rfl | rfl | rfl | rfl | rfl <;> decide +kernel
def NoR (d : D) : Prop := dIsiN "str" d = some (.d (.bl false)) ∨ ∃ x, d = .str x ∧ hdS x ≠ some 114
theorem addL13 (a b c d e f g h i j k l m n o : D) : dAdd (.lst [a, b, c, d, e, f, g, h, i, j, k, l, m]) (.lst [n, o]) = some (.l [a, b, c, d, e, f, g, h, i, j, k, l, m, n, o]) := rfl
theorem lm13 : (13 ≤ lim) = True := eq_true (by decide)
theorem odd_ok (n : Nat) (e : Str) (ks : List Str) (fs : List En) (h : RmOk e ks) (r : Int) (hr : 0 ≤ r) (m : List MO) : ∃ d, mir (n + 1) ._law_odd [.d (entD e ks fs), .d (.int r)] m = .ok (.d d) m ∧ NoR d := by
  obtain ⟨k, kr, rfl⟩ : ∃ k kr, ks = k :: kr := by
    have := h.lo
    cases ks with
    | nil => simp at this
    | cons a b => exact ⟨a, b, rfl⟩
  obtain ⟨d, hd, ed⟩ := pickD [.non, .int 5, .bl true, .tup [.str "ra"], .lst [.str "ra"], .emp, .str "", .str "no", .str "zz9", .str (nm "s" e), .str (nm "f" e), .str (nm "p" e), .str (nm "top" e), .str k, .str (nm "hp" e ++ Str.ofString "x")] (r % 15) (by omega) (by show _ < 15; omega)
  refine ⟨d, ?_, ?_⟩
  · show fnM 3 (m__law_odd (mir n)) _ _ = _
    have i0 := en0 e (k :: kr) fs
    have i1 := en1 e (k :: kr) fs
    have i3 := en3 e (k :: kr) fs
    have i5 := en5 e (k :: kr) fs
    have i8 := en8 e (k :: kr) fs
    have i10 := en10 e (k :: kr) fs
    have ik : dIx (.tup ((k :: kr).map D.str)) (.int 0) = some (.d (.str k)) := ixT (i := 0) rfl
    generalize entD e (k :: kr) fs = E at i0 i1 i3 i5 i8 i10
    generalize (k :: kr).map D.str = Q at i1 ik
    have hm := modA r 15 (by omega)
    have hx := hp_add h
    unfold m__law_odd
    simp only [sSeq, sSet, sExpr, sRet, sIf, sAsg, una, escf, escS, opd, eVar, eC, eBin, eUn, eFn, eCall, eTup, eLst, aCons, aNil, fin, rd, rds, R.toS, dsOf, Rs.bind_ok, Rs.bind_bad, Rs.bind_ex, Rs.opt_some, Option.bind_some, Option.map_some, ownAt, eExt, eApp, ePop, List.getElem?_cons_zero, List.getElem?_cons_succ, List.set_cons_zero, List.set_cons_succ, okArg, List.all_cons, List.all_nil, Bool.and_self, if_true, kName, kTup, ksCons, ksNil, fMax, tOf, List.length_cons, List.length_nil, Bool.not_false, Bool.not_true, if_false, Bool.false_eq_true, lm0, lm1, lm2, lm3, lm4, lm5, lm6, lm7, lm8, lm9, lm10, lm11, lm12, fnM, List.map_cons, List.map_nil, List.replicate, List.cons_append, List.nil_append, Nat.reduceAdd, Nat.reduceSub, sNil, tAndM, tOrM, tNotM, tTru, dTru, eIf, dSub_i, dAdd_i, dLt_i, dLe_i, dGt_i, dGe_i, dEq_i, decide_true, decide_false, eChain, eAndM, eSl, oInt, dNeg, fInt, aDef, fTuple, i0, i1, i3, i5, i8, i10, i31, i32, i41, ik, hm, hx, ed, addL13, lm13]
  · obtain ⟨h1, h2, h3, h4, h5, h6, h7, h8⟩ := hds h
    have hk : hdS k ≠ some 114 := by
      unfold hdS
      rw [h.kh k List.mem_cons_self]
      decide
    simp only [List.mem_cons, List.not_mem_nil, or_false] at hd
    rcases hd with rfl | rfl | rfl | rfl | rfl | rfl | rfl | rfl | rfl | rfl | rfl | rfl | rfl | rfl | rfl
    · exact .inl (by kernel_rfl)
    · exact .inl (by kernel_rfl)
    · exact .inl (by kernel_rfl)
    · exact .inl (by kernel_rfl)
    · exact .inl (by kernel_rfl)
    · exact .inl (by kernel_rfl)
    · exact .inr ⟨_, rfl, h6⟩
    · exact .inr ⟨_, rfl, h7⟩
    · exact .inr ⟨_, rfl, h8⟩
    · exact .inr ⟨_, rfl, h1⟩
    · exact .inr ⟨_, rfl, h2⟩
    · exact .inr ⟨_, rfl, h3⟩
    · exact .inr ⟨_, rfl, h4⟩
    · exact .inr ⟨_, rfl, hk⟩
    · exact .inr ⟨_, rfl, h5⟩
end L
set_option pp.maxSteps 400
set_option pp.deepTerms false
namespace L
open PySem L2 G
local macro_rules | `(tactic| walk_at "ex") => `(tactic| try simp only [sSeq, sSet, sExpr, sRet, sIf, sAsg, una, escf, escS, opd, eVar, eC, eBin, eUn, eFn, eCall, eTup, eLst, aCons, aNil, fin, rd, rds, R.toS, dsOf, Rs.bind_ok, Rs.bind_bad, Rs.bind_ex, Rs.opt_some, Option.bind_some, Option.map_some, ownAt, eExt, eApp, ePop, List.getElem?_cons_zero, List.getElem?_cons_succ, List.set_cons_zero, List.set_cons_succ, okArg, List.all_cons, List.all_nil, Bool.and_self, if_true, kName, kTup, ksCons, ksNil, fMax, tOf, List.length_cons, List.length_nil, Bool.not_false, Bool.not_true, if_false, Bool.false_eq_true, lm0, lm1, lm2, lm3, lm4, lm5, lm6, lm7, lm8, lm9, lm10, lm11, lm12, fnM, List.map_cons, List.map_nil, List.replicate, List.cons_append, List.nil_append, Nat.reduceAdd, Nat.reduceSub, sNil, tAndM, tOrM, tNotM, tTru, dTru, eIf, dSub_i, dAdd_i, dLt_i, dLe_i, dGt_i, dGe_i, dEq_i, decide_true, decide_false, eChain, eAndM, eSl, oInt, dNeg, dIx, atI0, atI1, atI2, aDef, fTuple, wv_var, wc_var, wj_var, wb_var, wv_call, wc_call, wj_call, wb_call, wv_rel, wc_rel, wj_rel, wb_rel, wv_same, wc_same, wj_same, wb_same, wv_no, wc_no, wj_no, wb_no, wv_and, wc_and, wj_and, wb_and, wv_or, wc_or, wj_or, wb_or, wv_if, wc_if, wj_if, wb_if, wv_all, wc_all, wj_all, wb_all, wv_some, wc_some, wj_some, wb_some])
local macro_rules | `(tactic| walk_at "ey") => `(tactic| try simp only [sSeq, sSet, sExpr, sRet, sIf, sAsg, una, escf, escS, opd, eVar, eC, eBin, eUn, eFn, eCall, eTup, eLst, aCons, aNil, fin, rd, rds, R.toS, dsOf, Rs.bind_ok, Rs.bind_bad, Rs.bind_ex, Rs.opt_some, Option.bind_some, Option.map_some, ownAt, eExt, eApp, ePop, List.getElem?_cons_zero, List.getElem?_cons_succ, List.set_cons_zero, List.set_cons_succ, okArg, List.all_cons, List.all_nil, Bool.and_self, if_true, kName, kTup, ksCons, ksNil, fMax, tOf, List.length_cons, List.length_nil, Bool.not_false, Bool.not_true, if_false, Bool.false_eq_true, lm0, lm1, lm2, lm3, lm4, lm5, lm6, lm7, lm8, lm9, lm10, lm11, lm12, fnM, List.map_cons, List.map_nil, List.replicate, List.cons_append, List.nil_append, Nat.reduceAdd, Nat.reduceSub, sNil, tAndM, tOrM, tNotM, tTru, dTru, eIf, dSub_i, dAdd_i, dLt_i, dLe_i, dGt_i, dGe_i, dEq_i, decide_true, decide_false, eChain, eAndM, eSl, oInt, dNeg, fInt, aDef, fTuple])

/-! _law_ruled -/
theorem stGet (q : Int) (G : List MO) (o : MO) : (sp q (G ++ [o]))[G.length + 1]? = some o := by
  unfold sp
  rw [List.getElem?_cons_succ]
  exact gA0 _ _ _
theorem stSet (q : Int) (G : List MO) (o o' : MO) : (sp q (G ++ [o])).set (G.length + 1) o' = sp q (G ++ [o']) := by
  unfold sp
  rw [List.set_cons_succ, sA0]
structure Cd (ps : List (Key × D)) (cf : Str → Option Row) (i : Nat) : Prop where
  val : ∀ x, valD ps (.inr x) = (cf x).map encRow
  ok : ∀ x w, cf x = some w → RowOk w ∧ hdS x = some 114 ∧ PyData.strOk x = true
  keys : ∃ ss, keyS (ps.map (·.1)) = some ss ∧ ss.length ≤ i
  len : ps.length ≤ i
def Agr (f : Str → Option D) (cf : Str → Option Row) : Prop := ∀ x, (∀ w, cf x = some w → f x = some (enc (wholeT w.ks w.l w.r))) ∧ (cf x = none → f x = none ∨ ∃ t, f x = some (enc t) ∧ ThOk t ∧ isRule t = false)
theorem keyS_app : ∀ (ks : List Key) (ss : List Str) (x : Str), keyS ks = some ss → keyS (ks ++ [.inr x]) = some (ss ++ [x])
  | [], ss, x, h => by cases h; rfl
  | .inr y :: r, ss, x, h => by
    rw [keyS] at h
    cases e : keyS r with
    | none => rw [e] at h; cases h
    | some ts =>
      rw [e] at h
      cases h
      rw [List.cons_append, keyS, keyS_app r ts x e]
      rfl
  | .inl _ :: _, ss, x, h => by cases h
theorem put_keys (ps : List (Key × D)) (k : Key) (d : D) : (putD ps k d).map (·.1) = ps.map (·.1) ∨ (putD ps k d).map (·.1) = ps.map (·.1) ++ [k] := by
  unfold putD
  split
  · left
    rw [List.map_map]
    refine List.map_congr_left fun kv _ => ?_
    show (if kv.1 = k then (kv.1, d) else kv).1 = kv.1
    split <;> rfl
  · right
    rw [List.map_append]
    rfl
theorem Cd.put {ps : List (Key × D)} {cf : Str → Option Row} {i : Nat} (h : Cd ps cf i) (x : Str) (w : Row) (hw : RowOk w) (hx : hdS x = some 114) (hy : PyData.strOk x = true) : Cd (putD ps (.inr x) (encRow w)) (fun y => if x = y then some w else cf y) (i + 1) where
  val := fun y => by
    rw [val_put, h.val y]
    by_cases e : x = y
    · rw [if_pos (congrArg Sum.inr e), if_pos e]; rfl
    · rw [if_neg (fun h => e (Sum.inr.inj h)), if_neg e]
  ok := fun y w' e => by
    by_cases q : x = y
    · rw [if_pos q] at e; cases e; rw [← q]; exact ⟨hw, hx, hy⟩
    · rw [if_neg q] at e; exact h.ok y w' e
  keys := by
    obtain ⟨ss, e, l⟩ := h.keys
    rcases put_keys ps (.inr x) (encRow w) with q | q
    · rw [q]; exact ⟨ss, e, by omega⟩
    · rw [q]; exact ⟨ss ++ [x], keyS_app _ _ _ e, by rw [List.length_append, List.length_singleton]; omega⟩
  len := by have := put_len ps (.inr x) (encRow w); have := h.len; omega
theorem key_val {ps : List (Key × D)} {ss : List Str} (h : keyS (ps.map (·.1)) = some ss) {x : Str} (hx : x ∈ ss) : ∃ d, valD ps (.inr x) = some d := by
  have e := keyS_eq h
  have m : (Sum.inr x : Key) ∈ ps.map (·.1) := by rw [e]; exact List.mem_map.mpr ⟨x, hx, rfl⟩
  obtain ⟨kv, hk, ek⟩ := List.mem_map.mp m
  have a : (ps.any fun kv => decide (kv.1 = Sum.inr x)) = true := List.any_eq_true.mpr ⟨kv, hk, by simpa using ek⟩
  rw [any_val] at a
  exact Option.isSome_iff_exists.mp a
theorem lays_str : ∀ ks : List Str, (∀ k ∈ ks, PyData.strOk k = true) → lays (ks.map D.str) = true
  | [], _ => rfl
  | k :: r, h => by
    rw [List.map_cons, lays, lay, h k List.mem_cons_self, lays_str r (fun x hx => h x (List.mem_cons_of_mem _ hx))]
    rfl
theorem deps_str : ∀ ks : List Str, deps (ks.map D.str) ≤ 1
  | [] => by simp [deps]
  | k :: r => by have := deps_str r; rw [List.map_cons]; simp [deps, dep]; omega
theorem row_lay {w : Row} (h : RowOk w) : lay (encRow w) = true ∧ dep (encRow w) ≤ 200 := by
  unfold encRow encR
  have a := dep_enc w.l
  have b := dep_enc w.r
  have c := deps_str w.ks
  have := h.l
  have := h.r
  constructor
  · simp only [lay, lays, lays_str _ h.ks, lay_enc, h.l.1, h.r.1, Bool.and_self]
  · simp only [dep, deps]
    omega
theorem row_eq {a b : Row} (ha : RowOk a) (hb : RowOk b) : dEq (encRow a) (encRow b) = some (.d (.bl (eqD (encRow a) (encRow b)))) := by
  have e : eqOk (encRow a) (encRow b) = true := by
    unfold eqOk
    have := row_lay ha
    have := row_lay hb
    rw [(row_lay ha).1, (row_lay hb).1, decide_eq_true (by omega)]
    rfl
  unfold dEq
  rw [if_pos e]
theorem rname {e : Str} {ks : List Str} (h : RmOk e ks) (i : Nat) (hi : i < 5) : ∃ a b x, dIx (.str "abcde") (.int (i : Int)) = some (.d (.str a)) ∧ dAdd (.str "r") (.str a) = some (.d (.str b)) ∧ dSl (.str (nm "s" e)) (some 1) none = some (.d (.str e)) ∧ dAdd (.str b) (.str e) = some (.d (.str x)) ∧ hdS x = some 114 ∧ PyData.strOk x = true := by
  refine ⟨⟨#[97 + i]⟩, Str.ofString "r" ++ ⟨#[97 + i]⟩, Str.ofString "r" ++ ⟨#[97 + i]⟩ ++ e, ?_⟩
  match i, hi with
  | 0, _ => rcases five_of h.five with rfl | rfl | rfl | rfl | rfl <;> exact ⟨by kernel_rfl, by kernel_rfl, by kernel_rfl, by kernel_rfl, by kernel_rfl, by kernel_rfl⟩
  | 1, _ => rcases five_of h.five with rfl | rfl | rfl | rfl | rfl <;> exact ⟨by kernel_rfl, by kernel_rfl, by kernel_rfl, by kernel_rfl, by kernel_rfl, by kernel_rfl⟩
  | 2, _ => rcases five_of h.five with rfl | rfl | rfl | rfl | rfl <;> exact ⟨by kernel_rfl, by kernel_rfl, by kernel_rfl, by kernel_rfl, by kernel_rfl, by kernel_rfl⟩
  | 3, _ => rcases five_of h.five with rfl | rfl | rfl | rfl | rfl <;> exact ⟨by kernel_rfl, by kernel_rfl, by kernel_rfl, by kernel_rfl, by kernel_rfl, by kernel_rfl⟩
  | 4, _ => rcases five_of h.five with rfl | rfl | rfl | rfl | rfl <;> exact ⟨by kernel_rfl, by kernel_rfl, by kernel_rfl, by kernel_rfl, by kernel_rfl, by kernel_rfl⟩
theorem tname {e : Str} {ks : List Str} (h : RmOk e ks) : ∃ x, dSl (.str (nm "s" e)) (some 1) none = some (.d (.str e)) ∧ dAdd (.str "t") (.str e) = some (.d (.str x)) ∧ hdS x ≠ some 114 := by
  refine ⟨Str.ofString "t" ++ e, ?_⟩
  rcases five_of h.five with rfl | rfl | rfl | rfl | rfl <;> exact ⟨by kernel_rfl, by kernel_rfl, by decide +kernel⟩
section
variable {e : Str} {ks : List Str} {fs : List En} {ns : List Int} {RL : List D} {G : List MO} {ps : List (Key × D)} {i : Nat} {q : Int} {s5 s6 s7 s8 s9 s10 : Option S}
theorem rb1 {c : Fn → List S → List MO → Rs S (List MO)} {r : Int} {g g' : List MO} (h : c ._law_cell [.d (cl ns), .d (.o 0)] g = .ok (.d (.int r)) g') : ((sSet 6 (eCall (c ._law_cell) (aCons (escf (eVar 1)) (aCons (escf (eVar 2)) aNil)))) : Sm MX Out) ⟨[some (.d (entD e ks fs)), some (.d (cl ns)), some (.d (.o 0)), some (.l RL), some (.d (.o (G.length + 1))), some (.d (.int (i : Int))), s6, s7, s8, s9, s10, none], g⟩ = .ok .nx ⟨[some (.d (entD e ks fs)), some (.d (cl ns)), some (.d (.o 0)), some (.l RL), some (.d (.o (G.length + 1))), some (.d (.int (i : Int))), some (.d (.int r)), s7, s8, s9, s10, none], g'⟩ := by
  simp only [sSeq, sSet, sExpr, sRet, sIf, sAsg, una, escf, escS, opd, eVar, eC, eBin, eUn, eFn, eCall, eTup, eLst, aCons, aNil, fin, rd, rds, R.toS, dsOf, Rs.bind_ok, Rs.bind_bad, Rs.bind_ex, Rs.opt_some, Option.bind_some, Option.map_some, ownAt, eExt, eApp, ePop, List.getElem?_cons_zero, List.getElem?_cons_succ, List.set_cons_zero, List.set_cons_succ, okArg, List.all_cons, List.all_nil, Bool.and_self, if_true, kName, kTup, ksCons, ksNil, fMax, tOf, List.length_cons, List.length_nil, Bool.not_false, Bool.not_true, if_false, Bool.false_eq_true, lm0, lm1, lm2, lm3, lm4, lm5, lm6, lm7, lm8, lm9, lm10, lm11, lm12, fnM, List.map_cons, List.map_nil, List.replicate, List.cons_append, List.nil_append, Nat.reduceAdd, Nat.reduceSub, sNil, tAndM, tOrM, tNotM, tTru, dTru, eIf, dSub_i, dAdd_i, dLt_i, dLe_i, dGt_i, dGe_i, dEq_i, decide_true, decide_false, eChain, eAndM, eSl, oInt, dNeg, fInt, aDef, fTuple, h]
theorem rb2 {r j : Int} {w : Row} {g : List MO} (hr : 0 ≤ r) (hR : fLen [.lst RL] = some (.d (.int 21))) (hj : dIx (.lst [.int (r / 2 % 10), .int (r / 2 % 21)]) (.int (r % 2)) = some (.d (.int j))) (hw : dIx (.lst RL) (.int j) = some (.d (encRow w))) : ((sSet 7 (eBin dIx (eVar 3) (eBin dIx (eLst (aCons (escf (eBin dMod (eBin dFdiv (eVar 6) (eC (.int 2))) (eC (.int 10)))) (aCons (escf (eBin dMod (eBin dFdiv (eVar 6) (eC (.int 2))) (eFn fLen (aCons (opd (eVar 3)) aNil)))) aNil))) (eBin dMod (eVar 6) (eC (.int 2)))))) : Sm MX Out) ⟨[some (.d (entD e ks fs)), some (.d (cl ns)), some (.d (.o 0)), some (.l RL), some (.d (.o (G.length + 1))), some (.d (.int (i : Int))), some (.d (.int r)), s7, s8, s9, s10, none], g⟩ = .ok .nx ⟨[some (.d (entD e ks fs)), some (.d (cl ns)), some (.d (.o 0)), some (.l RL), some (.d (.o (G.length + 1))), some (.d (.int (i : Int))), some (.d (.int r)), some (.d (encRow w)), s8, s9, s10, none], g⟩ := by
  have h1 := divA r 2 (by omega)
  have h2 := modA (r / 2) 10 (by omega)
  have h3 := modA (r / 2) 21 (by omega)
  have h4 := modA r 2 (by omega)
  simp only [sSeq, sSet, sExpr, sRet, sIf, sAsg, una, escf, escS, opd, eVar, eC, eBin, eUn, eFn, eCall, eTup, eLst, aCons, aNil, fin, rd, rds, R.toS, dsOf, Rs.bind_ok, Rs.bind_bad, Rs.bind_ex, Rs.opt_some, Option.bind_some, Option.map_some, ownAt, eExt, eApp, ePop, List.getElem?_cons_zero, List.getElem?_cons_succ, List.set_cons_zero, List.set_cons_succ, okArg, List.all_cons, List.all_nil, Bool.and_self, if_true, kName, kTup, ksCons, ksNil, fMax, tOf, List.length_cons, List.length_nil, Bool.not_false, Bool.not_true, if_false, Bool.false_eq_true, lm0, lm1, lm2, lm3, lm4, lm5, lm6, lm7, lm8, lm9, lm10, lm11, lm12, fnM, List.map_cons, List.map_nil, List.replicate, List.cons_append, List.nil_append, Nat.reduceAdd, Nat.reduceSub, sNil, tAndM, tOrM, tNotM, tTru, dTru, eIf, dSub_i, dAdd_i, dLt_i, dLe_i, dGt_i, dGe_i, dEq_i, decide_true, decide_false, eChain, eAndM, eSl, oInt, dNeg, fInt, aDef, fTuple, hR, h1, h2, h3, h4, hj, hw]
theorem rb3 {a b x : Str} {g : List MO} (h1 : dIx (.str "abcde") (.int (i : Int)) = some (.d (.str a))) (h2 : dAdd (.str "r") (.str a) = some (.d (.str b))) (h3 : dSl (.str (nm "s" e)) (some 1) none = some (.d (.str e))) (h4 : dAdd (.str b) (.str e) = some (.d (.str x))) : ((sSet 8 (eBin dAdd (eBin dAdd (eC (.str "r")) (eBin dIx (eC (.str "abcde")) (eVar 5))) (eSl dSl (eBin dIx (eBin dIx (eVar 0) (eC (.int 0))) (eC (.int 1))) (oInt (eC (.int 1))) (fun z => .ok none z)))) : Sm MX Out) ⟨[some (.d (entD e ks fs)), some (.d (cl ns)), some (.d (.o 0)), some (.l RL), some (.d (.o (G.length + 1))), some (.d (.int (i : Int))), s6, s7, s8, s9, s10, none], g⟩ = .ok .nx ⟨[some (.d (entD e ks fs)), some (.d (cl ns)), some (.d (.o 0)), some (.l RL), some (.d (.o (G.length + 1))), some (.d (.int (i : Int))), s6, s7, some (.d (.str x)), s9, s10, none], g⟩ := by
  have i0 := en0 e ks fs
  generalize entD e ks fs = E at i0
  simp only [sSeq, sSet, sExpr, sRet, sIf, sAsg, una, escf, escS, opd, eVar, eC, eBin, eUn, eFn, eCall, eTup, eLst, aCons, aNil, fin, rd, rds, R.toS, dsOf, Rs.bind_ok, Rs.bind_bad, Rs.bind_ex, Rs.opt_some, Option.bind_some, Option.map_some, ownAt, eExt, eApp, ePop, List.getElem?_cons_zero, List.getElem?_cons_succ, List.set_cons_zero, List.set_cons_succ, okArg, List.all_cons, List.all_nil, Bool.and_self, if_true, kName, kTup, ksCons, ksNil, fMax, tOf, List.length_cons, List.length_nil, Bool.not_false, Bool.not_true, if_false, Bool.false_eq_true, lm0, lm1, lm2, lm3, lm4, lm5, lm6, lm7, lm8, lm9, lm10, lm11, lm12, fnM, List.map_cons, List.map_nil, List.replicate, List.cons_append, List.nil_append, Nat.reduceAdd, Nat.reduceSub, sNil, tAndM, tOrM, tNotM, tTru, dTru, eIf, dSub_i, dAdd_i, dLt_i, dLe_i, dGt_i, dGe_i, dEq_i, decide_true, decide_false, eChain, eAndM, eSl, oInt, dNeg, fInt, aDef, fTuple, h1, h2, h3, h4, i0, i31]
theorem rb4 {w : Row} {cf : Str → Option Row} {k : Nat} (hw : RowOk w) (hc : Cd ps cf k) (hk : k < 64) : ∃ sl : List Str, ((sSet 9 (eLc (iAnyM (eDSort (eVar 4))) (kName 11) (tOf (eBin dEq (eDIx (eVar 4) (eVar 11)) (eVar 7))) (eVar 11) [11])) : Sm MX Out) ⟨[some (.d (entD e ks fs)), some (.d (cl ns)), some (.d (.o 0)), some (.l RL), some (.d (.o (G.length + 1))), some (.d (.int (i : Int))), s6, some (.d (encRow w)), s8, s9, s10, none], sp q (G ++ [.dK ps])⟩ = .ok .nx ⟨[some (.d (entD e ks fs)), some (.d (cl ns)), some (.d (.o 0)), some (.l RL), some (.d (.o (G.length + 1))), some (.d (.int (i : Int))), s6, some (.d (encRow w)), s8, some (.l (sl.map D.str)), s10, none], sp q (G ++ [.dK ps])⟩ ∧ (∀ y ∈ sl, PyData.strOk y = true) := by
  obtain ⟨ss, ek, el⟩ := hc.keys
  have ge := stGet q G (.dK ps)
  have lc : ((eLc (iAnyM (eDSort (eVar 4))) (kName 11) (tOf (eBin dEq (eDIx (eVar 4) (eVar 11)) (eVar 7))) (eVar 11) [11]) : Sm MX S) ⟨[some (.d (entD e ks fs)), some (.d (cl ns)), some (.d (.o 0)), some (.l RL), some (.d (.o (G.length + 1))), some (.d (.int (i : Int))), s6, some (.d (encRow w)), s8, s9, s10, none], sp q (G ++ [.dK ps])⟩ = .ok (.l ((((srtS ss).filter fun y => match valD ps (.inr y) with | some d => eqD d (encRow w) | none => false)).map D.str)) ⟨[some (.d (entD e ks fs)), some (.d (cl ns)), some (.d (.o 0)), some (.l RL), some (.d (.o (G.length + 1))), some (.d (.int (i : Int))), s6, some (.d (encRow w)), s8, s9, s10, none], sp q (G ++ [.dK ps])⟩ := by
    refine elc_filt D.str ?_ rfl (by rw [(srt_perm ss).length_eq]; unfold lim; omega) ?_
    · simp only [iAnyM, escf, eDSort, opd, eVar, List.getElem?_cons_zero, List.getElem?_cons_succ, Rs.bind_ok, dictAt, rd, ge, ek]
      rw [if_pos (by omega)]
      rfl
    · intro y hy
      refine ⟨?_, rfl⟩
      obtain ⟨d, hd⟩ := key_val ek ((srt_perm ss).mem_iff.mp hy)
      have hv := hc.val y
      rw [hd] at hv
      cases ec : cf y with
      | none => rw [ec] at hv; cases hv
      | some w' =>
        rw [ec] at hv
        cases hv
        have q2 := row_eq (hc.ok y w' ec).1 hw
        have dx : (eDIx (eVar 4) (eVar 11) : Sm MX S) ⟨[some (.d (entD e ks fs)), some (.d (cl ns)), some (.d (.o 0)), some (.l RL), some (.d (.o (G.length + 1))), some (.d (.int (i : Int))), s6, some (.d (encRow w)), s8, s9, s10, some (.d (.str y))], sp q (G ++ [.dK ps])⟩ = .ok (.d (encRow w')) ⟨[some (.d (entD e ks fs)), some (.d (cl ns)), some (.d (.o 0)), some (.l RL), some (.d (.o (G.length + 1))), some (.d (.int (i : Int))), s6, some (.d (encRow w)), s8, s9, s10, some (.d (.str y))], sp q (G ++ [.dK ps])⟩ := by
          simp only [eDIx, opd, eVar, List.getElem?_cons_zero, List.getElem?_cons_succ, Rs.bind_ok, dictAt, rd, ge, Option.bind_some, keyD, hd]
        show (tOf (eBin dEq (eDIx (eVar 4) (eVar 11)) (eVar 7)) : Sm MX Bool) ⟨[some (.d (entD e ks fs)), some (.d (cl ns)), some (.d (.o 0)), some (.l RL), some (.d (.o (G.length + 1))), some (.d (.int (i : Int))), s6, some (.d (encRow w)), s8, s9, s10, some (.d (.str y))], sp q (G ++ [.dK ps])⟩ = .ok (match valD ps (.inr y) with | some d => eqD d (encRow w) | none => false) ⟨[some (.d (entD e ks fs)), some (.d (cl ns)), some (.d (.o 0)), some (.l RL), some (.d (.o (G.length + 1))), some (.d (.int (i : Int))), s6, some (.d (encRow w)), s8, s9, s10, some (.d (.str y))], sp q (G ++ [.dK ps])⟩
        simp only [tOf, eBin, opd, dx, Rs.bind_ok, eVar, List.getElem?_cons_zero, List.getElem?_cons_succ, rd, Option.bind_some, q2, fin, R.toS, hd]
  refine ⟨(srtS ss).filter fun y => match valD ps (.inr y) with | some d => eqD d (encRow w) | none => false, by simp only [sSet, una, lc, Rs.bind_ok, List.set_cons_succ, List.set_cons_zero], ?_⟩
  intro y hy
  obtain ⟨d, hd⟩ := key_val ek ((srt_perm ss).mem_iff.mp (List.mem_filter.mp hy).1)
  have hv := hc.val y
  rw [hd] at hv
  cases ec : cf y with
  | none => rw [ec] at hv; cases hv
  | some w' => exact (hc.ok y w' ec).2.2
theorem rb5 {c : Fn → List S → List MO → Rs S (List MO)} {w : Row} {x : Str} {g : List MO} (h : c ._law_whole [.d (encRow w)] g = .ok (.d (enc (wholeT w.ks w.l w.r))) g) : ((sSet 10 (eTup (aCons (escf (eC (.str "taken"))) (aCons (escf (eVar 8)) (aCons (escf (eCall (c ._law_whole) (aCons (escf (eVar 7)) aNil))) aNil))))) : Sm MX Out) ⟨[some (.d (entD e ks fs)), some (.d (cl ns)), some (.d (.o 0)), some (.l RL), some (.d (.o (G.length + 1))), some (.d (.int (i : Int))), s6, some (.d (encRow w)), some (.d (.str x)), s9, s10, none], g⟩ = .ok .nx ⟨[some (.d (entD e ks fs)), some (.d (cl ns)), some (.d (.o 0)), some (.l RL), some (.d (.o (G.length + 1))), some (.d (.int (i : Int))), s6, some (.d (encRow w)), some (.d (.str x)), s9, some (.d (encE (.taken x (enc (wholeT w.ks w.l w.r))))), none], g⟩ := by
  simp only [sSeq, sSet, sExpr, sRet, sIf, sAsg, una, escf, escS, opd, eVar, eC, eBin, eUn, eFn, eCall, eTup, eLst, aCons, aNil, fin, rd, rds, R.toS, dsOf, Rs.bind_ok, Rs.bind_bad, Rs.bind_ex, Rs.opt_some, Option.bind_some, Option.map_some, ownAt, eExt, eApp, ePop, List.getElem?_cons_zero, List.getElem?_cons_succ, List.set_cons_zero, List.set_cons_succ, okArg, List.all_cons, List.all_nil, Bool.and_self, if_true, kName, kTup, ksCons, ksNil, fMax, tOf, List.length_cons, List.length_nil, Bool.not_false, Bool.not_true, if_false, Bool.false_eq_true, lm0, lm1, lm2, lm3, lm4, lm5, lm6, lm7, lm8, lm9, lm10, lm11, lm12, fnM, List.map_cons, List.map_nil, List.replicate, List.cons_append, List.nil_append, Nat.reduceAdd, Nat.reduceSub, sNil, tAndM, tOrM, tNotM, tTru, dTru, eIf, dSub_i, dAdd_i, dLt_i, dLe_i, dGt_i, dGe_i, dEq_i, decide_true, decide_false, eChain, eAndM, eSl, oInt, dNeg, fInt, aDef, fTuple, h]
  rfl
theorem rb6 {c : Fn → List S → List MO → Rs S (List MO)} {w : Row} {x : Str} {g : List MO} {sl : List Str} (hs : ∀ y ∈ sl, PyData.strOk y = true) (h : c ._law_whole [.d (encRow w)] g = .ok (.d (enc (wholeT w.ks w.l w.r))) g) : ∃ E : En, ((sIf (tOf (eBin dNe (eVar 9) (eLst aNil))) (sSet 10 (eTup (aCons (escf (eC (.str "shown"))) (aCons (escf (eVar 8)) (aCons (escf (eCall (c ._law_whole) (aCons (escf (eVar 7)) aNil))) (aCons (escf (eTup (aCons (escf (eC (.str "use"))) (aCons (escf (eBin dIx (eVar 9) (eC (.int 0)))) aNil)))) aNil)))))) sNil) : Sm MX Out) ⟨[some (.d (entD e ks fs)), some (.d (cl ns)), some (.d (.o 0)), some (.l RL), some (.d (.o (G.length + 1))), some (.d (.int (i : Int))), s6, some (.d (encRow w)), some (.d (.str x)), some (.l (sl.map D.str)), some (.d (encE (.taken x (enc (wholeT w.ks w.l w.r))))), none], g⟩ = .ok .nx ⟨[some (.d (entD e ks fs)), some (.d (cl ns)), some (.d (.o 0)), some (.l RL), some (.d (.o (G.length + 1))), some (.d (.int (i : Int))), s6, some (.d (encRow w)), some (.d (.str x)), some (.l (sl.map D.str)), some (.d (encE E)), none], g⟩ ∧ E.w = 1 ∧ E.nm = x ∧ (∀ f, upF f E = fun y => if x = y then some (enc (wholeT w.ks w.l w.r)) else f y) := by
  have hn := ne_nil (lays_str sl hs)
  have t0 : ((tOf (eBin dNe (eVar 9) (eLst aNil))) : Sm MX Bool) ⟨[some (.d (entD e ks fs)), some (.d (cl ns)), some (.d (.o 0)), some (.l RL), some (.d (.o (G.length + 1))), some (.d (.int (i : Int))), s6, some (.d (encRow w)), some (.d (.str x)), some (.l (sl.map D.str)), some (.d (encE (.taken x (enc (wholeT w.ks w.l w.r))))), none], g⟩ = .ok (!(sl.map D.str).isEmpty) ⟨[some (.d (entD e ks fs)), some (.d (cl ns)), some (.d (.o 0)), some (.l RL), some (.d (.o (G.length + 1))), some (.d (.int (i : Int))), s6, some (.d (encRow w)), some (.d (.str x)), some (.l (sl.map D.str)), some (.d (encE (.taken x (enc (wholeT w.ks w.l w.r))))), none], g⟩ := by
    simp only [sSeq, sSet, sExpr, sRet, sIf, sAsg, una, escf, escS, opd, eVar, eC, eBin, eUn, eFn, eCall, eTup, eLst, aCons, aNil, fin, rd, rds, R.toS, dsOf, Rs.bind_ok, Rs.bind_bad, Rs.bind_ex, Rs.opt_some, Option.bind_some, Option.map_some, ownAt, eExt, eApp, ePop, List.getElem?_cons_zero, List.getElem?_cons_succ, List.set_cons_zero, List.set_cons_succ, okArg, List.all_cons, List.all_nil, Bool.and_self, if_true, kName, kTup, ksCons, ksNil, fMax, tOf, List.length_cons, List.length_nil, Bool.not_false, Bool.not_true, if_false, Bool.false_eq_true, lm0, lm1, lm2, lm3, lm4, lm5, lm6, lm7, lm8, lm9, lm10, lm11, lm12, fnM, List.map_cons, List.map_nil, List.replicate, List.cons_append, List.nil_append, Nat.reduceAdd, Nat.reduceSub, sNil, tAndM, tOrM, tNotM, tTru, dTru, eIf, dSub_i, dAdd_i, dLt_i, dLe_i, dGt_i, dGe_i, dEq_i, decide_true, decide_false, eChain, eAndM, eSl, oInt, dNeg, fInt, aDef, fTuple, hn]
  cases sl with
  | nil =>
    refine ⟨.taken x (enc (wholeT w.ks w.l w.r)), ?_, rfl, rfl, fun f => rfl⟩
    rw [if_f t0]
    rfl
  | cons y r =>
    refine ⟨.shown x (enc (wholeT w.ks w.l w.r)) (.tup [.str "use", .str y]), ?_, rfl, rfl, fun f => rfl⟩
    rw [if_t t0]
    have ix : dIx (.lst ((y :: r).map D.str)) (.int 0) = some (.d (.str y)) := by
      show (atI (D.str y :: r.map D.str) 0).map R.d = _
      rw [atI0]; rfl
    simp only [sSeq, sSet, sExpr, sRet, sIf, sAsg, una, escf, escS, opd, eVar, eC, eBin, eUn, eFn, eCall, eTup, eLst, aCons, aNil, fin, rd, rds, R.toS, dsOf, Rs.bind_ok, Rs.bind_bad, Rs.bind_ex, Rs.opt_some, Option.bind_some, Option.map_some, ownAt, eExt, eApp, ePop, List.getElem?_cons_zero, List.getElem?_cons_succ, List.set_cons_zero, List.set_cons_succ, okArg, List.all_cons, List.all_nil, Bool.and_self, if_true, kName, kTup, ksCons, ksNil, fMax, tOf, List.length_cons, List.length_nil, Bool.not_false, Bool.not_true, if_false, Bool.false_eq_true, lm0, lm1, lm2, lm3, lm4, lm5, lm6, lm7, lm8, lm9, lm10, lm11, lm12, fnM, List.map_nil, List.replicate, List.cons_append, List.nil_append, Nat.reduceAdd, Nat.reduceSub, sNil, tAndM, tOrM, tNotM, tTru, dTru, eIf, dSub_i, dAdd_i, dLt_i, dLe_i, dGt_i, dGe_i, dEq_i, decide_true, decide_false, eChain, eAndM, eSl, oInt, dNeg, fInt, aDef, fTuple, h, ix]
    rfl
theorem rb7 {E : En} {g : List MO} (hl : fs.length ≤ 1000) : ((sSet 0 (eBin dAdd (eVar 0) (eTup (aCons (escf (eVar 10)) aNil)))) : Sm MX Out) ⟨[some (.d (entD e ks fs)), some (.d (cl ns)), some (.d (.o 0)), some (.l RL), some (.d (.o (G.length + 1))), some (.d (.int (i : Int))), s6, s7, s8, s9, some (.d (encE E)), none], g⟩ = .ok .nx ⟨[some (.d (entD e ks (fs ++ [E]))), some (.d (cl ns)), some (.d (.o 0)), some (.l RL), some (.d (.o (G.length + 1))), some (.d (.int (i : Int))), s6, s7, s8, s9, some (.d (encE E)), none], g⟩ := by
  have a : dAdd (entD e ks fs) (.tup [encE E]) = some (.t ((roomE e ks ++ (fs ++ [E])).map encE)) := by
    unfold entD dAdd
    simp only
    rw [if_pos (by simp [roomE, lim]; omega), ← List.append_assoc, List.map_append (l₂ := [E])]
    rfl
  generalize hE : entD e ks fs = X at a
  simp only [sSeq, sSet, sExpr, sRet, sIf, sAsg, una, escf, escS, opd, eVar, eC, eBin, eUn, eFn, eCall, eTup, eLst, aCons, aNil, fin, rd, rds, R.toS, dsOf, Rs.bind_ok, Rs.bind_bad, Rs.bind_ex, Rs.opt_some, Option.bind_some, Option.map_some, ownAt, eExt, eApp, ePop, List.getElem?_cons_zero, List.getElem?_cons_succ, List.set_cons_zero, List.set_cons_succ, okArg, List.all_cons, List.all_nil, Bool.and_self, if_true, kName, kTup, ksCons, ksNil, fMax, tOf, List.length_cons, List.length_nil, Bool.not_false, Bool.not_true, if_false, Bool.false_eq_true, lm0, lm1, lm2, lm3, lm4, lm5, lm6, lm7, lm8, lm9, lm10, lm11, lm12, fnM, List.map_cons, List.map_nil, List.replicate, List.cons_append, List.nil_append, Nat.reduceAdd, Nat.reduceSub, sNil, tAndM, tOrM, tNotM, tTru, dTru, eIf, dSub_i, dAdd_i, dLt_i, dLe_i, dGt_i, dGe_i, dEq_i, decide_true, decide_false, eChain, eAndM, eSl, oInt, dNeg, fInt, aDef, fTuple, a]
  rfl
theorem rb8 {w : Row} {x : Str} (hl : ps.length < lim) : ((sDPutM (eVar 7) (eVar 4) (eVar 8)) : Sm MX Out) ⟨[some (.d (entD e ks fs)), some (.d (cl ns)), some (.d (.o 0)), some (.l RL), some (.d (.o (G.length + 1))), some (.d (.int (i : Int))), s6, some (.d (encRow w)), some (.d (.str x)), s9, s10, none], sp q (G ++ [.dK ps])⟩ = .ok .nx ⟨[some (.d (entD e ks fs)), some (.d (cl ns)), some (.d (.o 0)), some (.l RL), some (.d (.o (G.length + 1))), some (.d (.int (i : Int))), s6, some (.d (encRow w)), some (.d (.str x)), s9, s10, none], sp q (G ++ [.dK (putD ps (.inr x) (encRow w))])⟩ := by
  have e := stGet q G (.dK ps)
  simp only [sDPutM, escf, escS, opd, eVar, List.getElem?_cons_zero, List.getElem?_cons_succ, Rs.bind_ok, dictAt, rd, e, Option.bind_some, keyD]
  rw [if_pos hl, stSet]
end
end L
set_option pp.maxSteps 400
set_option pp.deepTerms false
namespace L
open PySem L2 G
local macro_rules | `(tactic| walk_at "ex") => `(tactic| try simp only [sSeq, sSet, sExpr, sRet, sIf, sAsg, una, escf, escS, opd, eVar, eC, eBin, eUn, eFn, eCall, eTup, eLst, aCons, aNil, fin, rd, rds, R.toS, dsOf, Rs.bind_ok, Rs.bind_bad, Rs.bind_ex, Rs.opt_some, Option.bind_some, Option.map_some, ownAt, eExt, eApp, ePop, List.getElem?_cons_zero, List.getElem?_cons_succ, List.set_cons_zero, List.set_cons_succ, okArg, List.all_cons, List.all_nil, Bool.and_self, if_true, kName, kTup, ksCons, ksNil, fMax, tOf, List.length_cons, List.length_nil, Bool.not_false, Bool.not_true, if_false, Bool.false_eq_true, lm0, lm1, lm2, lm3, lm4, lm5, lm6, lm7, lm8, lm9, lm10, lm11, lm12, fnM, List.map_cons, List.map_nil, List.replicate, List.cons_append, List.nil_append, Nat.reduceAdd, Nat.reduceSub, sNil, tAndM, tOrM, tNotM, tTru, dTru, eIf, dSub_i, dAdd_i, dLt_i, dLe_i, dGt_i, dGe_i, dEq_i, decide_true, decide_false, eChain, eAndM, eSl, oInt, dNeg, dIx, atI0, atI1, atI2, aDef, fTuple, wv_var, wc_var, wj_var, wb_var, wv_call, wc_call, wj_call, wb_call, wv_rel, wc_rel, wj_rel, wb_rel, wv_same, wc_same, wj_same, wb_same, wv_no, wc_no, wj_no, wb_no, wv_and, wc_and, wj_and, wb_and, wv_or, wc_or, wj_or, wb_or, wv_if, wc_if, wj_if, wb_if, wv_all, wc_all, wj_all, wb_all, wv_some, wc_some, wj_some, wb_some])
local macro_rules | `(tactic| walk_at "ey") => `(tactic| try simp only [sSeq, sSet, sExpr, sRet, sIf, sAsg, una, escf, escS, opd, eVar, eC, eBin, eUn, eFn, eCall, eTup, eLst, aCons, aNil, fin, rd, rds, R.toS, dsOf, Rs.bind_ok, Rs.bind_bad, Rs.bind_ex, Rs.opt_some, Option.bind_some, Option.map_some, ownAt, eExt, eApp, ePop, List.getElem?_cons_zero, List.getElem?_cons_succ, List.set_cons_zero, List.set_cons_succ, okArg, List.all_cons, List.all_nil, Bool.and_self, if_true, kName, kTup, ksCons, ksNil, fMax, tOf, List.length_cons, List.length_nil, Bool.not_false, Bool.not_true, if_false, Bool.false_eq_true, lm0, lm1, lm2, lm3, lm4, lm5, lm6, lm7, lm8, lm9, lm10, lm11, lm12, fnM, List.map_cons, List.map_nil, List.replicate, List.cons_append, List.nil_append, Nat.reduceAdd, Nat.reduceSub, sNil, tAndM, tOrM, tNotM, tTru, dTru, eIf, dSub_i, dAdd_i, dLt_i, dLe_i, dGt_i, dGe_i, dEq_i, decide_true, decide_false, eChain, eAndM, eSl, oInt, dNeg, fInt, aDef, fTuple])

theorem facts_app (es : List En) (E : En) : factsOf (es ++ [E]) = upF (factsOf es) E := by
  unfold factsOf
  rw [List.foldl_append]
  rfl
theorem agr_room {e : Str} {ks : List Str} (h : RmOk e ks) : Agr (factsOf (roomE e ks)) (fun _ => none) := by
  intro x
  refine And.intro (fun w q => (by cases q)) (fun _ => ?_)
  have hs := nm_ok "s" h.ok
  have hm := nm_ok "m" h.ok
  have hp := nm_ok "p" h.ok
  have hq := nm_ok "q" h.ok
  have hz := nm_ok "z" h.ok
  have hc := nm_ok "c" h.ok
  have e : factsOf (roomE e ks) x = if nm "hq" e = x then some (enc (thQ e)) else if nm "hz" e = x then some (enc (thZ e)) else if nm "hp" e = x then some (enc (thP e)) else none := rfl
  rw [e]
  split
  · exact .inr ⟨_, rfl, by constructor <;> simp [thQ, nms, nmss, size, sizes, depth, depths, hs, hm, hp, hq, hz, hc], rfl⟩
  · split
    · exact .inr ⟨_, rfl, by constructor <;> simp [thZ, nms, nmss, size, sizes, depth, depths, hs, hm, hp, hq, hz, hc], rfl⟩
    · split
      · exact .inr ⟨_, rfl, by constructor <;> simp [thP, nms, nmss, size, sizes, depth, depths, hs, hm, hp, hq, hz, hc], rfl⟩
      · exact .inl rfl
theorem Agr.put {f : Str → Option D} {cf : Str → Option Row} (h : Agr f cf) (x : Str) (w : Row) : Agr (fun y => if x = y then some (enc (wholeT w.ks w.l w.r)) else f y) (fun y => if x = y then some w else cf y) := by
  intro y
  simp only
  by_cases q : x = y
  · rw [if_pos q, if_pos q]
    exact ⟨fun w' e => by cases e; rfl, fun e => by cases e⟩
  · rw [if_neg q, if_neg q]
    exact h y
theorem rbody (n : Nat) (e : Str) (ks : List Str) (k : Str) (fs : List En) (ns : List Int) (G : List MO) (ps : List (Key × D)) (cf : Str → Option Row) (i : Nat) (q : Int) (s6 s7 s8 s9 s10 : Option S) (h : RmOk e ks) (hk : PyData.strOk k = true) (hl : ns.length ≤ 1000) (q0 : 0 ≤ q) (q1 : q < 100000000000000) (hi : i < 5) (hf : fs.length = i) (hw : sumw fs = i) (hc : Cd ps cf i) (ha : Agr (factsOf (roomE e ks ++ fs)) cf) :
    ∃ fs' ps' cf' s6' s7' s8' s9' s10', ((sSeq (sSet 6 (eCall (mir (n + 60) ._law_cell) (aCons (escf (eVar 1)) (aCons (escf (eVar 2)) aNil))))
    (sSeq (sSet 7 (eBin dIx (eVar 3) (eBin dIx (eLst (aCons (escf (eBin dMod (eBin dFdiv (eVar 6) (eC (.int 2))) (eC (.int 10)))) (aCons (escf (eBin dMod (eBin dFdiv (eVar 6) (eC (.int 2))) (eFn fLen (aCons (opd (eVar 3)) aNil)))) aNil))) (eBin dMod (eVar 6) (eC (.int 2))))))
    (sSeq (sSet 8 (eBin dAdd (eBin dAdd (eC (.str "r")) (eBin dIx (eC (.str "abcde")) (eVar 5))) (eSl dSl (eBin dIx (eBin dIx (eVar 0) (eC (.int 0))) (eC (.int 1))) (oInt (eC (.int 1))) (fun z => .ok none z))))
    (sSeq (sSet 9 (eLc (iAnyM (eDSort (eVar 4))) (kName 11) (tOf (eBin dEq (eDIx (eVar 4) (eVar 11)) (eVar 7))) (eVar 11) [11]))
    (sSeq (sSet 10 (eTup (aCons (escf (eC (.str "taken"))) (aCons (escf (eVar 8)) (aCons (escf (eCall (mir (n + 60) ._law_whole) (aCons (escf (eVar 7)) aNil))) aNil)))))
    (sSeq (sIf (tOf (eBin dNe (eVar 9) (eLst aNil))) (sSet 10 (eTup (aCons (escf (eC (.str "shown"))) (aCons (escf (eVar 8)) (aCons (escf (eCall (mir (n + 60) ._law_whole) (aCons (escf (eVar 7)) aNil))) (aCons (escf (eTup (aCons (escf (eC (.str "use"))) (aCons (escf (eBin dIx (eVar 9) (eC (.int 0)))) aNil)))) aNil)))))) sNil)
    (sSeq (sSet 0 (eBin dAdd (eVar 0) (eTup (aCons (escf (eVar 10)) aNil))))
    (sDPutM (eVar 7) (eVar 4) (eVar 8))))))))) : Sm MX Out) ⟨[some (.d (entD e ks fs)), some (.d (cl ns)), some (.d (.o 0)), some (.l ((rows e k).map encRow)), some (.d (.o (G.length + 1))), some (.d (.int (i : Int))), s6, s7, s8, s9, s10, none], sp q (G ++ [.dK ps])⟩ = .ok .nx ⟨[some (.d (entD e ks fs')), some (.d (cl ns)), some (.d (.o 0)), some (.l ((rows e k).map encRow)), some (.d (.o (G.length + 1))), some (.d (.int (i : Int))), s6', s7', s8', s9', s10', none], sp (q + 1) (G ++ [.dK ps'])⟩ ∧ fs'.length = i + 1 ∧ sumw fs' = i + 1 ∧ Cd ps' cf' (i + 1) ∧ Agr (factsOf (roomE e ks ++ fs')) cf' := by
  obtain ⟨r, hr, r0⟩ := cell_ok (n + 59) ns q (G ++ [.dK ps]) hl q0 q1
  obtain ⟨j, hj, j0, j1⟩ : ∃ j : Int, dIx (.lst [.int (r / 2 % 10), .int (r / 2 % 21)]) (.int (r % 2)) = some (.d (.int j)) ∧ 0 ≤ j ∧ j < 21 := by
    have : r % 2 = 0 ∨ r % 2 = 1 := by omega
    rcases this with q | q
    · exact ⟨r / 2 % 10, by rw [q]; rfl, by omega, by omega⟩
    · exact ⟨r / 2 % 21, by rw [q]; rfl, by omega, by omega⟩
  obtain ⟨w, hwm, hwd⟩ := pickR (rows e k) j j0 (by show j < 21; exact j1)
  have wok := rows_ok h k hk w hwm
  obtain ⟨a, b, x, n1, n2, n3, n4, n5, n6⟩ := rname h i hi
  have W := whole_eq (n + 59) w.ks w.l w.r (sp (q + 1) (G ++ [.dK ps]))
  obtain ⟨sl, e4, hs⟩ := rb4 (e := e) (ks := ks) (fs := fs) (ns := ns) (RL := (rows e k).map encRow) (G := G) (i := i) (q := q + 1) (s6 := some (.d (.int r))) (s8 := some (.d (.str x))) (s9 := s9) (s10 := s10) wok hc (by omega)
  obtain ⟨E, e6, ew, en, eu⟩ := rb6 (e := e) (ks := ks) (fs := fs) (ns := ns) (RL := (rows e k).map encRow) (G := G) (i := i) (s6 := some (.d (.int r))) (c := mir (n + 60)) (x := x) hs W
  refine ⟨fs ++ [E], putD ps (.inr x) (encRow w), fun y => if x = y then some w else cf y, some (.d (.int r)), some (.d (encRow w)), some (.d (.str x)), some (.l (sl.map D.str)), some (.d (encE E)), ?_, by rw [List.length_append, List.length_singleton, hf], by rw [sumw_app, sumw, sumw, hw, ew], hc.put x w wok n5 n6, ?_⟩
  · rw [seq_nx (rb1 hr), seq_nx (rb2 r0 rfl hj hwd), seq_nx (rb3 n1 n2 n3 n4), seq_nx e4, seq_nx (rb5 W), seq_nx e6, seq_nx (rb7 (by omega))]
    exact rb8 (by have := hc.len; unfold lim; omega)
  · rw [← List.append_assoc, facts_app, eu]
    exact ha.put x w
end L
set_option pp.maxSteps 400
set_option pp.deepTerms false
namespace L
open PySem L2 G
local macro_rules | `(tactic| walk_at "ex") => `(tactic| try simp only [sSeq, sSet, sExpr, sRet, sIf, sAsg, una, escf, escS, opd, eVar, eC, eBin, eUn, eFn, eCall, eTup, eLst, aCons, aNil, fin, rd, rds, R.toS, dsOf, Rs.bind_ok, Rs.bind_bad, Rs.bind_ex, Rs.opt_some, Option.bind_some, Option.map_some, ownAt, eExt, eApp, ePop, List.getElem?_cons_zero, List.getElem?_cons_succ, List.set_cons_zero, List.set_cons_succ, okArg, List.all_cons, List.all_nil, Bool.and_self, if_true, kName, kTup, ksCons, ksNil, fMax, tOf, List.length_cons, List.length_nil, Bool.not_false, Bool.not_true, if_false, Bool.false_eq_true, lm0, lm1, lm2, lm3, lm4, lm5, lm6, lm7, lm8, lm9, lm10, lm11, lm12, fnM, List.map_cons, List.map_nil, List.replicate, List.cons_append, List.nil_append, Nat.reduceAdd, Nat.reduceSub, sNil, tAndM, tOrM, tNotM, tTru, dTru, eIf, dSub_i, dAdd_i, dLt_i, dLe_i, dGt_i, dGe_i, dEq_i, decide_true, decide_false, eChain, eAndM, eSl, oInt, dNeg, dIx, atI0, atI1, atI2, aDef, fTuple, wv_var, wc_var, wj_var, wb_var, wv_call, wc_call, wj_call, wb_call, wv_rel, wc_rel, wj_rel, wb_rel, wv_same, wc_same, wj_same, wb_same, wv_no, wc_no, wj_no, wb_no, wv_and, wc_and, wj_and, wb_and, wv_or, wc_or, wj_or, wb_or, wv_if, wc_if, wj_if, wb_if, wv_all, wc_all, wj_all, wb_all, wv_some, wc_some, wj_some, wb_some])
local macro_rules | `(tactic| walk_at "ey") => `(tactic| try simp only [sSeq, sSet, sExpr, sRet, sIf, sAsg, una, escf, escS, opd, eVar, eC, eBin, eUn, eFn, eCall, eTup, eLst, aCons, aNil, fin, rd, rds, R.toS, dsOf, Rs.bind_ok, Rs.bind_bad, Rs.bind_ex, Rs.opt_some, Option.bind_some, Option.map_some, ownAt, eExt, eApp, ePop, List.getElem?_cons_zero, List.getElem?_cons_succ, List.set_cons_zero, List.set_cons_succ, okArg, List.all_cons, List.all_nil, Bool.and_self, if_true, kName, kTup, ksCons, ksNil, fMax, tOf, List.length_cons, List.length_nil, Bool.not_false, Bool.not_true, if_false, Bool.false_eq_true, lm0, lm1, lm2, lm3, lm4, lm5, lm6, lm7, lm8, lm9, lm10, lm11, lm12, fnM, List.map_cons, List.map_nil, List.replicate, List.cons_append, List.nil_append, Nat.reduceAdd, Nat.reduceSub, sNil, tAndM, tOrM, tNotM, tTru, dTru, eIf, dSub_i, dAdd_i, dLt_i, dLe_i, dGt_i, dGe_i, dEq_i, decide_true, decide_false, eChain, eAndM, eSl, oInt, dNeg, fInt, aDef, fTuple])

theorem cd0 : Cd [] (fun _ => none) 0 where
  val := fun x => rfl
  ok := fun x w e => by cases e
  keys := ⟨[], rfl, Nat.le_refl _⟩
  len := Nat.le_refl _
theorem room_ent (e : Str) (ks : List Str) : room e ks = entD e ks [] := by
  rw [room_en]
  unfold entD
  rw [List.append_nil]
theorem ruled_ok (n : Nat) (e : Str) (ks : List Str) (ns : List Int) (G : List MO) (q : Int) (h : RmOk e ks) (hl : ns.length ≤ 1000) (q0 : 0 ≤ q) (q1 : q < 10000000000000) :
    ∃ (fs : List En) (ps : List (Key × D)) (cf : Str → Option Row) (q' : Int), mir (n + 61) ._law_ruled [.d (room e ks), .d (cl ns), .d (.o 0)] (sp q G) = .ok (.d (.tup [entD e ks fs, .o (G.length + 1)])) (sp q' (G ++ [.dK ps])) ∧ (q ≤ q' ∧ q' ≤ q + 6) ∧ (fs.length ≤ 5 ∧ sumw fs ≤ 5) ∧ Cd ps cf 5 ∧ Agr (factsOf (roomE e ks ++ fs)) cf := by
  obtain ⟨k, kk, hS⟩ := sames_eq (n + 59) e ks h (sp q G)
  have hk := h.kok k kk
  rw [room_ent] at hS ⊢
  obtain ⟨r, hr, r0⟩ := cell_ok (n + 59) ns q (G ++ [.dK []]) hl q0 (by omega)
  have e1 : ((sSet 3 (eCall (mir (n + 60) ._law_sames) (aCons (escf (eVar 0)) aNil))) : Sm MX Out) ⟨[some (.d (entD e ks [])), some (.d (cl ns)), some (.d (.o 0)), none, none, none, none, none, none, none, none, none], sp q G⟩ = .ok .nx ⟨[some (.d (entD e ks [])), some (.d (cl ns)), some (.d (.o 0)), some (.l ((rows e k).map encRow)), none, none, none, none, none, none, none, none], sp q G⟩ := by
    generalize entD e ks [] = X at hS
    simp only [sSeq, sSet, sExpr, sRet, sIf, sAsg, una, escf, escS, opd, eVar, eC, eBin, eUn, eFn, eCall, eTup, eLst, aCons, aNil, fin, rd, rds, R.toS, dsOf, Rs.bind_ok, Rs.bind_bad, Rs.bind_ex, Rs.opt_some, Option.bind_some, Option.map_some, ownAt, eExt, eApp, ePop, List.getElem?_cons_zero, List.getElem?_cons_succ, List.set_cons_zero, List.set_cons_succ, okArg, List.all_cons, List.all_nil, Bool.and_self, if_true, kName, kTup, ksCons, ksNil, fMax, tOf, List.length_cons, List.length_nil, Bool.not_false, Bool.not_true, if_false, Bool.false_eq_true, lm0, lm1, lm2, lm3, lm4, lm5, lm6, lm7, lm8, lm9, lm10, lm11, lm12, fnM, List.map_cons, List.map_nil, List.replicate, List.cons_append, List.nil_append, Nat.reduceAdd, Nat.reduceSub, sNil, tAndM, tOrM, tNotM, tTru, dTru, eIf, dSub_i, dAdd_i, dLt_i, dLe_i, dGt_i, dGe_i, dEq_i, decide_true, decide_false, eChain, eAndM, eSl, oInt, dNeg, fInt, aDef, fTuple, hS]
  have e2 : (sSet 4 eNewD : Sm MX Out) ⟨[some (.d (entD e ks [])), some (.d (cl ns)), some (.d (.o 0)), some (.l ((rows e k).map encRow)), none, none, none, none, none, none, none, none], sp q G⟩ = .ok .nx ⟨[some (.d (entD e ks [])), some (.d (cl ns)), some (.d (.o 0)), some (.l ((rows e k).map encRow)), some (.d (.o (G.length + 1))), none, none, none, none, none, none, none], sp q (G ++ [.dK []])⟩ := rfl
  have hm := modA r 5 (by omega)
  have j0 : 1 ≤ 1 + r % 5 ∧ 1 + r % 5 ≤ 5 := by omega
  have it := rg1_it (g := (aCons (opd (eBin dAdd (eC (.int 1)) (eBin dMod (eCall (mir (n + 60) ._law_cell) (aCons (escf (eVar 1)) (aCons (escf (eVar 2)) aNil))) (eC (.int 5))))) aNil)) (z := ⟨[some (.d (entD e ks [])), some (.d (cl ns)), some (.d (.o 0)), some (.l ((rows e k).map encRow)), some (.d (.o (G.length + 1))), none, none, none, none, none, none, none], sp q (G ++ [.dK []])⟩) (z1 := ⟨[some (.d (entD e ks [])), some (.d (cl ns)), some (.d (.o 0)), some (.l ((rows e k).map encRow)), some (.d (.o (G.length + 1))), none, none, none, none, none, none, none], sp (q + 1) (G ++ [.dK []])⟩) (j := 1 + r % 5) (by
    have hr' : mir (n + 60) ._law_cell [.d (cl ns), .d (.o 0)] (sp q (G ++ [.dK []])) = .ok (.d (.int r)) (sp (q + 1) (G ++ [.dK []])) := hr
    simp only [sSeq, sSet, sExpr, sRet, sIf, sAsg, una, escf, escS, opd, eVar, eC, eBin, eUn, eFn, eCall, eTup, eLst, aCons, aNil, fin, rd, rds, R.toS, dsOf, Rs.bind_ok, Rs.bind_bad, Rs.bind_ex, Rs.opt_some, Option.bind_some, Option.map_some, ownAt, eExt, eApp, ePop, List.getElem?_cons_zero, List.getElem?_cons_succ, List.set_cons_zero, List.set_cons_succ, okArg, List.all_cons, List.all_nil, Bool.and_self, if_true, kName, kTup, ksCons, ksNil, fMax, tOf, List.length_cons, List.length_nil, Bool.not_false, Bool.not_true, if_false, Bool.false_eq_true, lm0, lm1, lm2, lm3, lm4, lm5, lm6, lm7, lm8, lm9, lm10, lm11, lm12, fnM, List.map_cons, List.map_nil, List.replicate, List.cons_append, List.nil_append, Nat.reduceAdd, Nat.reduceSub, sNil, tAndM, tOrM, tNotM, tTru, dTru, eIf, dSub_i, dAdd_i, dLt_i, dLe_i, dGt_i, dGe_i, dEq_i, decide_true, decide_false, eChain, eAndM, eSl, oInt, dNeg, fInt, aDef, fTuple, hr', hm]) (by omega) (by omega)
  obtain ⟨z', e3, hz⟩ := for_inv (kk := kName (M := MX) 5) (b := (sSeq (sSet 6 (eCall (mir (n + 60) ._law_cell) (aCons (escf (eVar 1)) (aCons (escf (eVar 2)) aNil))))
    (sSeq (sSet 7 (eBin dIx (eVar 3) (eBin dIx (eLst (aCons (escf (eBin dMod (eBin dFdiv (eVar 6) (eC (.int 2))) (eC (.int 10)))) (aCons (escf (eBin dMod (eBin dFdiv (eVar 6) (eC (.int 2))) (eFn fLen (aCons (opd (eVar 3)) aNil)))) aNil))) (eBin dMod (eVar 6) (eC (.int 2))))))
    (sSeq (sSet 8 (eBin dAdd (eBin dAdd (eC (.str "r")) (eBin dIx (eC (.str "abcde")) (eVar 5))) (eSl dSl (eBin dIx (eBin dIx (eVar 0) (eC (.int 0))) (eC (.int 1))) (oInt (eC (.int 1))) (fun z => .ok none z))))
    (sSeq (sSet 9 (eLc (iAnyM (eDSort (eVar 4))) (kName 11) (tOf (eBin dEq (eDIx (eVar 4) (eVar 11)) (eVar 7))) (eVar 11) [11]))
    (sSeq (sSet 10 (eTup (aCons (escf (eC (.str "taken"))) (aCons (escf (eVar 8)) (aCons (escf (eCall (mir (n + 60) ._law_whole) (aCons (escf (eVar 7)) aNil))) aNil)))))
    (sSeq (sIf (tOf (eBin dNe (eVar 9) (eLst aNil))) (sSet 10 (eTup (aCons (escf (eC (.str "shown"))) (aCons (escf (eVar 8)) (aCons (escf (eCall (mir (n + 60) ._law_whole) (aCons (escf (eVar 7)) aNil))) (aCons (escf (eTup (aCons (escf (eC (.str "use"))) (aCons (escf (eBin dIx (eVar 9) (eC (.int 0)))) aNil)))) aNil)))))) sNil)
    (sSeq (sSet 0 (eBin dAdd (eVar 0) (eTup (aCons (escf (eVar 10)) aNil))))
    (sDPutM (eVar 7) (eVar 4) (eVar 8)))))))))) (N := (1 + r % 5).toNat) (fun i z => ∃ (fs : List En) (ps : List (Key × D)) (cf : Str → Option Row) (s5 s6 s7 s8 s9 s10 : Option S), z = ⟨[some (.d (entD e ks fs)), some (.d (cl ns)), some (.d (.o 0)), some (.l ((rows e k).map encRow)), some (.d (.o (G.length + 1))), s5, s6, s7, s8, s9, s10, none], sp (q + 1 + (i : Int)) (G ++ [.dK ps])⟩ ∧ fs.length = i ∧ sumw fs = i ∧ Cd ps cf i ∧ Agr (factsOf (roomE e ks ++ fs)) cf) (fun i z hi hz => by
    obtain ⟨fs, ps, cf, s5, s6, s7, s8, s9, s10, rfl, a1, a2, a3, a4⟩ := hz
    obtain ⟨fs', ps', cf', s6', s7', s8', s9', s10', b0, b1, b2, b3, b4⟩ := rbody n e ks k fs ns G ps cf i (q + 1 + (i : Int)) s6 s7 s8 s9 s10 h hk hl (by omega) (by omega) (by omega) a1 a2 a3 a4
    exact ⟨_, _, rfl, b0, fs', ps', cf', some (.d (.int (i : Int))), s6', s7', s8', s9', s10', by rw [show q + 1 + ((i + 1 : Nat) : Int) = q + 1 + (i : Int) + 1 by omega], b1, b2, b3, b4⟩) (1 + r % 5).toNat 0 ⟨[some (.d (entD e ks [])), some (.d (cl ns)), some (.d (.o 0)), some (.l ((rows e k).map encRow)), some (.d (.o (G.length + 1))), none, none, none, none, none, none, none], sp (q + 1) (G ++ [.dK []])⟩ (by omega) ⟨[], [], fun _ => none, none, none, none, none, none, none, by rw [show q + 1 + ((0 : Nat) : Int) = q + 1 by omega], rfl, rfl, cd0, by rw [List.append_nil]; exact agr_room h⟩
  obtain ⟨fs, ps, cf, s5, s6, s7, s8, s9, s10, rfl, a1, a2, a3, a4⟩ := hz
  have e4 : (sFor (iRg1M (aCons (opd (eBin dAdd (eC (.int 1)) (eBin dMod (eCall (mir (n + 60) ._law_cell) (aCons (escf (eVar 1)) (aCons (escf (eVar 2)) aNil))) (eC (.int 5))))) aNil)) (kName 5) (sSeq (sSet 6 (eCall (mir (n + 60) ._law_cell) (aCons (escf (eVar 1)) (aCons (escf (eVar 2)) aNil))))
    (sSeq (sSet 7 (eBin dIx (eVar 3) (eBin dIx (eLst (aCons (escf (eBin dMod (eBin dFdiv (eVar 6) (eC (.int 2))) (eC (.int 10)))) (aCons (escf (eBin dMod (eBin dFdiv (eVar 6) (eC (.int 2))) (eFn fLen (aCons (opd (eVar 3)) aNil)))) aNil))) (eBin dMod (eVar 6) (eC (.int 2))))))
    (sSeq (sSet 8 (eBin dAdd (eBin dAdd (eC (.str "r")) (eBin dIx (eC (.str "abcde")) (eVar 5))) (eSl dSl (eBin dIx (eBin dIx (eVar 0) (eC (.int 0))) (eC (.int 1))) (oInt (eC (.int 1))) (fun z => .ok none z))))
    (sSeq (sSet 9 (eLc (iAnyM (eDSort (eVar 4))) (kName 11) (tOf (eBin dEq (eDIx (eVar 4) (eVar 11)) (eVar 7))) (eVar 11) [11]))
    (sSeq (sSet 10 (eTup (aCons (escf (eC (.str "taken"))) (aCons (escf (eVar 8)) (aCons (escf (eCall (mir (n + 60) ._law_whole) (aCons (escf (eVar 7)) aNil))) aNil)))))
    (sSeq (sIf (tOf (eBin dNe (eVar 9) (eLst aNil))) (sSet 10 (eTup (aCons (escf (eC (.str "shown"))) (aCons (escf (eVar 8)) (aCons (escf (eCall (mir (n + 60) ._law_whole) (aCons (escf (eVar 7)) aNil))) (aCons (escf (eTup (aCons (escf (eC (.str "use"))) (aCons (escf (eBin dIx (eVar 9) (eC (.int 0)))) aNil)))) aNil)))))) sNil)
    (sSeq (sSet 0 (eBin dAdd (eVar 0) (eTup (aCons (escf (eVar 10)) aNil))))
    (sDPutM (eVar 7) (eVar 4) (eVar 8))))))))) : Sm MX Out) ⟨[some (.d (entD e ks [])), some (.d (cl ns)), some (.d (.o 0)), some (.l ((rows e k).map encRow)), some (.d (.o (G.length + 1))), none, none, none, none, none, none, none], sp q (G ++ [.dK []])⟩ = _ := ci_for it e3
  refine ⟨fs, ps, cf, q + 1 + ((1 + r % 5).toNat : Int), ?_, ⟨by omega, by omega⟩, ⟨by omega, by omega⟩, ⟨a3.val, a3.ok, by obtain ⟨ss, x, y⟩ := a3.keys; exact ⟨ss, x, by omega⟩, by have := a3.len; omega⟩, a4⟩
  show fnM 12 (m__law_ruled (mir (n + 60))) _ _ = _
  rw [fnM_R]
  unfold m__law_ruled
  refine Eq.trans (congrArg fnR ?_) (rfl : fnR (.ok (.rt (.d (.tup [entD e ks fs, .o (G.length + 1)]))) ⟨[some (.d (entD e ks fs)), some (.d (cl ns)), some (.d (.o 0)), some (.l ((rows e k).map encRow)), some (.d (.o (G.length + 1))), s5, s6, s7, s8, s9, s10, none], sp (q + 1 + ((1 + r % 5).toNat : Int)) (G ++ [.dK ps])⟩) = _)
  refine Eq.trans (seq_nx e1) ?_
  refine Eq.trans (seq_nx e2) ?_
  refine Eq.trans (seq_nx e4) ?_
  rfl
end L
set_option pp.maxSteps 400
set_option pp.deepTerms false
namespace L
open PySem L2 G
local macro_rules | `(tactic| walk_at "ex") => `(tactic| try simp only [sSeq, sSet, sExpr, sRet, sIf, sAsg, una, escf, escS, opd, eVar, eC, eBin, eUn, eFn, eCall, eTup, eLst, aCons, aNil, fin, rd, rds, R.toS, dsOf, Rs.bind_ok, Rs.bind_bad, Rs.bind_ex, Rs.opt_some, Option.bind_some, Option.map_some, ownAt, eExt, eApp, ePop, List.getElem?_cons_zero, List.getElem?_cons_succ, List.set_cons_zero, List.set_cons_succ, okArg, List.all_cons, List.all_nil, Bool.and_self, if_true, kName, kTup, ksCons, ksNil, fMax, tOf, List.length_cons, List.length_nil, Bool.not_false, Bool.not_true, if_false, Bool.false_eq_true, lm0, lm1, lm2, lm3, lm4, lm5, lm6, lm7, lm8, lm9, lm10, lm11, lm12, fnM, List.map_cons, List.map_nil, List.replicate, List.cons_append, List.nil_append, Nat.reduceAdd, Nat.reduceSub, sNil, tAndM, tOrM, tNotM, tTru, dTru, eIf, dSub_i, dAdd_i, dLt_i, dLe_i, dGt_i, dGe_i, dEq_i, decide_true, decide_false, eChain, eAndM, eSl, oInt, dNeg, dIx, atI0, atI1, atI2, aDef, fTuple, wv_var, wc_var, wj_var, wb_var, wv_call, wc_call, wj_call, wb_call, wv_rel, wc_rel, wj_rel, wb_rel, wv_same, wc_same, wj_same, wb_same, wv_no, wc_no, wj_no, wb_no, wv_and, wc_and, wj_and, wb_and, wv_or, wc_or, wj_or, wb_or, wv_if, wc_if, wj_if, wb_if, wv_all, wc_all, wj_all, wb_all, wv_some, wc_some, wj_some, wb_some])
local macro_rules | `(tactic| walk_at "ey") => `(tactic| try simp only [sSeq, sSet, sExpr, sRet, sIf, sAsg, una, escf, escS, opd, eVar, eC, eBin, eUn, eFn, eCall, eTup, eLst, aCons, aNil, fin, rd, rds, R.toS, dsOf, Rs.bind_ok, Rs.bind_bad, Rs.bind_ex, Rs.opt_some, Option.bind_some, Option.map_some, ownAt, eExt, eApp, ePop, List.getElem?_cons_zero, List.getElem?_cons_succ, List.set_cons_zero, List.set_cons_succ, okArg, List.all_cons, List.all_nil, Bool.and_self, if_true, kName, kTup, ksCons, ksNil, fMax, tOf, List.length_cons, List.length_nil, Bool.not_false, Bool.not_true, if_false, Bool.false_eq_true, lm0, lm1, lm2, lm3, lm4, lm5, lm6, lm7, lm8, lm9, lm10, lm11, lm12, fnM, List.map_cons, List.map_nil, List.replicate, List.cons_append, List.nil_append, Nat.reduceAdd, Nat.reduceSub, sNil, tAndM, tOrM, tNotM, tTru, dTru, eIf, dSub_i, dAdd_i, dLt_i, dLe_i, dGt_i, dGe_i, dEq_i, decide_true, decide_false, eChain, eAndM, eSl, oInt, dNeg, fInt, aDef, fTuple])

theorem whole_nms (l r : Th) (hl : nms l = true) (hr : nms r = true) : ∀ ks : List Str, (∀ k ∈ ks, PyData.strOk k = true) → nms (wholeT ks l r) = true
  | [], _ => by show nms (.same l r) = true; rw [nms, hl, hr]; rfl
  | k :: rr, h => by
    show nms (.all k (wholeT rr l r)) = true
    rw [nms, h k List.mem_cons_self, whole_nms l r hl hr rr (fun x hx => h x (List.mem_cons_of_mem _ hx))]
    rfl
theorem whole_size (l r : Th) : ∀ ks : List Str, size (wholeT ks l r) = ks.length + (1 + (size l + size r)) ∧ depth (wholeT ks l r) = ks.length + (1 + max (depth l) (depth r))
  | [] => by
    show size (.same l r) = _ ∧ depth (.same l r) = _
    rw [size, depth, List.length_nil]
    omega
  | k :: rr => by
    show size (.all k (wholeT rr l r)) = _ ∧ depth (.all k (wholeT rr l r)) = _
    have := whole_size l r rr
    rw [size, depth, List.length_cons]
    omega
theorem whole_ok {w : Row} (h : RowOk w) : ThOk (wholeT w.ks w.l w.r) where
  n := whole_nms _ _ h.l.1 h.r.1 _ h.ks
  s := by have := whole_size w.l w.r w.ks; have := h.n; have := h.l; have := h.r; omega
  d := by have := whole_size w.l w.r w.ks; have := h.n; have := h.l; have := h.r; omega
def bOf (cf : Str → Option Row) (x : Str) : Bool := match cf x with
  | some w => isR w.ks.length w.l w.r
  | none => false
theorem tells_of {f : Str → Option D} {cf : Str → Option Row} {ps : List (Key × D)} {i : Nat} (ha : Agr f cf) (hc : Cd ps cf i) (x : Str) : Tells f x (bOf cf x) := by
  unfold bOf
  cases e : cf x with
  | some w =>
    have k := whole_ok (hc.ok x w e).1
    exact .inr ⟨_, (ha x).1 w e, k.n, k.s, k.d, (isRule_whole _ _ _).symm⟩
  | none =>
    rcases (ha x).2 e with q | ⟨t, q, k, r⟩
    · exact .inl ⟨q, rfl⟩
    · exact .inr ⟨t, q, k.n, k.s, k.d, r.symm⟩
theorem cf_none {cf : Str → Option Row} {ps : List (Key × D)} {i : Nat} (hc : Cd ps cf i) {x : Str} (h : hdS x ≠ some 114) : cf x = none := by
  cases e : cf x with
  | none => rfl
  | some w => exact (h (hc.ok x w e).2.1).elim
theorem Agr.take {f : Str → Option D} {cf : Str → Option Row} (h : Agr f cf) {x : Str} (hx : cf x = none) {t : Th} (ht : ThOk t) (hr : isRule t = false) : Agr (upF f (.taken x (enc t))) cf := by
  intro y
  show (∀ w, cf y = some w → (if x = y then some (enc t) else f y) = some (enc (wholeT w.ks w.l w.r))) ∧ (cf y = none → (if x = y then some (enc t) else f y) = none ∨ ∃ t', (if x = y then some (enc t) else f y) = some (enc t') ∧ ThOk t' ∧ isRule t' = false)
  by_cases q : x = y
  · subst q
    rw [if_pos rfl]
    exact ⟨fun w e => (by rw [hx] at e; cases e), fun _ => .inr ⟨t, rfl, ht, hr⟩⟩
  · rw [if_neg q]
    exact h y
theorem ent_add (e : Str) (ks : List Str) (fs : List En) (E : En) (hl : fs.length ≤ 1000) : dAdd (entD e ks fs) (.tup [encE E]) = some (.t ((roomE e ks ++ (fs ++ [E])).map encE)) := by
  unfold entD dAdd
  simp only
  rw [if_pos (by simp [roomE, lim]; omega), ← List.append_assoc, List.map_append (l₂ := [E])]
  rfl
theorem ix_nm (E : En) : dIx (encE E) (.int 1) = some (.d (.str E.nm)) := by
  cases E <;> rfl
theorem isiB (b : Bool) : dIsiN "bool" (.bl b) = some (.d (.bl true)) := by cases b <;> kernel_rfl
theorem neB (b : Bool) : dNe (.bl b) (.bl b) = some (.d (.bl false)) := by cases b <;> kernel_rfl
section
variable {s0 s3 s6 s7 s8 s9 s10 s11 s12 s13 : Option S} {ns : List Int} {es : List En} {N : Nat} {g g' : List MO}
/-- one telling of is_rule -/
theorem in_body {x : Str} {b : Bool} (h : mir 200 .is_rule [.d (.tup (es.map encE)), .d (.str x)] g = .ok (.d (.bl b)) g') : ((sSeq (sSet 11 (eCall (mir 200 .is_rule) (aCons (escf (eVar 4)) (aCons (escf (eVar 8)) aNil))))
    (sIf (tOrM (tNotM (tTru dTru (eUn (dIsiN "bool") (eVar 11)))) (tOf (eBin dNe (eVar 11) (eVar 9)))) (sRet (eC (.bl false))) sNil)) : Sm MX Out) ⟨[s0, some (.d (cl ns)), some (.d (.o 0)), s3, some (.d (.tup (es.map encE))), some (.d (.o N)), s6, s7, some (.d (.str x)), some (.d (.bl b)), s10, s11, s12, s13, none], g⟩ = .ok .nx ⟨[s0, some (.d (cl ns)), some (.d (.o 0)), s3, some (.d (.tup (es.map encE))), some (.d (.o N)), s6, s7, some (.d (.str x)), some (.d (.bl b)), s10, some (.d (.bl b)), s12, s13, none], g'⟩ := by
  have e1 : ((sSet 11 (eCall (mir 200 .is_rule) (aCons (escf (eVar 4)) (aCons (escf (eVar 8)) aNil)))) : Sm MX Out) ⟨[s0, some (.d (cl ns)), some (.d (.o 0)), s3, some (.d (.tup (es.map encE))), some (.d (.o N)), s6, s7, some (.d (.str x)), some (.d (.bl b)), s10, s11, s12, s13, none], g⟩ = .ok .nx ⟨[s0, some (.d (cl ns)), some (.d (.o 0)), s3, some (.d (.tup (es.map encE))), some (.d (.o N)), s6, s7, some (.d (.str x)), some (.d (.bl b)), s10, some (.d (.bl b)), s12, s13, none], g'⟩ := by
    generalize es.map encE = X at h
    simp only [sSeq, sSet, sExpr, sRet, sIf, sAsg, una, escf, escS, opd, eVar, eC, eBin, eUn, eFn, eCall, eTup, eLst, aCons, aNil, fin, rd, rds, R.toS, dsOf, Rs.bind_ok, Rs.bind_bad, Rs.bind_ex, Rs.opt_some, Option.bind_some, Option.map_some, ownAt, eExt, eApp, ePop, List.getElem?_cons_zero, List.getElem?_cons_succ, List.set_cons_zero, List.set_cons_succ, okArg, List.all_cons, List.all_nil, Bool.and_self, if_true, kName, kTup, ksCons, ksNil, fMax, tOf, List.length_cons, List.length_nil, Bool.not_false, Bool.not_true, if_false, Bool.false_eq_true, lm0, lm1, lm2, lm3, lm4, lm5, lm6, lm7, lm8, lm9, lm10, lm11, lm12, fnM, List.map_cons, List.map_nil, List.replicate, List.cons_append, List.nil_append, Nat.reduceAdd, Nat.reduceSub, sNil, tAndM, tOrM, tNotM, tTru, dTru, eIf, dSub_i, dAdd_i, dLt_i, dLe_i, dGt_i, dGe_i, dEq_i, decide_true, decide_false, eChain, eAndM, eSl, oInt, dNeg, fInt, aDef, fTuple, h]
  rw [seq_nx e1]
  have t0 : ((tOrM (tNotM (tTru dTru (eUn (dIsiN "bool") (eVar 11)))) (tOf (eBin dNe (eVar 11) (eVar 9)))) : Sm MX Bool) ⟨[s0, some (.d (cl ns)), some (.d (.o 0)), s3, some (.d (.tup (es.map encE))), some (.d (.o N)), s6, s7, some (.d (.str x)), some (.d (.bl b)), s10, some (.d (.bl b)), s12, s13, none], g'⟩ = .ok false ⟨[s0, some (.d (cl ns)), some (.d (.o 0)), s3, some (.d (.tup (es.map encE))), some (.d (.o N)), s6, s7, some (.d (.str x)), some (.d (.bl b)), s10, some (.d (.bl b)), s12, s13, none], g'⟩ := by
    simp only [sSeq, sSet, sExpr, sRet, sIf, sAsg, una, escf, escS, opd, eVar, eC, eBin, eUn, eFn, eCall, eTup, eLst, aCons, aNil, fin, rd, rds, R.toS, dsOf, Rs.bind_ok, Rs.bind_bad, Rs.bind_ex, Rs.opt_some, Option.bind_some, Option.map_some, ownAt, eExt, eApp, ePop, List.getElem?_cons_zero, List.getElem?_cons_succ, List.set_cons_zero, List.set_cons_succ, okArg, List.all_cons, List.all_nil, Bool.and_self, if_true, kName, kTup, ksCons, ksNil, fMax, tOf, List.length_cons, List.length_nil, Bool.not_false, Bool.not_true, if_false, Bool.false_eq_true, lm0, lm1, lm2, lm3, lm4, lm5, lm6, lm7, lm8, lm9, lm10, lm11, lm12, fnM, List.map_cons, List.map_nil, List.replicate, List.cons_append, List.nil_append, Nat.reduceAdd, Nat.reduceSub, sNil, tAndM, tOrM, tNotM, tTru, dTru, eIf, dSub_i, dAdd_i, dLt_i, dLe_i, dGt_i, dGe_i, dEq_i, decide_true, decide_false, eChain, eAndM, eSl, oInt, dNeg, fInt, aDef, fTuple, isiB, neB]
  rw [if_f t0]
  rfl
/-- what is wanted -/
theorem want_eq {x : Str} {cf : Str → Option Row} {ps : List (Key × D)} {i : Nat} (hc : Cd ps cf i) (hg : g[N]? = some (.dK ps)) : ((sSet 9 (eAndM (eDIn true (eVar 8) (eVar 5)) (eCall (mir 200 ._law_is_rule) (aCons (escf (eDIx (eVar 5) (eVar 8))) aNil)))) : Sm MX Out) ⟨[s0, some (.d (cl ns)), some (.d (.o 0)), s3, some (.d (.tup (es.map encE))), some (.d (.o N)), s6, s7, some (.d (.str x)), s9, s10, s11, s12, s13, none], g⟩ = .ok .nx ⟨[s0, some (.d (cl ns)), some (.d (.o 0)), s3, some (.d (.tup (es.map encE))), some (.d (.o N)), s6, s7, some (.d (.str x)), some (.d (.bl (bOf cf x))), s10, s11, s12, s13, none], g⟩ := by
  have v := hc.val x
  have d1 : (eDIn true (eVar 8) (eVar 5) : Sm MX S) ⟨[s0, some (.d (cl ns)), some (.d (.o 0)), s3, some (.d (.tup (es.map encE))), some (.d (.o N)), s6, s7, some (.d (.str x)), s9, s10, s11, s12, s13, none], g⟩ = .ok (.d (.bl (cf x).isSome)) ⟨[s0, some (.d (cl ns)), some (.d (.o 0)), s3, some (.d (.tup (es.map encE))), some (.d (.o N)), s6, s7, some (.d (.str x)), s9, s10, s11, s12, s13, none], g⟩ := by
    simp only [eDIn, opd, eVar, List.getElem?_cons_zero, List.getElem?_cons_succ, Rs.bind_ok, dictAt, rd, hg, Option.bind_some, keyD, if_true, v, Option.isSome_map]
  unfold bOf
  cases e : cf x with
  | none =>
    rw [e] at d1
    simp only [sSet, una, eAndM, tOf, d1, Rs.bind_ok, Option.isSome_none, Bool.false_eq_true, if_false, List.set_cons_succ, List.set_cons_zero]
  | some w =>
    rw [e] at d1 v
    have d2 : (eDIx (eVar 5) (eVar 8) : Sm MX S) ⟨[s0, some (.d (cl ns)), some (.d (.o 0)), s3, some (.d (.tup (es.map encE))), some (.d (.o N)), s6, s7, some (.d (.str x)), s9, s10, s11, s12, s13, none], g⟩ = .ok (.d (encRow w)) ⟨[s0, some (.d (cl ns)), some (.d (.o 0)), s3, some (.d (.tup (es.map encE))), some (.d (.o N)), s6, s7, some (.d (.str x)), s9, s10, s11, s12, s13, none], g⟩ := by
      simp only [eDIx, opd, eVar, List.getElem?_cons_zero, List.getElem?_cons_succ, Rs.bind_ok, dictAt, rd, hg, Option.bind_some, keyD, v, Option.map_some]
    have o := (hc.ok x w e).1
    have l := lir_eq 150 w.ks w.l w.r g (by have := o.n; omega) ⟨o.l.1, by have := o.l; omega, by have := o.l; omega⟩ ⟨o.r.1, by have := o.r; omega, by have := o.r; omega⟩
    have l' : mir 200 ._law_is_rule [.d (encRow w)] g = .ok (.d (.bl (isR w.ks.length w.l w.r))) g := l
    simp only [sSet, una, eAndM, tOf, d1, Rs.bind_ok, Option.isSome_some, if_true, eCall, aCons, aNil, escf, d2, escS, List.all_cons, okArg, List.all_nil, Bool.and_self, l', List.set_cons_succ, List.set_cons_zero]
/-- one entry -/
theorem ent_body {E : En} {f : Str → Option D} {cf : Str → Option Row} {ps : List (Key × D)} {i : Nat} (hf : factsOf es = f) (ha : Agr f cf) (hc : Cd ps cf i) (hg : g[N]? = some (.dK ps)) (hB : sumw es < lim) : ∃ (ext : List MO) (t8 t9 t10 t11 : Option S), ((sSeq (sSet 8 (eBin dIx (eVar 7) (eC (.int 1))))
    (sSeq (sSet 9 (eAndM (eDIn true (eVar 8) (eVar 5)) (eCall (mir 200 ._law_is_rule) (aCons (escf (eDIx (eVar 5) (eVar 8))) aNil))))
    (sFor (iRg1M (aCons (opd (eC (.int 2))) aNil)) (kName 10) (sSeq (sSet 11 (eCall (mir 200 .is_rule) (aCons (escf (eVar 4)) (aCons (escf (eVar 8)) aNil))))
    (sIf (tOrM (tNotM (tTru dTru (eUn (dIsiN "bool") (eVar 11)))) (tOf (eBin dNe (eVar 11) (eVar 9)))) (sRet (eC (.bl false))) sNil))))) : Sm MX Out) ⟨[s0, some (.d (cl ns)), some (.d (.o 0)), s3, some (.d (.tup (es.map encE))), some (.d (.o N)), s6, some (.d (encE E)), s8, s9, s10, s11, s12, s13, none], g⟩ = .ok .nx ⟨[s0, some (.d (cl ns)), some (.d (.o 0)), s3, some (.d (.tup (es.map encE))), some (.d (.o N)), s6, some (.d (encE E)), t8, t9, t10, t11, s12, s13, none], g ++ ext⟩ := by
  have T := tells_of ha hc E.nm
  rw [← hf] at T
  obtain ⟨x1, r1⟩ := is_rule_ok 149 es g E.nm _ hB T
  obtain ⟨x2, r2⟩ := is_rule_ok 149 es (g ++ x1) E.nm _ hB T
  have nm := ix_nm E
  have e1 : ((sSet 8 (eBin dIx (eVar 7) (eC (.int 1)))) : Sm MX Out) ⟨[s0, some (.d (cl ns)), some (.d (.o 0)), s3, some (.d (.tup (es.map encE))), some (.d (.o N)), s6, some (.d (encE E)), s8, s9, s10, s11, s12, s13, none], g⟩ = .ok .nx ⟨[s0, some (.d (cl ns)), some (.d (.o 0)), s3, some (.d (.tup (es.map encE))), some (.d (.o N)), s6, some (.d (encE E)), some (.d (.str E.nm)), s9, s10, s11, s12, s13, none], g⟩ := by
    generalize encE E = X at nm
    simp only [sSeq, sSet, sExpr, sRet, sIf, sAsg, una, escf, escS, opd, eVar, eC, eBin, eUn, eFn, eCall, eTup, eLst, aCons, aNil, fin, rd, rds, R.toS, dsOf, Rs.bind_ok, Rs.bind_bad, Rs.bind_ex, Rs.opt_some, Option.bind_some, Option.map_some, ownAt, eExt, eApp, ePop, List.getElem?_cons_zero, List.getElem?_cons_succ, List.set_cons_zero, List.set_cons_succ, okArg, List.all_cons, List.all_nil, Bool.and_self, if_true, kName, kTup, ksCons, ksNil, fMax, tOf, List.length_cons, List.length_nil, Bool.not_false, Bool.not_true, if_false, Bool.false_eq_true, lm0, lm1, lm2, lm3, lm4, lm5, lm6, lm7, lm8, lm9, lm10, lm11, lm12, fnM, List.map_cons, List.map_nil, List.replicate, List.cons_append, List.nil_append, Nat.reduceAdd, Nat.reduceSub, sNil, tAndM, tOrM, tNotM, tTru, dTru, eIf, dSub_i, dAdd_i, dLt_i, dLe_i, dGt_i, dGe_i, dEq_i, decide_true, decide_false, eChain, eAndM, eSl, oInt, dNeg, fInt, aDef, fTuple, nm]
  refine ⟨x1 ++ x2, some (.d (.str E.nm)), some (.d (.bl (bOf cf E.nm))), some (.d (.int 1)), some (.d (.bl (bOf cf E.nm))), ?_⟩
  rw [seq_nx e1, seq_nx (want_eq hc hg)]
  refine ci_for (ds := [.int 0, .int 1]) (z1 := ⟨[s0, some (.d (cl ns)), some (.d (.o 0)), s3, some (.d (.tup (es.map encE))), some (.d (.o N)), s6, some (.d (encE E)), some (.d (.str E.nm)), some (.d (.bl (bOf cf E.nm))), s10, s11, s12, s13, none], g⟩) (by kernel_rfl) ?_
  rw [for_cons (z1 := ⟨[s0, some (.d (cl ns)), some (.d (.o 0)), s3, some (.d (.tup (es.map encE))), some (.d (.o N)), s6, some (.d (encE E)), some (.d (.str E.nm)), some (.d (.bl (bOf cf E.nm))), some (.d (.int 0)), s11, s12, s13, none], g⟩) rfl (in_body r1)]
  rw [for_cons (z1 := ⟨[s0, some (.d (cl ns)), some (.d (.o 0)), s3, some (.d (.tup (es.map encE))), some (.d (.o N)), s6, some (.d (encE E)), some (.d (.str E.nm)), some (.d (.bl (bOf cf E.nm))), some (.d (.int 1)), some (.d (.bl (bOf cf E.nm))), s12, s13, none], g ++ x1⟩) rfl (in_body r2)]
  rw [List.append_assoc]
  rfl
end
end L
set_option pp.maxSteps 400
set_option pp.deepTerms false
namespace L
open PySem L2 G
local macro_rules | `(tactic| walk_at "ex") => `(tactic| try simp only [sSeq, sSet, sExpr, sRet, sIf, sAsg, una, escf, escS, opd, eVar, eC, eBin, eUn, eFn, eCall, eTup, eLst, aCons, aNil, fin, rd, rds, R.toS, dsOf, Rs.bind_ok, Rs.bind_bad, Rs.bind_ex, Rs.opt_some, Option.bind_some, Option.map_some, ownAt, eExt, eApp, ePop, List.getElem?_cons_zero, List.getElem?_cons_succ, List.set_cons_zero, List.set_cons_succ, okArg, List.all_cons, List.all_nil, Bool.and_self, if_true, kName, kTup, ksCons, ksNil, fMax, tOf, List.length_cons, List.length_nil, Bool.not_false, Bool.not_true, if_false, Bool.false_eq_true, lm0, lm1, lm2, lm3, lm4, lm5, lm6, lm7, lm8, lm9, lm10, lm11, lm12, fnM, List.map_cons, List.map_nil, List.replicate, List.cons_append, List.nil_append, Nat.reduceAdd, Nat.reduceSub, sNil, tAndM, tOrM, tNotM, tTru, dTru, eIf, dSub_i, dAdd_i, dLt_i, dLe_i, dGt_i, dGe_i, dEq_i, decide_true, decide_false, eChain, eAndM, eSl, oInt, dNeg, dIx, atI0, atI1, atI2, aDef, fTuple, wv_var, wc_var, wj_var, wb_var, wv_call, wc_call, wj_call, wb_call, wv_rel, wc_rel, wj_rel, wb_rel, wv_same, wc_same, wj_same, wb_same, wv_no, wc_no, wj_no, wb_no, wv_and, wc_and, wj_and, wb_and, wv_or, wc_or, wj_or, wb_or, wv_if, wc_if, wj_if, wb_if, wv_all, wc_all, wj_all, wb_all, wv_some, wc_some, wj_some, wb_some])
local macro_rules | `(tactic| walk_at "ey") => `(tactic| try simp only [sSeq, sSet, sExpr, sRet, sIf, sAsg, una, escf, escS, opd, eVar, eC, eBin, eUn, eFn, eCall, eTup, eLst, aCons, aNil, fin, rd, rds, R.toS, dsOf, Rs.bind_ok, Rs.bind_bad, Rs.bind_ex, Rs.opt_some, Option.bind_some, Option.map_some, ownAt, eExt, eApp, ePop, List.getElem?_cons_zero, List.getElem?_cons_succ, List.set_cons_zero, List.set_cons_succ, okArg, List.all_cons, List.all_nil, Bool.and_self, if_true, kName, kTup, ksCons, ksNil, fMax, tOf, List.length_cons, List.length_nil, Bool.not_false, Bool.not_true, if_false, Bool.false_eq_true, lm0, lm1, lm2, lm3, lm4, lm5, lm6, lm7, lm8, lm9, lm10, lm11, lm12, fnM, List.map_cons, List.map_nil, List.replicate, List.cons_append, List.nil_append, Nat.reduceAdd, Nat.reduceSub, sNil, tAndM, tOrM, tNotM, tTru, dTru, eIf, dSub_i, dAdd_i, dLt_i, dLe_i, dGt_i, dGe_i, dEq_i, decide_true, decide_false, eChain, eAndM, eSl, oInt, dNeg, fInt, aDef, fTuple])

section
variable {s0 s3 s6 s7 s8 s9 s10 s11 s12 s13 : Option S} {ns : List Int} {es : List En} {N : Nat} {g g' : List MO} {s1 s4 s5 : Option S}
theorem a1 {g1 g2 : List MO} {r : Int} {R0 X : D} (h1 : s1 = some (.l (ns.map D.int)) ∨ s1 = some (.d (cl ns))) (hc : mir 200 ._law_cell [.d (cl ns), .d (.o 0)] g = .ok (.d (.int r)) g1) (he : mir 200 ._law_entries [.d (.int r)] g1 = .ok (.d R0) g1) (hr : mir 200 ._law_ruled [.d R0, .d (cl ns), .d (.o 0)] g1 = .ok (.d (.tup [X, .o N])) g2) : ((sAsg (eCall (mir 200 ._law_ruled) (aCons (escf (eCall (mir 200 ._law_entries) (aCons (escf (eCall (mir 200 ._law_cell) (aCons (escf (eVar 1)) (aCons (escf (eVar 2)) aNil)))) aNil))) (aCons (escf (eVar 1)) (aCons (escf (eVar 2)) aNil)))) (kTup 2 (ksCons (kName 4) (ksCons (kName 5) ksNil)))) : Sm MX Out) ⟨[s0, s1, some (.d (.o 0)), s3, s4, s5, s6, s7, s8, s9, s10, s11, s12, s13, none], g⟩ = .ok .nx ⟨[s0, some (.d (cl ns)), some (.d (.o 0)), s3, some (.d X), some (.d (.o N)), s6, s7, s8, s9, s10, s11, s12, s13, none], g2⟩ := by
  unfold cl at *
  rcases h1 with rfl | rfl <;> simp only [sSeq, sSet, sExpr, sRet, sIf, sAsg, una, escf, escS, opd, eVar, eC, eBin, eUn, eFn, eCall, eTup, eLst, aCons, aNil, fin, rd, rds, R.toS, dsOf, Rs.bind_ok, Rs.bind_bad, Rs.bind_ex, Rs.opt_some, Option.bind_some, Option.map_some, ownAt, eExt, eApp, ePop, List.getElem?_cons_zero, List.getElem?_cons_succ, List.set_cons_zero, List.set_cons_succ, okArg, List.all_cons, List.all_nil, Bool.and_self, if_true, kName, kTup, ksCons, ksNil, fMax, tOf, List.length_cons, List.length_nil, Bool.not_false, Bool.not_true, if_false, Bool.false_eq_true, lm0, lm1, lm2, lm3, lm4, lm5, lm6, lm7, lm8, lm9, lm10, lm11, lm12, fnM, List.map_cons, List.map_nil, List.replicate, List.cons_append, List.nil_append, Nat.reduceAdd, Nat.reduceSub, sNil, tAndM, tOrM, tNotM, tTru, dTru, eIf, dSub_i, dAdd_i, dLt_i, dLe_i, dGt_i, dGe_i, dEq_i, decide_true, decide_false, eChain, eAndM, eSl, oInt, dNeg, fInt, aDef, fTuple, eq_self, Nat.reduceEqDiff, hc, he, hr]
theorem a2 {r : Int} {X : D} (hc : mir 200 ._law_cell [.d (cl ns), .d (.o 0)] g = .ok (.d (.int r)) g') : ((sSet 6 (eCall (mir 200 ._law_cell) (aCons (escf (eVar 1)) (aCons (escf (eVar 2)) aNil)))) : Sm MX Out) ⟨[s0, some (.d (cl ns)), some (.d (.o 0)), s3, some (.d X), some (.d (.o N)), s6, s7, s8, s9, s10, s11, s12, s13, none], g⟩ = .ok .nx ⟨[s0, some (.d (cl ns)), some (.d (.o 0)), s3, some (.d X), some (.d (.o N)), some (.d (.int r)), s7, s8, s9, s10, s11, s12, s13, none], g'⟩ := by
  simp only [sSeq, sSet, sExpr, sRet, sIf, sAsg, una, escf, escS, opd, eVar, eC, eBin, eUn, eFn, eCall, eTup, eLst, aCons, aNil, fin, rd, rds, R.toS, dsOf, Rs.bind_ok, Rs.bind_bad, Rs.bind_ex, Rs.opt_some, Option.bind_some, Option.map_some, ownAt, eExt, eApp, ePop, List.getElem?_cons_zero, List.getElem?_cons_succ, List.set_cons_zero, List.set_cons_succ, okArg, List.all_cons, List.all_nil, Bool.and_self, if_true, kName, kTup, ksCons, ksNil, fMax, tOf, List.length_cons, List.length_nil, Bool.not_false, Bool.not_true, if_false, Bool.false_eq_true, lm0, lm1, lm2, lm3, lm4, lm5, lm6, lm7, lm8, lm9, lm10, lm11, lm12, fnM, List.map_cons, List.map_nil, List.replicate, List.cons_append, List.nil_append, Nat.reduceAdd, Nat.reduceSub, sNil, tAndM, tOrM, tNotM, tTru, dTru, eIf, dSub_i, dAdd_i, dLt_i, dLe_i, dGt_i, dGe_i, dEq_i, decide_true, decide_false, eChain, eAndM, eSl, oInt, dNeg, fInt, aDef, fTuple, eq_self, Nat.reduceEqDiff, hc]
theorem a3 {e : Str} {ks : List Str} {fs : List En} {r : Int} {x : Str} {t : Th} (hl : fs.length ≤ 1000) (h3 : dSl (.str (nm "s" e)) (some 1) none = some (.d (.str e))) (h4 : dAdd (.str "t") (.str e) = some (.d (.str x))) (hs : mir 200 ._law_shaped [.d (entD e ks fs), .d (.int r)] g = .ok (.d (enc t)) g) : ((sSet 4 (eBin dAdd (eVar 4) (eTup (aCons (escf (eTup (aCons (escf (eC (.str "taken"))) (aCons (escf (eBin dAdd (eC (.str "t")) (eSl dSl (eBin dIx (eBin dIx (eVar 4) (eC (.int 0))) (eC (.int 1))) (oInt (eC (.int 1))) (fun z => .ok none z)))) (aCons (escf (eCall (mir 200 ._law_shaped) (aCons (escf (eVar 4)) (aCons (escf (eVar 6)) aNil)))) aNil))))) aNil)))) : Sm MX Out) ⟨[s0, some (.d (cl ns)), some (.d (.o 0)), s3, some (.d (entD e ks fs)), some (.d (.o N)), some (.d (.int r)), s7, s8, s9, s10, s11, s12, s13, none], g⟩ = .ok .nx ⟨[s0, some (.d (cl ns)), some (.d (.o 0)), s3, some (.d (.tup ((roomE e ks ++ (fs ++ [En.taken x (enc t)])).map encE))), some (.d (.o N)), some (.d (.int r)), s7, s8, s9, s10, s11, s12, s13, none], g⟩ := by
  have i0 := en0 e ks fs
  have a := ent_add e ks fs (.taken x (enc t)) hl
  have ae : encE (.taken x (enc t)) = .tup [.str "taken", .str x, enc t] := rfl
  rw [ae] at a
  generalize entD e ks fs = E at i0 a hs
  simp only [sSeq, sSet, sExpr, sRet, sIf, sAsg, una, escf, escS, opd, eVar, eC, eBin, eUn, eFn, eCall, eTup, eLst, aCons, aNil, fin, rd, rds, R.toS, dsOf, Rs.bind_ok, Rs.bind_bad, Rs.bind_ex, Rs.opt_some, Option.bind_some, Option.map_some, ownAt, eExt, eApp, ePop, List.getElem?_cons_zero, List.getElem?_cons_succ, List.set_cons_zero, List.set_cons_succ, okArg, List.all_cons, List.all_nil, Bool.and_self, if_true, kName, kTup, ksCons, ksNil, fMax, tOf, List.length_cons, List.length_nil, Bool.not_false, Bool.not_true, if_false, Bool.false_eq_true, lm0, lm1, lm2, lm3, lm4, lm5, lm6, lm7, lm8, lm9, lm10, lm11, lm12, fnM, List.map_cons, List.map_nil, List.replicate, List.cons_append, List.nil_append, Nat.reduceAdd, Nat.reduceSub, sNil, tAndM, tOrM, tNotM, tTru, dTru, eIf, dSub_i, dAdd_i, dLt_i, dLe_i, dGt_i, dGe_i, dEq_i, decide_true, decide_false, eChain, eAndM, eSl, oInt, dNeg, fInt, aDef, fTuple, eq_self, Nat.reduceEqDiff, i0, i31, h3, h4, hs, a]
theorem a4 {f : Str → Option D} {cf : Str → Option Row} {ps : List (Key × D)} {i : Nat} (hf : factsOf es = f) (ha : Agr f cf) (hc : Cd ps cf i) (hg : g[N]? = some (.dK ps)) (hB : sumw es < lim) : ∃ (t7 t8 t9 t10 t11 : Option S) (ext : List MO), ((sFor (iAnyM (eVar 4)) (kName 7) (sSeq (sSet 8 (eBin dIx (eVar 7) (eC (.int 1))))
    (sSeq (sSet 9 (eAndM (eDIn true (eVar 8) (eVar 5)) (eCall (mir 200 ._law_is_rule) (aCons (escf (eDIx (eVar 5) (eVar 8))) aNil))))
    (sFor (iRg1M (aCons (opd (eC (.int 2))) aNil)) (kName 10) (sSeq (sSet 11 (eCall (mir 200 .is_rule) (aCons (escf (eVar 4)) (aCons (escf (eVar 8)) aNil))))
    (sIf (tOrM (tNotM (tTru dTru (eUn (dIsiN "bool") (eVar 11)))) (tOf (eBin dNe (eVar 11) (eVar 9)))) (sRet (eC (.bl false))) sNil)))))) : Sm MX Out) ⟨[s0, some (.d (cl ns)), some (.d (.o 0)), s3, some (.d (.tup (es.map encE))), some (.d (.o N)), s6, s7, s8, s9, s10, s11, s12, s13, none], g⟩ = .ok .nx ⟨[s0, some (.d (cl ns)), some (.d (.o 0)), s3, some (.d (.tup (es.map encE))), some (.d (.o N)), s6, t7, t8, t9, t10, t11, s12, s13, none], g ++ ext⟩ := by
  obtain ⟨z', e1, t7, t8, t9, t10, t11, ext, rfl⟩ := for_list (kk := kName (M := MX) 7) (b := (sSeq (sSet 8 (eBin dIx (eVar 7) (eC (.int 1))))
    (sSeq (sSet 9 (eAndM (eDIn true (eVar 8) (eVar 5)) (eCall (mir 200 ._law_is_rule) (aCons (escf (eDIx (eVar 5) (eVar 8))) aNil))))
    (sFor (iRg1M (aCons (opd (eC (.int 2))) aNil)) (kName 10) (sSeq (sSet 11 (eCall (mir 200 .is_rule) (aCons (escf (eVar 4)) (aCons (escf (eVar 8)) aNil))))
    (sIf (tOrM (tNotM (tTru dTru (eUn (dIsiN "bool") (eVar 11)))) (tOf (eBin dNe (eVar 11) (eVar 9)))) (sRet (eC (.bl false))) sNil)))))) (fun z => ∃ (t7 t8 t9 t10 t11 : Option S) (ext : List MO), z = ⟨[s0, some (.d (cl ns)), some (.d (.o 0)), s3, some (.d (.tup (es.map encE))), some (.d (.o N)), s6, t7, t8, t9, t10, t11, s12, s13, none], g ++ ext⟩) (es.map encE) ⟨[s0, some (.d (cl ns)), some (.d (.o 0)), s3, some (.d (.tup (es.map encE))), some (.d (.o N)), s6, s7, s8, s9, s10, s11, s12, s13, none], g⟩ (fun d hd z hz => by
    obtain ⟨t7, t8, t9, t10, t11, ext, rfl⟩ := hz
    obtain ⟨E, hE, rfl⟩ := List.mem_map.mp hd
    obtain ⟨ext2, u8, u9, u10, u11, e2⟩ := ent_body (E := E) (s0 := s0) (s3 := s3) (s6 := s6) (s8 := t8) (s9 := t9) (s10 := t10) (s11 := t11) (s12 := s12) (s13 := s13) (ns := ns) (es := es) (N := N) (g := g ++ ext) hf ha hc (gP hg) hB
    exact ⟨_, _, rfl, e2, some (.d (encE E)), u8, u9, u10, u11, ext ++ ext2, by rw [List.append_assoc]⟩) ⟨s7, s8, s9, s10, s11, [], by rw [List.append_nil]⟩
  exact ⟨t7, t8, t9, t10, t11, ext, ci_for (ds := es.map encE) (z1 := ⟨[s0, some (.d (cl ns)), some (.d (.o 0)), s3, some (.d (.tup (es.map encE))), some (.d (.o N)), s6, s7, s8, s9, s10, s11, s12, s13, none], g⟩) (by kernel_rfl) e1⟩
theorem a5 {r : Int} {d : D} (ho : mir 200 ._law_odd [.d (.tup (es.map encE)), .d (.int (r / 6))] g = .ok (.d d) g) (hr : mir 200 .is_rule [.d (.tup (es.map encE)), .d d] g = .ok (.d (.bl false)) g') : ((sIf (tOf (eBin dIsNot (eCall (mir 200 .is_rule) (aCons (escf (eVar 4)) (aCons (escf (eCall (mir 200 ._law_odd) (aCons (escf (eVar 4)) (aCons (escf (eBin dFdiv (eVar 6) (eC (.int 6)))) aNil)))) aNil))) (eC (.bl false)))) (sRet (eC (.bl false))) sNil) : Sm MX Out) ⟨[s0, some (.d (cl ns)), some (.d (.o 0)), s3, some (.d (.tup (es.map encE))), some (.d (.o N)), some (.d (.int r)), s7, s8, s9, s10, s11, s12, s13, none], g⟩ = .ok .nx ⟨[s0, some (.d (cl ns)), some (.d (.o 0)), s3, some (.d (.tup (es.map encE))), some (.d (.o N)), some (.d (.int r)), s7, s8, s9, s10, s11, s12, s13, none], g'⟩ := by
  have hd := divA r 6 (by omega)
  have hn : dIsNot (.bl false) (.bl false) = some (.d (.bl false)) := rfl
  generalize es.map encE = X at ho hr
  simp only [sSeq, sSet, sExpr, sRet, sIf, sAsg, una, escf, escS, opd, eVar, eC, eBin, eUn, eFn, eCall, eTup, eLst, aCons, aNil, fin, rd, rds, R.toS, dsOf, Rs.bind_ok, Rs.bind_bad, Rs.bind_ex, Rs.opt_some, Option.bind_some, Option.map_some, ownAt, eExt, eApp, ePop, List.getElem?_cons_zero, List.getElem?_cons_succ, List.set_cons_zero, List.set_cons_succ, okArg, List.all_cons, List.all_nil, Bool.and_self, if_true, kName, kTup, ksCons, ksNil, fMax, tOf, List.length_cons, List.length_nil, Bool.not_false, Bool.not_true, if_false, Bool.false_eq_true, lm0, lm1, lm2, lm3, lm4, lm5, lm6, lm7, lm8, lm9, lm10, lm11, lm12, fnM, List.map_cons, List.map_nil, List.replicate, List.cons_append, List.nil_append, Nat.reduceAdd, Nat.reduceSub, sNil, tAndM, tOrM, tNotM, tTru, dTru, eIf, dSub_i, dAdd_i, dLt_i, dLe_i, dGt_i, dGe_i, dEq_i, decide_true, decide_false, eChain, eAndM, eSl, oInt, dNeg, fInt, aDef, fTuple, eq_self, Nat.reduceEqDiff, hd, ho, hr, hn]
theorem body_ok (hl : ns.length ≤ 1000) (G : List MO) (q : Int) (q0 : 0 ≤ q) (q1 : q < 1000000000000) (h1 : s1 = some (.l (ns.map D.int)) ∨ s1 = some (.d (cl ns))) : ∃ (G' : List MO) (q' : Int) (t4 t5 t6 t7 t8 t9 t10 t11 : Option S), ((sSeq (sAsg (eCall (mir 200 ._law_ruled) (aCons (escf (eCall (mir 200 ._law_entries) (aCons (escf (eCall (mir 200 ._law_cell) (aCons (escf (eVar 1)) (aCons (escf (eVar 2)) aNil)))) aNil))) (aCons (escf (eVar 1)) (aCons (escf (eVar 2)) aNil)))) (kTup 2 (ksCons (kName 4) (ksCons (kName 5) ksNil))))
    (sSeq (sSet 6 (eCall (mir 200 ._law_cell) (aCons (escf (eVar 1)) (aCons (escf (eVar 2)) aNil))))
    (sSeq (sSet 4 (eBin dAdd (eVar 4) (eTup (aCons (escf (eTup (aCons (escf (eC (.str "taken"))) (aCons (escf (eBin dAdd (eC (.str "t")) (eSl dSl (eBin dIx (eBin dIx (eVar 4) (eC (.int 0))) (eC (.int 1))) (oInt (eC (.int 1))) (fun z => .ok none z)))) (aCons (escf (eCall (mir 200 ._law_shaped) (aCons (escf (eVar 4)) (aCons (escf (eVar 6)) aNil)))) aNil))))) aNil))))
    (sSeq (sFor (iAnyM (eVar 4)) (kName 7) (sSeq (sSet 8 (eBin dIx (eVar 7) (eC (.int 1))))
    (sSeq (sSet 9 (eAndM (eDIn true (eVar 8) (eVar 5)) (eCall (mir 200 ._law_is_rule) (aCons (escf (eDIx (eVar 5) (eVar 8))) aNil))))
    (sFor (iRg1M (aCons (opd (eC (.int 2))) aNil)) (kName 10) (sSeq (sSet 11 (eCall (mir 200 .is_rule) (aCons (escf (eVar 4)) (aCons (escf (eVar 8)) aNil))))
    (sIf (tOrM (tNotM (tTru dTru (eUn (dIsiN "bool") (eVar 11)))) (tOf (eBin dNe (eVar 11) (eVar 9)))) (sRet (eC (.bl false))) sNil))))))
    (sIf (tOf (eBin dIsNot (eCall (mir 200 .is_rule) (aCons (escf (eVar 4)) (aCons (escf (eCall (mir 200 ._law_odd) (aCons (escf (eVar 4)) (aCons (escf (eBin dFdiv (eVar 6) (eC (.int 6)))) aNil)))) aNil))) (eC (.bl false)))) (sRet (eC (.bl false))) sNil))))) : Sm MX Out) ⟨[s0, s1, some (.d (.o 0)), s3, s4, s5, s6, s7, s8, s9, s10, s11, s12, s13, none], sp q G⟩ = .ok .nx ⟨[s0, some (.d (cl ns)), some (.d (.o 0)), s3, t4, t5, t6, t7, t8, t9, t10, t11, s12, s13, none], sp q' G'⟩ ∧ q ≤ q' ∧ q' ≤ q + 8 := by
  obtain ⟨r, hr, r0⟩ := cell_ok 199 ns q G hl q0 (by omega)
  obtain ⟨e, ks, he, hm⟩ := entries_ok 199 r (sp (q + 1) G) r0
  obtain ⟨fs, ps, cf, q', hu, ⟨qa, qb⟩, ⟨fa, fb⟩, hc, ha⟩ := ruled_ok 139 e ks ns G (q + 1) hm hl (by omega) (by omega)
  obtain ⟨r2, hr2, r20⟩ := cell_ok 199 ns q' (G ++ [.dK ps]) hl (by omega) (by omega)
  obtain ⟨t, hs, tk, tr⟩ := shaped_ok 199 e ks fs hm r2 r20 (sp (q' + 1) (G ++ [.dK ps]))
  obtain ⟨x, x1, x2, x3⟩ := tname hm
  have ha2 : Agr (factsOf (roomE e ks ++ (fs ++ [En.taken x (enc t)]))) cf := by
    rw [← List.append_assoc, facts_app]
    exact ha.take (cf_none hc x3) tk tr
  have hB : sumw (roomE e ks ++ (fs ++ [En.taken x (enc t)])) < lim := by
    rw [sumw_app, sumw_app]
    have := hm.hi
    simp only [roomE, sumw, En.w, List.length_nil]
    unfold lim
    omega
  obtain ⟨t7, t8, t9, t10, t11, ext, e4⟩ := a4 (s0 := s0) (s3 := s3) (s6 := some (.d (.int r2))) (s7 := s7) (s8 := s8) (s9 := s9) (s10 := s10) (s11 := s11) (s12 := s12) (s13 := s13) (ns := ns) (N := G.length + 1) (g := sp (q' + 1) (G ++ [.dK ps])) rfl ha2 hc (stGet _ _ _) hB
  obtain ⟨d, ho, hn⟩ := odd_ok 199 e ks (fs ++ [En.taken x (enc t)]) hm (r2 / 6) (by omega) (sp (q' + 1) (G ++ [.dK ps]) ++ ext)
  obtain ⟨ext2, hi⟩ : ∃ ext2, mir (149 + 51) .is_rule [.d (.tup ((roomE e ks ++ (fs ++ [En.taken x (enc t)])).map encE)), .d d] (sp (q' + 1) (G ++ [.dK ps]) ++ ext) = .ok (.d (.bl false)) (sp (q' + 1) (G ++ [.dK ps]) ++ ext ++ ext2) := by
    rcases hn with hn | ⟨y, rfl, hy⟩
    · exact is_rule_odd 149 _ _ d hB hn
    · have T := tells_of ha2 hc y
      have : bOf cf y = false := by unfold bOf; rw [cf_none hc hy]
      rw [this] at T
      exact is_rule_ok 149 _ _ y false hB T
  refine ⟨G ++ [.dK ps] ++ ext ++ ext2, q' + 1, some (.d (.tup ((roomE e ks ++ (fs ++ [En.taken x (enc t)])).map encE))), some (.d (.o (G.length + 1))), some (.d (.int r2)), t7, t8, t9, t10, t11, ?_, by omega, by omega⟩
  refine Eq.trans (seq_nx (a1 (N := G.length + 1) (X := entD e ks fs) h1 hr he hu)) ?_
  refine Eq.trans (seq_nx (a2 hr2)) ?_
  refine Eq.trans (seq_nx (a3 (by omega) x1 x2 hs)) ?_
  refine Eq.trans (seq_nx e4) ?_
  exact a5 ho hi
end
end L
set_option pp.maxSteps 400
set_option pp.deepTerms false
namespace L
open PySem L2 G
local macro_rules | `(tactic| walk_at "ex") => `(tactic| try simp only [sSeq, sSet, sExpr, sRet, sIf, sAsg, una, escf, escS, opd, eVar, eC, eBin, eUn, eFn, eCall, eTup, eLst, aCons, aNil, fin, rd, rds, R.toS, dsOf, Rs.bind_ok, Rs.bind_bad, Rs.bind_ex, Rs.opt_some, Option.bind_some, Option.map_some, ownAt, eExt, eApp, ePop, List.getElem?_cons_zero, List.getElem?_cons_succ, List.set_cons_zero, List.set_cons_succ, okArg, List.all_cons, List.all_nil, Bool.and_self, if_true, kName, kTup, ksCons, ksNil, fMax, tOf, List.length_cons, List.length_nil, Bool.not_false, Bool.not_true, if_false, Bool.false_eq_true, lm0, lm1, lm2, lm3, lm4, lm5, lm6, lm7, lm8, lm9, lm10, lm11, lm12, fnM, List.map_cons, List.map_nil, List.replicate, List.cons_append, List.nil_append, Nat.reduceAdd, Nat.reduceSub, sNil, tAndM, tOrM, tNotM, tTru, dTru, eIf, dSub_i, dAdd_i, dLt_i, dLe_i, dGt_i, dGe_i, dEq_i, decide_true, decide_false, eChain, eAndM, eSl, oInt, dNeg, dIx, atI0, atI1, atI2, aDef, fTuple, wv_var, wc_var, wj_var, wb_var, wv_call, wc_call, wj_call, wb_call, wv_rel, wc_rel, wj_rel, wb_rel, wv_same, wc_same, wj_same, wb_same, wv_no, wc_no, wj_no, wb_no, wv_and, wc_and, wj_and, wb_and, wv_or, wc_or, wj_or, wb_or, wv_if, wc_if, wj_if, wb_if, wv_all, wc_all, wj_all, wb_all, wv_some, wc_some, wj_some, wb_some])
local macro_rules | `(tactic| walk_at "ey") => `(tactic| try simp only [sSeq, sSet, sExpr, sRet, sIf, sAsg, una, escf, escS, opd, eVar, eC, eBin, eUn, eFn, eCall, eTup, eLst, aCons, aNil, fin, rd, rds, R.toS, dsOf, Rs.bind_ok, Rs.bind_bad, Rs.bind_ex, Rs.opt_some, Option.bind_some, Option.map_some, ownAt, eExt, eApp, ePop, List.getElem?_cons_zero, List.getElem?_cons_succ, List.set_cons_zero, List.set_cons_succ, okArg, List.all_cons, List.all_nil, Bool.and_self, if_true, kName, kTup, ksCons, ksNil, fMax, tOf, List.length_cons, List.length_nil, Bool.not_false, Bool.not_true, if_false, Bool.false_eq_true, lm0, lm1, lm2, lm3, lm4, lm5, lm6, lm7, lm8, lm9, lm10, lm11, lm12, fnM, List.map_cons, List.map_nil, List.replicate, List.cons_append, List.nil_append, Nat.reduceAdd, Nat.reduceSub, sNil, tAndM, tOrM, tNotM, tTru, dTru, eIf, dSub_i, dAdd_i, dLt_i, dLe_i, dGt_i, dGe_i, dEq_i, decide_true, decide_false, eChain, eAndM, eSl, oInt, dNeg, fInt, aDef, fTuple])

theorem eBin_at {o : D → D → Option R} {f f' : Sm MX S} {z z1 z2 : Z (List MO)} {x y : D} {w : D} (h1 : f z = .ok (.d x) z1) (h2 : f' z1 = .ok (.d y) z2) (h3 : o x y = some (.d w)) : (eBin o f f' : Sm MX S) z = .ok (.d w) z2 := by
  simp only [eBin, opd, h1, h2, Rs.bind_ok, rd, Option.bind_some, h3, fin, R.toS]
section
variable {s0 s3 s6 s7 s8 s9 s10 s11 s12 s13 : Option S} {ns : List Int} {es : List En} {N : Nat} {g g' : List MO} {s1 s4 s5 : Option S}
theorem at_cond (a : Nat) (ha : a < 21) : ((eOrM (eBin dLt (eVar 12) (eC (.int 10))) (eBin dIn (eVar 12) (eTup (aCons (escf (eC (.int 17))) (aCons (escf (eC (.int 18))) aNil))))) : Sm MX S) ⟨[s0, some (.d (cl ns)), some (.d (.o 0)), s3, s4, s5, s6, s7, s8, s9, s10, s11, some (.d (.int (a : Int))), s13, none], g⟩ = .ok (.d (.bl (rowT.getD a false))) ⟨[s0, some (.d (cl ns)), some (.d (.o 0)), s3, s4, s5, s6, s7, s8, s9, s10, s11, some (.d (.int (a : Int))), s13, none], g⟩ := by
  match a, ha with
  | 0, _ => exact (by kernel_rfl : ((eOrM (eBin dLt (eVar 12) (eC (.int 10))) (eBin dIn (eVar 12) (eTup (aCons (escf (eC (.int 17))) (aCons (escf (eC (.int 18))) aNil))))) : Sm MX S) ⟨[s0, some (.d (cl ns)), some (.d (.o 0)), s3, s4, s5, s6, s7, s8, s9, s10, s11, some (.d (.int (0 : Nat))), s13, none], g⟩ = .ok (.d (.bl (rowT.getD 0 false))) ⟨[s0, some (.d (cl ns)), some (.d (.o 0)), s3, s4, s5, s6, s7, s8, s9, s10, s11, some (.d (.int (0 : Nat))), s13, none], g⟩)
  | 1, _ => exact (by kernel_rfl : ((eOrM (eBin dLt (eVar 12) (eC (.int 10))) (eBin dIn (eVar 12) (eTup (aCons (escf (eC (.int 17))) (aCons (escf (eC (.int 18))) aNil))))) : Sm MX S) ⟨[s0, some (.d (cl ns)), some (.d (.o 0)), s3, s4, s5, s6, s7, s8, s9, s10, s11, some (.d (.int (1 : Nat))), s13, none], g⟩ = .ok (.d (.bl (rowT.getD 1 false))) ⟨[s0, some (.d (cl ns)), some (.d (.o 0)), s3, s4, s5, s6, s7, s8, s9, s10, s11, some (.d (.int (1 : Nat))), s13, none], g⟩)
  | 2, _ => exact (by kernel_rfl : ((eOrM (eBin dLt (eVar 12) (eC (.int 10))) (eBin dIn (eVar 12) (eTup (aCons (escf (eC (.int 17))) (aCons (escf (eC (.int 18))) aNil))))) : Sm MX S) ⟨[s0, some (.d (cl ns)), some (.d (.o 0)), s3, s4, s5, s6, s7, s8, s9, s10, s11, some (.d (.int (2 : Nat))), s13, none], g⟩ = .ok (.d (.bl (rowT.getD 2 false))) ⟨[s0, some (.d (cl ns)), some (.d (.o 0)), s3, s4, s5, s6, s7, s8, s9, s10, s11, some (.d (.int (2 : Nat))), s13, none], g⟩)
  | 3, _ => exact (by kernel_rfl : ((eOrM (eBin dLt (eVar 12) (eC (.int 10))) (eBin dIn (eVar 12) (eTup (aCons (escf (eC (.int 17))) (aCons (escf (eC (.int 18))) aNil))))) : Sm MX S) ⟨[s0, some (.d (cl ns)), some (.d (.o 0)), s3, s4, s5, s6, s7, s8, s9, s10, s11, some (.d (.int (3 : Nat))), s13, none], g⟩ = .ok (.d (.bl (rowT.getD 3 false))) ⟨[s0, some (.d (cl ns)), some (.d (.o 0)), s3, s4, s5, s6, s7, s8, s9, s10, s11, some (.d (.int (3 : Nat))), s13, none], g⟩)
  | 4, _ => exact (by kernel_rfl : ((eOrM (eBin dLt (eVar 12) (eC (.int 10))) (eBin dIn (eVar 12) (eTup (aCons (escf (eC (.int 17))) (aCons (escf (eC (.int 18))) aNil))))) : Sm MX S) ⟨[s0, some (.d (cl ns)), some (.d (.o 0)), s3, s4, s5, s6, s7, s8, s9, s10, s11, some (.d (.int (4 : Nat))), s13, none], g⟩ = .ok (.d (.bl (rowT.getD 4 false))) ⟨[s0, some (.d (cl ns)), some (.d (.o 0)), s3, s4, s5, s6, s7, s8, s9, s10, s11, some (.d (.int (4 : Nat))), s13, none], g⟩)
  | 5, _ => exact (by kernel_rfl : ((eOrM (eBin dLt (eVar 12) (eC (.int 10))) (eBin dIn (eVar 12) (eTup (aCons (escf (eC (.int 17))) (aCons (escf (eC (.int 18))) aNil))))) : Sm MX S) ⟨[s0, some (.d (cl ns)), some (.d (.o 0)), s3, s4, s5, s6, s7, s8, s9, s10, s11, some (.d (.int (5 : Nat))), s13, none], g⟩ = .ok (.d (.bl (rowT.getD 5 false))) ⟨[s0, some (.d (cl ns)), some (.d (.o 0)), s3, s4, s5, s6, s7, s8, s9, s10, s11, some (.d (.int (5 : Nat))), s13, none], g⟩)
  | 6, _ => exact (by kernel_rfl : ((eOrM (eBin dLt (eVar 12) (eC (.int 10))) (eBin dIn (eVar 12) (eTup (aCons (escf (eC (.int 17))) (aCons (escf (eC (.int 18))) aNil))))) : Sm MX S) ⟨[s0, some (.d (cl ns)), some (.d (.o 0)), s3, s4, s5, s6, s7, s8, s9, s10, s11, some (.d (.int (6 : Nat))), s13, none], g⟩ = .ok (.d (.bl (rowT.getD 6 false))) ⟨[s0, some (.d (cl ns)), some (.d (.o 0)), s3, s4, s5, s6, s7, s8, s9, s10, s11, some (.d (.int (6 : Nat))), s13, none], g⟩)
  | 7, _ => exact (by kernel_rfl : ((eOrM (eBin dLt (eVar 12) (eC (.int 10))) (eBin dIn (eVar 12) (eTup (aCons (escf (eC (.int 17))) (aCons (escf (eC (.int 18))) aNil))))) : Sm MX S) ⟨[s0, some (.d (cl ns)), some (.d (.o 0)), s3, s4, s5, s6, s7, s8, s9, s10, s11, some (.d (.int (7 : Nat))), s13, none], g⟩ = .ok (.d (.bl (rowT.getD 7 false))) ⟨[s0, some (.d (cl ns)), some (.d (.o 0)), s3, s4, s5, s6, s7, s8, s9, s10, s11, some (.d (.int (7 : Nat))), s13, none], g⟩)
  | 8, _ => exact (by kernel_rfl : ((eOrM (eBin dLt (eVar 12) (eC (.int 10))) (eBin dIn (eVar 12) (eTup (aCons (escf (eC (.int 17))) (aCons (escf (eC (.int 18))) aNil))))) : Sm MX S) ⟨[s0, some (.d (cl ns)), some (.d (.o 0)), s3, s4, s5, s6, s7, s8, s9, s10, s11, some (.d (.int (8 : Nat))), s13, none], g⟩ = .ok (.d (.bl (rowT.getD 8 false))) ⟨[s0, some (.d (cl ns)), some (.d (.o 0)), s3, s4, s5, s6, s7, s8, s9, s10, s11, some (.d (.int (8 : Nat))), s13, none], g⟩)
  | 9, _ => exact (by kernel_rfl : ((eOrM (eBin dLt (eVar 12) (eC (.int 10))) (eBin dIn (eVar 12) (eTup (aCons (escf (eC (.int 17))) (aCons (escf (eC (.int 18))) aNil))))) : Sm MX S) ⟨[s0, some (.d (cl ns)), some (.d (.o 0)), s3, s4, s5, s6, s7, s8, s9, s10, s11, some (.d (.int (9 : Nat))), s13, none], g⟩ = .ok (.d (.bl (rowT.getD 9 false))) ⟨[s0, some (.d (cl ns)), some (.d (.o 0)), s3, s4, s5, s6, s7, s8, s9, s10, s11, some (.d (.int (9 : Nat))), s13, none], g⟩)
  | 10, _ => exact (by kernel_rfl : ((eOrM (eBin dLt (eVar 12) (eC (.int 10))) (eBin dIn (eVar 12) (eTup (aCons (escf (eC (.int 17))) (aCons (escf (eC (.int 18))) aNil))))) : Sm MX S) ⟨[s0, some (.d (cl ns)), some (.d (.o 0)), s3, s4, s5, s6, s7, s8, s9, s10, s11, some (.d (.int (10 : Nat))), s13, none], g⟩ = .ok (.d (.bl (rowT.getD 10 false))) ⟨[s0, some (.d (cl ns)), some (.d (.o 0)), s3, s4, s5, s6, s7, s8, s9, s10, s11, some (.d (.int (10 : Nat))), s13, none], g⟩)
  | 11, _ => exact (by kernel_rfl : ((eOrM (eBin dLt (eVar 12) (eC (.int 10))) (eBin dIn (eVar 12) (eTup (aCons (escf (eC (.int 17))) (aCons (escf (eC (.int 18))) aNil))))) : Sm MX S) ⟨[s0, some (.d (cl ns)), some (.d (.o 0)), s3, s4, s5, s6, s7, s8, s9, s10, s11, some (.d (.int (11 : Nat))), s13, none], g⟩ = .ok (.d (.bl (rowT.getD 11 false))) ⟨[s0, some (.d (cl ns)), some (.d (.o 0)), s3, s4, s5, s6, s7, s8, s9, s10, s11, some (.d (.int (11 : Nat))), s13, none], g⟩)
  | 12, _ => exact (by kernel_rfl : ((eOrM (eBin dLt (eVar 12) (eC (.int 10))) (eBin dIn (eVar 12) (eTup (aCons (escf (eC (.int 17))) (aCons (escf (eC (.int 18))) aNil))))) : Sm MX S) ⟨[s0, some (.d (cl ns)), some (.d (.o 0)), s3, s4, s5, s6, s7, s8, s9, s10, s11, some (.d (.int (12 : Nat))), s13, none], g⟩ = .ok (.d (.bl (rowT.getD 12 false))) ⟨[s0, some (.d (cl ns)), some (.d (.o 0)), s3, s4, s5, s6, s7, s8, s9, s10, s11, some (.d (.int (12 : Nat))), s13, none], g⟩)
  | 13, _ => exact (by kernel_rfl : ((eOrM (eBin dLt (eVar 12) (eC (.int 10))) (eBin dIn (eVar 12) (eTup (aCons (escf (eC (.int 17))) (aCons (escf (eC (.int 18))) aNil))))) : Sm MX S) ⟨[s0, some (.d (cl ns)), some (.d (.o 0)), s3, s4, s5, s6, s7, s8, s9, s10, s11, some (.d (.int (13 : Nat))), s13, none], g⟩ = .ok (.d (.bl (rowT.getD 13 false))) ⟨[s0, some (.d (cl ns)), some (.d (.o 0)), s3, s4, s5, s6, s7, s8, s9, s10, s11, some (.d (.int (13 : Nat))), s13, none], g⟩)
  | 14, _ => exact (by kernel_rfl : ((eOrM (eBin dLt (eVar 12) (eC (.int 10))) (eBin dIn (eVar 12) (eTup (aCons (escf (eC (.int 17))) (aCons (escf (eC (.int 18))) aNil))))) : Sm MX S) ⟨[s0, some (.d (cl ns)), some (.d (.o 0)), s3, s4, s5, s6, s7, s8, s9, s10, s11, some (.d (.int (14 : Nat))), s13, none], g⟩ = .ok (.d (.bl (rowT.getD 14 false))) ⟨[s0, some (.d (cl ns)), some (.d (.o 0)), s3, s4, s5, s6, s7, s8, s9, s10, s11, some (.d (.int (14 : Nat))), s13, none], g⟩)
  | 15, _ => exact (by kernel_rfl : ((eOrM (eBin dLt (eVar 12) (eC (.int 10))) (eBin dIn (eVar 12) (eTup (aCons (escf (eC (.int 17))) (aCons (escf (eC (.int 18))) aNil))))) : Sm MX S) ⟨[s0, some (.d (cl ns)), some (.d (.o 0)), s3, s4, s5, s6, s7, s8, s9, s10, s11, some (.d (.int (15 : Nat))), s13, none], g⟩ = .ok (.d (.bl (rowT.getD 15 false))) ⟨[s0, some (.d (cl ns)), some (.d (.o 0)), s3, s4, s5, s6, s7, s8, s9, s10, s11, some (.d (.int (15 : Nat))), s13, none], g⟩)
  | 16, _ => exact (by kernel_rfl : ((eOrM (eBin dLt (eVar 12) (eC (.int 10))) (eBin dIn (eVar 12) (eTup (aCons (escf (eC (.int 17))) (aCons (escf (eC (.int 18))) aNil))))) : Sm MX S) ⟨[s0, some (.d (cl ns)), some (.d (.o 0)), s3, s4, s5, s6, s7, s8, s9, s10, s11, some (.d (.int (16 : Nat))), s13, none], g⟩ = .ok (.d (.bl (rowT.getD 16 false))) ⟨[s0, some (.d (cl ns)), some (.d (.o 0)), s3, s4, s5, s6, s7, s8, s9, s10, s11, some (.d (.int (16 : Nat))), s13, none], g⟩)
  | 17, _ => exact (by kernel_rfl : ((eOrM (eBin dLt (eVar 12) (eC (.int 10))) (eBin dIn (eVar 12) (eTup (aCons (escf (eC (.int 17))) (aCons (escf (eC (.int 18))) aNil))))) : Sm MX S) ⟨[s0, some (.d (cl ns)), some (.d (.o 0)), s3, s4, s5, s6, s7, s8, s9, s10, s11, some (.d (.int (17 : Nat))), s13, none], g⟩ = .ok (.d (.bl (rowT.getD 17 false))) ⟨[s0, some (.d (cl ns)), some (.d (.o 0)), s3, s4, s5, s6, s7, s8, s9, s10, s11, some (.d (.int (17 : Nat))), s13, none], g⟩)
  | 18, _ => exact (by kernel_rfl : ((eOrM (eBin dLt (eVar 12) (eC (.int 10))) (eBin dIn (eVar 12) (eTup (aCons (escf (eC (.int 17))) (aCons (escf (eC (.int 18))) aNil))))) : Sm MX S) ⟨[s0, some (.d (cl ns)), some (.d (.o 0)), s3, s4, s5, s6, s7, s8, s9, s10, s11, some (.d (.int (18 : Nat))), s13, none], g⟩ = .ok (.d (.bl (rowT.getD 18 false))) ⟨[s0, some (.d (cl ns)), some (.d (.o 0)), s3, s4, s5, s6, s7, s8, s9, s10, s11, some (.d (.int (18 : Nat))), s13, none], g⟩)
  | 19, _ => exact (by kernel_rfl : ((eOrM (eBin dLt (eVar 12) (eC (.int 10))) (eBin dIn (eVar 12) (eTup (aCons (escf (eC (.int 17))) (aCons (escf (eC (.int 18))) aNil))))) : Sm MX S) ⟨[s0, some (.d (cl ns)), some (.d (.o 0)), s3, s4, s5, s6, s7, s8, s9, s10, s11, some (.d (.int (19 : Nat))), s13, none], g⟩ = .ok (.d (.bl (rowT.getD 19 false))) ⟨[s0, some (.d (cl ns)), some (.d (.o 0)), s3, s4, s5, s6, s7, s8, s9, s10, s11, some (.d (.int (19 : Nat))), s13, none], g⟩)
  | 20, _ => exact (by kernel_rfl : ((eOrM (eBin dLt (eVar 12) (eC (.int 10))) (eBin dIn (eVar 12) (eTup (aCons (escf (eC (.int 17))) (aCons (escf (eC (.int 18))) aNil))))) : Sm MX S) ⟨[s0, some (.d (cl ns)), some (.d (.o 0)), s3, s4, s5, s6, s7, s8, s9, s10, s11, some (.d (.int (20 : Nat))), s13, none], g⟩ = .ok (.d (.bl (rowT.getD 20 false))) ⟨[s0, some (.d (cl ns)), some (.d (.o 0)), s3, s4, s5, s6, s7, s8, s9, s10, s11, some (.d (.int (20 : Nat))), s13, none], g⟩)
  | n + 21, h => exact absurd h (by omega)
theorem c_body {e : Str} {ks : List Str} {a : Nat} {w : Row} (hm : RmOk e ks) (hw : RowOk w) (ha : a < 21) (hb : isR w.ks.length w.l w.r = rowT.getD a false) : ∃ ext, ((sSeq (sSet 11 (eCall (mir 200 .is_rule) (aCons (escf (eBin dAdd (eVar 4) (eTup (aCons (escf (eTup (aCons (escf (eC (.str "taken"))) (aCons (escf (eC (.str "ra"))) (aCons (escf (eCall (mir 200 ._law_whole) (aCons (escf (eVar 13)) aNil))) aNil))))) aNil)))) (aCons (escf (eC (.str "ra"))) aNil))))
    (sIf (tOrM (tOf (eBin dNe (eVar 11) (eCall (mir 200 ._law_is_rule) (aCons (escf (eVar 13)) aNil)))) (tOf (eBin dNe (eVar 11) (eOrM (eBin dLt (eVar 12) (eC (.int 10))) (eBin dIn (eVar 12) (eTup (aCons (escf (eC (.int 17))) (aCons (escf (eC (.int 18))) aNil)))))))) (sRet (eC (.bl false))) sNil)) : Sm MX Out) ⟨[s0, some (.d (cl ns)), some (.d (.o 0)), s3, some (.d (entD e ks [])), s5, s6, s7, s8, s9, s10, s11, some (.d (.int (a : Int))), some (.d (encRow w)), none], g⟩ = .ok .nx ⟨[s0, some (.d (cl ns)), some (.d (.o 0)), s3, some (.d (entD e ks [])), s5, s6, s7, s8, s9, s10, some (.d (.bl (isR w.ks.length w.l w.r))), some (.d (.int (a : Int))), some (.d (encRow w)), none], g ++ ext⟩ := by
  have W : mir 200 ._law_whole [.d (encRow w)] g = .ok (.d (enc (wholeT w.ks w.l w.r))) g := whole_eq 199 w.ks w.l w.r g
  have k := whole_ok hw
  have ad := ent_add e ks [] (.taken (Str.ofString "ra") (enc (wholeT w.ks w.l w.r))) (by simp)
  have ae : encE (.taken (Str.ofString "ra") (enc (wholeT w.ks w.l w.r))) = .tup [.str "taken", .str "ra", enc (wholeT w.ks w.l w.r)] := rfl
  rw [ae, List.nil_append] at ad
  have T : Tells (factsOf (roomE e ks ++ [En.taken (Str.ofString "ra") (enc (wholeT w.ks w.l w.r))])) (Str.ofString "ra") (isR w.ks.length w.l w.r) := by
    refine .inr ⟨wholeT w.ks w.l w.r, ?_, k.n, k.s, k.d, (isRule_whole _ _ _).symm⟩
    rw [facts_app]
    rw [upF]
    exact if_pos rfl
  have hB : sumw (roomE e ks ++ [En.taken (Str.ofString "ra") (enc (wholeT w.ks w.l w.r))]) < lim := by
    rw [sumw_app]
    have := hm.hi
    simp only [roomE, sumw, En.w, List.length_nil]
    unfold lim
    omega
  obtain ⟨ext, hr⟩ := is_rule_ok 149 _ g (Str.ofString "ra") _ hB T
  have hr' : mir 200 .is_rule [.d (.tup ((roomE e ks ++ [En.taken (Str.ofString "ra") (enc (wholeT w.ks w.l w.r))]).map encE)), .d (.str (Str.ofString "ra"))] g = .ok (.d (.bl (isR w.ks.length w.l w.r))) (g ++ ext) := hr
  refine ⟨ext, ?_⟩
  have L' : mir 200 ._law_is_rule [.d (encRow w)] (g ++ ext) = .ok (.d (.bl (isR w.ks.length w.l w.r))) (g ++ ext) := lir_eq 150 w.ks w.l w.r (g ++ ext) (by have := hw.n; omega) ⟨hw.l.1, by have := hw.l; omega, by have := hw.l; omega⟩ ⟨hw.r.1, by have := hw.r; omega, by have := hw.r; omega⟩
  have ac := at_cond (s0 := s0) (s3 := s3) (s4 := some (.d (entD e ks []))) (s5 := s5) (s6 := s6) (s7 := s7) (s8 := s8) (s9 := s9) (s10 := s10) (s11 := some (.d (.bl (isR w.ks.length w.l w.r)))) (s13 := some (.d (encRow w))) (ns := ns) (g := g ++ ext) a ha
  rw [← hb] at ac
  generalize (roomE e ks ++ [En.taken (Str.ofString "ra") (enc (wholeT w.ks w.l w.r))]).map encE = Q at ad hr'
  generalize entD e ks [] = X at ad ac ⊢
  have e1 : ((sSet 11 (eCall (mir 200 .is_rule) (aCons (escf (eBin dAdd (eVar 4) (eTup (aCons (escf (eTup (aCons (escf (eC (.str "taken"))) (aCons (escf (eC (.str "ra"))) (aCons (escf (eCall (mir 200 ._law_whole) (aCons (escf (eVar 13)) aNil))) aNil))))) aNil)))) (aCons (escf (eC (.str "ra"))) aNil)))) : Sm MX Out) ⟨[s0, some (.d (cl ns)), some (.d (.o 0)), s3, some (.d X), s5, s6, s7, s8, s9, s10, s11, some (.d (.int (a : Int))), some (.d (encRow w)), none], g⟩ = .ok .nx ⟨[s0, some (.d (cl ns)), some (.d (.o 0)), s3, some (.d X), s5, s6, s7, s8, s9, s10, some (.d (.bl (isR w.ks.length w.l w.r))), some (.d (.int (a : Int))), some (.d (encRow w)), none], g ++ ext⟩ := by
    simp only [sSeq, sSet, sExpr, sRet, sIf, sAsg, una, escf, escS, opd, eVar, eC, eBin, eUn, eFn, eCall, eTup, eLst, aCons, aNil, fin, rd, rds, R.toS, dsOf, Rs.bind_ok, Rs.bind_bad, Rs.bind_ex, Rs.opt_some, Option.bind_some, Option.map_some, ownAt, eExt, eApp, ePop, List.getElem?_cons_zero, List.getElem?_cons_succ, List.set_cons_zero, List.set_cons_succ, okArg, List.all_cons, List.all_nil, Bool.and_self, if_true, kName, kTup, ksCons, ksNil, fMax, tOf, List.length_cons, List.length_nil, Bool.not_false, Bool.not_true, if_false, Bool.false_eq_true, lm0, lm1, lm2, lm3, lm4, lm5, lm6, lm7, lm8, lm9, lm10, lm11, lm12, fnM, List.map_cons, List.map_nil, List.replicate, List.cons_append, List.nil_append, Nat.reduceAdd, Nat.reduceSub, sNil, tAndM, tOrM, tNotM, tTru, dTru, eIf, dSub_i, dAdd_i, dLt_i, dLe_i, dGt_i, dGe_i, dEq_i, decide_true, decide_false, eChain, eAndM, eSl, oInt, dNeg, fInt, aDef, fTuple, eq_self, Nat.reduceEqDiff, W, ad, hr']
  rw [seq_nx e1]
  have t1 : ((tOf (eBin dNe (eVar 11) (eCall (mir 200 ._law_is_rule) (aCons (escf (eVar 13)) aNil)))) : Sm MX Bool) ⟨[s0, some (.d (cl ns)), some (.d (.o 0)), s3, some (.d X), s5, s6, s7, s8, s9, s10, some (.d (.bl (isR w.ks.length w.l w.r))), some (.d (.int (a : Int))), some (.d (encRow w)), none], g ++ ext⟩ = .ok false ⟨[s0, some (.d (cl ns)), some (.d (.o 0)), s3, some (.d X), s5, s6, s7, s8, s9, s10, some (.d (.bl (isR w.ks.length w.l w.r))), some (.d (.int (a : Int))), some (.d (encRow w)), none], g ++ ext⟩ := by
    simp only [sSeq, sSet, sExpr, sRet, sIf, sAsg, una, escf, escS, opd, eVar, eC, eBin, eUn, eFn, eCall, eTup, eLst, aCons, aNil, fin, rd, rds, R.toS, dsOf, Rs.bind_ok, Rs.bind_bad, Rs.bind_ex, Rs.opt_some, Option.bind_some, Option.map_some, ownAt, eExt, eApp, ePop, List.getElem?_cons_zero, List.getElem?_cons_succ, List.set_cons_zero, List.set_cons_succ, okArg, List.all_cons, List.all_nil, Bool.and_self, if_true, kName, kTup, ksCons, ksNil, fMax, tOf, List.length_cons, List.length_nil, Bool.not_false, Bool.not_true, if_false, Bool.false_eq_true, lm0, lm1, lm2, lm3, lm4, lm5, lm6, lm7, lm8, lm9, lm10, lm11, lm12, fnM, List.map_cons, List.map_nil, List.replicate, List.cons_append, List.nil_append, Nat.reduceAdd, Nat.reduceSub, sNil, tAndM, tOrM, tNotM, tTru, dTru, eIf, dSub_i, dAdd_i, dLt_i, dLe_i, dGt_i, dGe_i, dEq_i, decide_true, decide_false, eChain, eAndM, eSl, oInt, dNeg, fInt, aDef, fTuple, eq_self, Nat.reduceEqDiff, L', neB]
  have t2 : ((tOf (eBin dNe (eVar 11) (eOrM (eBin dLt (eVar 12) (eC (.int 10))) (eBin dIn (eVar 12) (eTup (aCons (escf (eC (.int 17))) (aCons (escf (eC (.int 18))) aNil))))))) : Sm MX Bool) ⟨[s0, some (.d (cl ns)), some (.d (.o 0)), s3, some (.d X), s5, s6, s7, s8, s9, s10, some (.d (.bl (isR w.ks.length w.l w.r))), some (.d (.int (a : Int))), some (.d (encRow w)), none], g ++ ext⟩ = .ok false ⟨[s0, some (.d (cl ns)), some (.d (.o 0)), s3, some (.d X), s5, s6, s7, s8, s9, s10, some (.d (.bl (isR w.ks.length w.l w.r))), some (.d (.int (a : Int))), some (.d (encRow w)), none], g ++ ext⟩ := by
    unfold tOf
    rw [eBin_at (v_d rfl) ac (neB _)]
    rfl
  have t0 : ((tOrM (tOf (eBin dNe (eVar 11) (eCall (mir 200 ._law_is_rule) (aCons (escf (eVar 13)) aNil)))) (tOf (eBin dNe (eVar 11) (eOrM (eBin dLt (eVar 12) (eC (.int 10))) (eBin dIn (eVar 12) (eTup (aCons (escf (eC (.int 17))) (aCons (escf (eC (.int 18))) aNil)))))))) : Sm MX Bool) ⟨[s0, some (.d (cl ns)), some (.d (.o 0)), s3, some (.d X), s5, s6, s7, s8, s9, s10, some (.d (.bl (isR w.ks.length w.l w.r))), some (.d (.int (a : Int))), some (.d (encRow w)), none], g ++ ext⟩ = .ok false ⟨[s0, some (.d (cl ns)), some (.d (.o 0)), s3, some (.d X), s5, s6, s7, s8, s9, s10, some (.d (.bl (isR w.ks.length w.l w.r))), some (.d (.int (a : Int))), some (.d (encRow w)), none], g ++ ext⟩ := by
    rw [or_f t1]
    exact t2
  rw [if_f t0]
  rfl
/-- the rows, told one by one -/
theorem c_loop {e : Str} {ks : List Str} (hm : RmOk e ks) : ∃ (t11 t12 t13 : Option S) (ext : List MO), ((sFor (iEnM (eCall (mir 200 ._law_sames) (aCons (escf (eVar 4)) aNil))) (kTup 2 (ksCons (kName 12) (ksCons (kName 13) ksNil))) (sSeq (sSet 11 (eCall (mir 200 .is_rule) (aCons (escf (eBin dAdd (eVar 4) (eTup (aCons (escf (eTup (aCons (escf (eC (.str "taken"))) (aCons (escf (eC (.str "ra"))) (aCons (escf (eCall (mir 200 ._law_whole) (aCons (escf (eVar 13)) aNil))) aNil))))) aNil)))) (aCons (escf (eC (.str "ra"))) aNil))))
    (sIf (tOrM (tOf (eBin dNe (eVar 11) (eCall (mir 200 ._law_is_rule) (aCons (escf (eVar 13)) aNil)))) (tOf (eBin dNe (eVar 11) (eOrM (eBin dLt (eVar 12) (eC (.int 10))) (eBin dIn (eVar 12) (eTup (aCons (escf (eC (.int 17))) (aCons (escf (eC (.int 18))) aNil)))))))) (sRet (eC (.bl false))) sNil))) : Sm MX Out) ⟨[s0, some (.d (cl ns)), some (.d (.o 0)), s3, some (.d (entD e ks [])), s5, s6, s7, s8, s9, s10, s11, s12, s13, none], g⟩ = .ok .nx ⟨[s0, some (.d (cl ns)), some (.d (.o 0)), s3, some (.d (entD e ks [])), s5, s6, s7, s8, s9, s10, t11, t12, t13, none], g ++ ext⟩ := by
  obtain ⟨k, kk, hS⟩ := sames_eq 199 e ks hm g
  have hS' : mir 200 ._law_sames [.d (entD e ks [])] g = .ok (.l ((rows e k).map encRow)) g := by rw [← room_ent]; exact hS
  have R1 := rows_ok hm k (hm.kok k kk)
  have R2 := rows_true e k
  have it : ((iEnM (eCall (mir 200 ._law_sames) (aCons (escf (eVar 4)) aNil))) : Sm MX (List D)) ⟨[s0, some (.d (cl ns)), some (.d (.o 0)), s3, some (.d (entD e ks [])), s5, s6, s7, s8, s9, s10, s11, s12, s13, none], g⟩ = .ok (enumD ((rows e k).map encRow)) ⟨[s0, some (.d (cl ns)), some (.d (.o 0)), s3, some (.d (entD e ks [])), s5, s6, s7, s8, s9, s10, s11, s12, s13, none], g⟩ := by
    generalize entD e ks [] = X at hS' ⊢
    simp only [iEnM, sSeq, sSet, sExpr, sRet, sIf, sAsg, una, escf, escS, opd, eVar, eC, eBin, eUn, eFn, eCall, eTup, eLst, aCons, aNil, fin, rd, rds, R.toS, dsOf, Rs.bind_ok, Rs.bind_bad, Rs.bind_ex, Rs.opt_some, Option.bind_some, Option.map_some, ownAt, eExt, eApp, ePop, List.getElem?_cons_zero, List.getElem?_cons_succ, List.set_cons_zero, List.set_cons_succ, okArg, List.all_cons, List.all_nil, Bool.and_self, if_true, kName, kTup, ksCons, ksNil, fMax, tOf, List.length_cons, List.length_nil, Bool.not_false, Bool.not_true, if_false, Bool.false_eq_true, lm0, lm1, lm2, lm3, lm4, lm5, lm6, lm7, lm8, lm9, lm10, lm11, lm12, fnM, List.map_cons, List.map_nil, List.replicate, List.cons_append, List.nil_append, Nat.reduceAdd, Nat.reduceSub, sNil, tAndM, tOrM, tNotM, tTru, dTru, eIf, dSub_i, dAdd_i, dLt_i, dLe_i, dGt_i, dGe_i, dEq_i, decide_true, decide_false, eChain, eAndM, eSl, oInt, dNeg, fInt, aDef, fTuple, eq_self, Nat.reduceEqDiff, hS']
  obtain ⟨z', e1, t11, t12, t13, ext, rfl⟩ := for_list (kk := (kTup (M := MX) 2 (ksCons (kName 12) (ksCons (kName 13) ksNil)))) (b := (sSeq (sSet 11 (eCall (mir 200 .is_rule) (aCons (escf (eBin dAdd (eVar 4) (eTup (aCons (escf (eTup (aCons (escf (eC (.str "taken"))) (aCons (escf (eC (.str "ra"))) (aCons (escf (eCall (mir 200 ._law_whole) (aCons (escf (eVar 13)) aNil))) aNil))))) aNil)))) (aCons (escf (eC (.str "ra"))) aNil))))
    (sIf (tOrM (tOf (eBin dNe (eVar 11) (eCall (mir 200 ._law_is_rule) (aCons (escf (eVar 13)) aNil)))) (tOf (eBin dNe (eVar 11) (eOrM (eBin dLt (eVar 12) (eC (.int 10))) (eBin dIn (eVar 12) (eTup (aCons (escf (eC (.int 17))) (aCons (escf (eC (.int 18))) aNil)))))))) (sRet (eC (.bl false))) sNil))) (fun z => ∃ (s11 s12 s13 : Option S) (ext : List MO), z = ⟨[s0, some (.d (cl ns)), some (.d (.o 0)), s3, some (.d (entD e ks [])), s5, s6, s7, s8, s9, s10, s11, s12, s13, none], g ++ ext⟩) (enumD ((rows e k).map encRow)) ⟨[s0, some (.d (cl ns)), some (.d (.o 0)), s3, some (.d (entD e ks [])), s5, s6, s7, s8, s9, s10, s11, s12, s13, none], g⟩ (fun d hd z hz => by
    obtain ⟨t11, t12, t13, ext, rfl⟩ := hz
    obtain ⟨i, hi, ei⟩ := List.getElem_of_mem hd
    rw [enumD_len, List.length_map] at hi
    have i21 : i < 21 := hi
    have ed : d = .tup [.int (i : Int), encRow (rows e k)[i]] := by
      have := enumD_at (ds := (rows e k).map encRow) (i := i) (d := encRow (rows e k)[i]) (by rw [List.getElem?_map, List.getElem?_eq_getElem hi]; rfl)
      have h2 : (enumD ((rows e k).map encRow))[i]? = some d := by rw [← ei]; exact List.getElem?_eq_getElem _
      rw [h2] at this
      exact Option.some.inj this
    have wo := R1 _ (List.getElem_mem hi)
    have hb : isR (rows e k)[i].ks.length (rows e k)[i].l (rows e k)[i].r = rowT.getD i false := by
      have : ((rows e k).map (fun w => isR w.ks.length w.l w.r)).getD i false = rowT.getD i false := by rw [R2]
      rw [← this, List.getD_eq_getElem?_getD, List.getElem?_map, List.getElem?_eq_getElem hi]
      rfl
    obtain ⟨ext2, e2⟩ := c_body (s0 := s0) (s3 := s3) (s5 := s5) (s6 := s6) (s7 := s7) (s8 := s8) (s9 := s9) (s10 := s10) (s11 := t11) (ns := ns) (g := g ++ ext) (a := i) hm wo i21 hb
    rw [ed]
    exact ⟨_, _, rfl, e2, _, _, _, ext ++ ext2, by rw [List.append_assoc]⟩) ⟨s11, s12, s13, [], by rw [List.append_nil]⟩
  exact ⟨t11, t12, t13, ext, ci_for it e1⟩
theorem c_ent {g1 : List MO} {r : Int} {R0 : D} (h1 : s1 = some (.l (ns.map D.int)) ∨ s1 = some (.d (cl ns))) (hc : mir 200 ._law_cell [.d (cl ns), .d (.o 0)] g = .ok (.d (.int r)) g1) (he : mir 200 ._law_entries [.d (.int r)] g1 = .ok (.d R0) g1) : ((sSet 4 (eCall (mir 200 ._law_entries) (aCons (escf (eCall (mir 200 ._law_cell) (aCons (escf (eVar 1)) (aCons (escf (eVar 2)) aNil)))) aNil))) : Sm MX Out) ⟨[s0, s1, some (.d (.o 0)), s3, s4, s5, s6, s7, s8, s9, s10, s11, s12, s13, none], g⟩ = .ok .nx ⟨[s0, some (.d (cl ns)), some (.d (.o 0)), s3, some (.d R0), s5, s6, s7, s8, s9, s10, s11, s12, s13, none], g1⟩ := by
  unfold cl at *
  rcases h1 with rfl | rfl <;> simp only [sSeq, sSet, sExpr, sRet, sIf, sAsg, una, escf, escS, opd, eVar, eC, eBin, eUn, eFn, eCall, eTup, eLst, aCons, aNil, fin, rd, rds, R.toS, dsOf, Rs.bind_ok, Rs.bind_bad, Rs.bind_ex, Rs.opt_some, Option.bind_some, Option.map_some, ownAt, eExt, eApp, ePop, List.getElem?_cons_zero, List.getElem?_cons_succ, List.set_cons_zero, List.set_cons_succ, okArg, List.all_cons, List.all_nil, Bool.and_self, if_true, kName, kTup, ksCons, ksNil, fMax, tOf, List.length_cons, List.length_nil, Bool.not_false, Bool.not_true, if_false, Bool.false_eq_true, lm0, lm1, lm2, lm3, lm4, lm5, lm6, lm7, lm8, lm9, lm10, lm11, lm12, fnM, List.map_cons, List.map_nil, List.replicate, List.cons_append, List.nil_append, Nat.reduceAdd, Nat.reduceSub, sNil, tAndM, tOrM, tNotM, tTru, dTru, eIf, dSub_i, dAdd_i, dLt_i, dLe_i, dGt_i, dGe_i, dEq_i, decide_true, decide_false, eChain, eAndM, eSl, oInt, dNeg, fInt, aDef, fTuple, eq_self, Nat.reduceEqDiff, hc, he]
end
theorem law_gen {F C D' : Sm MX Out} {E : Sm MX S} {ns : List Int} {z1 z2 z3 : Z (List MO)} (hE : E (zX 14 ns) = .ok (.l (ns.map D.int)) (zX 14 ns)) (hF : F ⟨[some (.d (.scr ns)), some (.l (ns.map D.int)), some (.d (.o 0)), none, none, none, none, none, none, none, none, none, none, none, none], sp 0 []⟩ = .ok .nx z1) (hC : C z1 = .ok .nx z2) (hD : D' z2 = .ok .nx z3) :
    (sSeq (sSet 1 E) (sSeq (sSet 2 (eNewL (aCons (escf (eC (.int 0))) aNil))) (sSeq F (sSeq C (sSeq D' (sRet (eC (.bl true)))))))) (zX 14 ns) = .ok (.rt (.d (.bl true))) z3 := by
  have e1 : (sSet 1 E : Sm MX Out) (zX 14 ns) = .ok .nx ⟨[some (.d (.scr ns)), some (.l (ns.map D.int)), none, none, none, none, none, none, none, none, none, none, none, none, none], []⟩ := by
    unfold sSet una
    rw [hE]
    rfl
  have e2 : (sSet 2 (eNewL (aCons (escf (eC (.int 0))) aNil)) : Sm MX Out) ⟨[some (.d (.scr ns)), some (.l (ns.map D.int)), none, none, none, none, none, none, none, none, none, none, none, none, none], []⟩ = .ok .nx ⟨[some (.d (.scr ns)), some (.l (ns.map D.int)), some (.d (.o 0)), none, none, none, none, none, none, none, none, none, none, none, none], sp 0 []⟩ := rfl
  rw [seq_nx e1, seq_nx e2, seq_nx hF, seq_nx hC, seq_nx hD]
  rfl
theorem law_true : ∀ ns : List Int, ns.length ≤ 63 → (∀ z ∈ ns, Builtin.Int.intBits z ≤ 1048576) → ∃ z', m_law (mir lawLevel) (zX 14 ns) = .ok (.rt (.d (.bl true))) z' := by
  intro ns hl _
  have hE : ((eLc (iAnyM (eVar 0)) (kName 14) (fun z => .ok true z) (eVar 14) [14]) : Sm MX S) (zX 14 ns) = .ok (.l (ns.map D.int)) (zX 14 ns) := elc_map (M := MX) (i := 14) (its := iAnyM (eVar 0)) (e := eVar 14) D.int (g := D.int) (ts := ns) (z := zX 14 ns) (z0 := zX 14 ns) rfl rfl (by show _ ≤ 1000000; omega) (fun t _ => rfl)
  obtain ⟨j, hj⟩ : ∃ j : Int, j = (if (if ((ns.length : Nat) : Int) / 3 + 1 < 21 then ((ns.length : Nat) : Int) / 3 + 1 else 21) > 3 then (if ((ns.length : Nat) : Int) / 3 + 1 < 21 then ((ns.length : Nat) : Int) / 3 + 1 else 21) else 3) := ⟨_, rfl⟩
  have j0 : 3 ≤ j ∧ j ≤ 21 := by rw [hj]; split <;> split <;> omega
  have it := rg1_it (g := (aCons (opd (eFn fMax (aCons (opd (eC (.int 3))) (aCons (opd (eFn fMin (aCons (opd (eC (.int 21))) (aCons (opd (eBin dAdd (eBin dFdiv (eFn fLen (aCons (opd (eVar 1)) aNil)) (eC (.int 3))) (eC (.int 1)))) aNil)))) aNil)))) aNil)) (z := ⟨[some (.d (.scr ns)), some (.l (ns.map D.int)), some (.d (.o 0)), none, none, none, none, none, none, none, none, none, none, none, none], sp 0 []⟩) (z1 := ⟨[some (.d (.scr ns)), some (.l (ns.map D.int)), some (.d (.o 0)), none, none, none, none, none, none, none, none, none, none, none, none], sp 0 []⟩) (j := j) (by
    rw [hj]
    have l := lenA ns
    have d := divA ((ns.length : Nat) : Int) 3 (by omega)
    simp only [sSeq, sSet, sExpr, sRet, sIf, sAsg, una, escf, escS, opd, eVar, eC, eBin, eUn, eFn, eCall, eTup, eLst, aCons, aNil, fin, rd, rds, R.toS, dsOf, Rs.bind_ok, Rs.bind_bad, Rs.bind_ex, Rs.opt_some, Option.bind_some, Option.map_some, ownAt, eExt, eApp, ePop, List.getElem?_cons_zero, List.getElem?_cons_succ, List.set_cons_zero, List.set_cons_succ, okArg, List.all_cons, List.all_nil, Bool.and_self, if_true, kName, kTup, ksCons, ksNil, fMax, tOf, List.length_cons, List.length_nil, Bool.not_false, Bool.not_true, if_false, Bool.false_eq_true, lm0, lm1, lm2, lm3, lm4, lm5, lm6, lm7, lm8, lm9, lm10, lm11, lm12, fnM, List.map_cons, List.map_nil, List.replicate, List.cons_append, List.nil_append, Nat.reduceAdd, Nat.reduceSub, sNil, tAndM, tOrM, tNotM, tTru, dTru, eIf, dSub_i, dAdd_i, dLt_i, dLe_i, dGt_i, dGe_i, dEq_i, decide_true, decide_false, eChain, eAndM, eSl, oInt, dNeg, fInt, aDef, fTuple, eq_self, Nat.reduceEqDiff, l, d, fMin]) (by omega) (by omega)
  obtain ⟨z', e1, hz⟩ := for_inv (kk := kName (M := MX) 3) (b := (sSeq (sAsg (eCall (mir 200 ._law_ruled) (aCons (escf (eCall (mir 200 ._law_entries) (aCons (escf (eCall (mir 200 ._law_cell) (aCons (escf (eVar 1)) (aCons (escf (eVar 2)) aNil)))) aNil))) (aCons (escf (eVar 1)) (aCons (escf (eVar 2)) aNil)))) (kTup 2 (ksCons (kName 4) (ksCons (kName 5) ksNil))))
    (sSeq (sSet 6 (eCall (mir 200 ._law_cell) (aCons (escf (eVar 1)) (aCons (escf (eVar 2)) aNil))))
    (sSeq (sSet 4 (eBin dAdd (eVar 4) (eTup (aCons (escf (eTup (aCons (escf (eC (.str "taken"))) (aCons (escf (eBin dAdd (eC (.str "t")) (eSl dSl (eBin dIx (eBin dIx (eVar 4) (eC (.int 0))) (eC (.int 1))) (oInt (eC (.int 1))) (fun z => .ok none z)))) (aCons (escf (eCall (mir 200 ._law_shaped) (aCons (escf (eVar 4)) (aCons (escf (eVar 6)) aNil)))) aNil))))) aNil))))
    (sSeq (sFor (iAnyM (eVar 4)) (kName 7) (sSeq (sSet 8 (eBin dIx (eVar 7) (eC (.int 1))))
    (sSeq (sSet 9 (eAndM (eDIn true (eVar 8) (eVar 5)) (eCall (mir 200 ._law_is_rule) (aCons (escf (eDIx (eVar 5) (eVar 8))) aNil))))
    (sFor (iRg1M (aCons (opd (eC (.int 2))) aNil)) (kName 10) (sSeq (sSet 11 (eCall (mir 200 .is_rule) (aCons (escf (eVar 4)) (aCons (escf (eVar 8)) aNil))))
    (sIf (tOrM (tNotM (tTru dTru (eUn (dIsiN "bool") (eVar 11)))) (tOf (eBin dNe (eVar 11) (eVar 9)))) (sRet (eC (.bl false))) sNil))))))
    (sIf (tOf (eBin dIsNot (eCall (mir 200 .is_rule) (aCons (escf (eVar 4)) (aCons (escf (eCall (mir 200 ._law_odd) (aCons (escf (eVar 4)) (aCons (escf (eBin dFdiv (eVar 6) (eC (.int 6)))) aNil)))) aNil))) (eC (.bl false)))) (sRet (eC (.bl false))) sNil)))))) (N := j.toNat) (fun i z => ∃ (s1 s3 s4 s5 s6 s7 s8 s9 s10 s11 : Option S) (q : Int) (G : List MO), z = ⟨[some (.d (.scr ns)), s1, some (.d (.o 0)), s3, s4, s5, s6, s7, s8, s9, s10, s11, none, none, none], sp q G⟩ ∧ (s1 = some (.l (ns.map D.int)) ∨ s1 = some (.d (cl ns))) ∧ 0 ≤ q ∧ q ≤ 8 * (i : Int)) (fun i z hi hz => by
    obtain ⟨s1, s3, s4, s5, s6, s7, s8, s9, s10, s11, q, G, rfl, h1, b1, b2⟩ := hz
    obtain ⟨G', q', t4, t5, t6, t7, t8, t9, t10, t11, e2, b3, b4⟩ := body_ok (s0 := some (.d (.scr ns))) (s3 := some (.d (.int (i : Int)))) (s4 := s4) (s5 := s5) (s6 := s6) (s7 := s7) (s8 := s8) (s9 := s9) (s10 := s10) (s11 := s11) (s12 := none) (s13 := none) (ns := ns) (by omega) G q b1 (by omega) h1
    exact ⟨_, _, rfl, e2, _, _, _, _, _, _, _, _, _, _, q', G', rfl, .inr rfl, by omega, by omega⟩) j.toNat 0 ⟨[some (.d (.scr ns)), some (.l (ns.map D.int)), some (.d (.o 0)), none, none, none, none, none, none, none, none, none, none, none, none], sp 0 []⟩ (by omega) ⟨_, _, _, _, _, _, _, _, _, _, 0, [], rfl, .inl rfl, by omega, by omega⟩
  obtain ⟨s1, s3, s4, s5, s6, s7, s8, s9, s10, s11, q, G, rfl, h1, b1, b2⟩ := hz
  have hF : (sFor (iRg1M (aCons (opd (eFn fMax (aCons (opd (eC (.int 3))) (aCons (opd (eFn fMin (aCons (opd (eC (.int 21))) (aCons (opd (eBin dAdd (eBin dFdiv (eFn fLen (aCons (opd (eVar 1)) aNil)) (eC (.int 3))) (eC (.int 1)))) aNil)))) aNil)))) aNil)) (kName 3) (sSeq (sAsg (eCall (mir 200 ._law_ruled) (aCons (escf (eCall (mir 200 ._law_entries) (aCons (escf (eCall (mir 200 ._law_cell) (aCons (escf (eVar 1)) (aCons (escf (eVar 2)) aNil)))) aNil))) (aCons (escf (eVar 1)) (aCons (escf (eVar 2)) aNil)))) (kTup 2 (ksCons (kName 4) (ksCons (kName 5) ksNil))))
    (sSeq (sSet 6 (eCall (mir 200 ._law_cell) (aCons (escf (eVar 1)) (aCons (escf (eVar 2)) aNil))))
    (sSeq (sSet 4 (eBin dAdd (eVar 4) (eTup (aCons (escf (eTup (aCons (escf (eC (.str "taken"))) (aCons (escf (eBin dAdd (eC (.str "t")) (eSl dSl (eBin dIx (eBin dIx (eVar 4) (eC (.int 0))) (eC (.int 1))) (oInt (eC (.int 1))) (fun z => .ok none z)))) (aCons (escf (eCall (mir 200 ._law_shaped) (aCons (escf (eVar 4)) (aCons (escf (eVar 6)) aNil)))) aNil))))) aNil))))
    (sSeq (sFor (iAnyM (eVar 4)) (kName 7) (sSeq (sSet 8 (eBin dIx (eVar 7) (eC (.int 1))))
    (sSeq (sSet 9 (eAndM (eDIn true (eVar 8) (eVar 5)) (eCall (mir 200 ._law_is_rule) (aCons (escf (eDIx (eVar 5) (eVar 8))) aNil))))
    (sFor (iRg1M (aCons (opd (eC (.int 2))) aNil)) (kName 10) (sSeq (sSet 11 (eCall (mir 200 .is_rule) (aCons (escf (eVar 4)) (aCons (escf (eVar 8)) aNil))))
    (sIf (tOrM (tNotM (tTru dTru (eUn (dIsiN "bool") (eVar 11)))) (tOf (eBin dNe (eVar 11) (eVar 9)))) (sRet (eC (.bl false))) sNil))))))
    (sIf (tOf (eBin dIsNot (eCall (mir 200 .is_rule) (aCons (escf (eVar 4)) (aCons (escf (eCall (mir 200 ._law_odd) (aCons (escf (eVar 4)) (aCons (escf (eBin dFdiv (eVar 6) (eC (.int 6)))) aNil)))) aNil))) (eC (.bl false)))) (sRet (eC (.bl false))) sNil))))) : Sm MX Out) ⟨[some (.d (.scr ns)), some (.l (ns.map D.int)), some (.d (.o 0)), none, none, none, none, none, none, none, none, none, none, none, none], sp 0 []⟩ = _ := ci_for it e1
  obtain ⟨r, hr, r0⟩ := cell_ok 199 ns q G (by omega) b1 (by omega)
  obtain ⟨e, ks, he, hm⟩ := entries_ok 199 r (sp (q + 1) G) r0
  rw [room_ent] at he
  have hC := c_ent (s0 := some (.d (.scr ns))) (s3 := s3) (s4 := s4) (s5 := s5) (s6 := s6) (s7 := s7) (s8 := s8) (s9 := s9) (s10 := s10) (s11 := s11) (s12 := none) (s13 := none) h1 hr he
  obtain ⟨t11, t12, t13, ext, hD⟩ := c_loop (s0 := some (.d (.scr ns))) (s3 := s3) (s5 := s5) (s6 := s6) (s7 := s7) (s8 := s8) (s9 := s9) (s10 := s10) (s11 := s11) (s12 := none) (s13 := none) (ns := ns) (g := sp (q + 1) G) hm
  exact ⟨_, law_gen hE hF hC hD⟩
end L
open PySem PySem.W PyProof.Rows
set_option maxRecDepth 100000 in
set_option maxHeartbeats 0 in
theorem PySem.Challenge.cw_groundroom_k64_rules_known_holds : PySem.Challenge.rw_groundroom_k64_rules_known.Holds := by
  w_on; o_law; k_head; (case hw => w_witness2)
  k_fill
  refine G.walkG (l := PySem.Challenge.rw_groundroom_k64_rules_known) (m := 63) (n := L.lawLevel + 9) (x := "_law_script") (CX := fun w => L2.CX PySem.Challenge.rw_groundroom_k64_rules_known.prog w) (sp := fun w => G.spLaw _) rfl (by decide) rfl ⟨rfl, by decide, by decide⟩ (fun w h Y => PySem.W.kIn_of Y) ?F (fun _ _ a ns hl hb _ hS => ⟨a, ns, rfl, hS, hl, hb, fun _ => rfl⟩) (fun w H s e s' h => by
    obtain ⟨_, _, _, _, _, _, _, _, _, _, _, _, z⟩ := h
    exact z)
  case F =>
    intro w mg fa h KX G hmg
    refine' L.all_mk KX G hmg ?ca_Known ?cb1_Known ?cb2_Known ?cb3_Known ?cb4_Known ?cm1_Known ?cm2_Known ?ca_Rule ?cb1_Rule ?cb2_Rule ?cb3_Rule ?cb4_Rule ?cm1_Rule ?cm2_Rule ?na_Known_told_calls ?na_Known_told_facts ?na_Known_told_means ?na_Known_told_rels ?na_Known_told_sorts ?na_Rule_left ?na_Rule_many ?na_Rule_name ?na_Rule_right ?a0 ?l0 ?c0 ?k0 ?a1 ?l1 ?c1 ?k1 ?a2 ?n2 ?l2 ?c2 ?k2 ?a3 ?n3 ?l3 ?c3 ?k3 ?a4 ?n4 ?l4 ?c4 ?k4 ?a5 ?n5 ?l5 ?c5 ?k5 ?a6 ?l6 ?c6 ?k6 ?a7 ?n7 ?l7 ?c7 ?k7 ?a8 ?l8 ?c8 ?k8 ?a9 ?l9 ?c9 ?k9 ?a10 ?l10 ?c10 ?k10 ?a11 ?l11 ?c11 ?k11 ?a12 ?l12 ?c12 ?k12 ?a13 ?l13 ?c13 ?k13 ?a14 ?l14 ?c14 ?k14 ?a15 ?l15 ?c15 ?k15 ?a16 ?l16 ?c16 ?k16 ?a17 ?l17 ?c17 ?k17 ?a18 ?l18 ?c18 ?k18 ?a19 ?l19 ?c19 ?k19 ?a20 ?l20 ?c20 ?k20 ?a21 ?l21 ?c21 ?k21 ?a22 ?l22 ?c22 ?k22 ?z_bool ?z_dict ?z_enumerate ?z_int ?z_isinstance ?z_len ?z_list ?z_max ?z_min ?z_range ?z_sorted ?z_str ?z_sum ?z_tuple ?g_BOUND ?gl_BOUND ?g_CALLED ?gl_CALLED ?g_JOINED ?gl_JOINED ?g_MOST_ALLS L.law_true
    (case ca_Known => k_is)
    (case cb1_Known => k_is)
    (case cb2_Known => k_is)
    (case cb3_Known => k_is)
    (case cb4_Known => k_is)
    (case cm1_Known => k_is)
    (case cm2_Known => k_is)
    (case ca_Rule => k_is)
    (case cb1_Rule => k_is)
    (case cb2_Rule => k_is)
    (case cb3_Rule => k_is)
    (case cb4_Rule => k_is)
    (case cm1_Rule => k_is)
    (case cm2_Rule => k_is)
    (case na_Known_told_calls => k_is)
    (case na_Known_told_facts => k_is)
    (case na_Known_told_means => k_is)
    (case na_Known_told_rels => k_is)
    (case na_Known_told_sorts => k_is)
    (case na_Rule_left => k_is)
    (case na_Rule_many => k_is)
    (case na_Rule_name => k_is)
    (case na_Rule_right => k_is)
    (case a0 => k_is)
    (case l0 => k_is)
    (case c0 => k_is)
    (case k0 => k_is)
    (case a1 => k_is)
    (case l1 => k_is)
    (case c1 => k_is)
    (case k1 => k_is)
    (case a2 => k_is)
    (case n2 => k_is)
    (case l2 => k_is)
    (case c2 => k_is)
    (case k2 => k_is)
    (case a3 => k_is)
    (case n3 => k_is)
    (case l3 => k_is)
    (case c3 => k_is)
    (case k3 => k_is)
    (case a4 => k_is)
    (case n4 => k_is)
    (case l4 => k_is)
    (case c4 => k_is)
    (case k4 => k_is)
    (case a5 => k_is)
    (case n5 => k_is)
    (case l5 => k_is)
    (case c5 => k_is)
    (case k5 => k_is)
    (case a6 => k_is)
    (case l6 => k_is)
    (case c6 => k_is)
    (case k6 => k_is)
    (case a7 => k_is)
    (case n7 => k_is)
    (case l7 => k_is)
    (case c7 => k_is)
    (case k7 => k_is)
    (case a8 => k_is)
    (case l8 => k_is)
    (case c8 => k_is)
    (case k8 => k_is)
    (case a9 => k_is)
    (case l9 => k_is)
    (case c9 => k_is)
    (case k9 => k_is)
    (case a10 => k_is)
    (case l10 => k_is)
    (case c10 => k_is)
    (case k10 => k_is)
    (case a11 => k_is)
    (case l11 => k_is)
    (case c11 => k_is)
    (case k11 => k_is)
    (case a12 => k_is)
    (case l12 => k_is)
    (case c12 => k_is)
    (case k12 => k_is)
    (case a13 => k_is)
    (case l13 => k_is)
    (case c13 => k_is)
    (case k13 => k_is)
    (case a14 => k_is)
    (case l14 => k_is)
    (case c14 => k_is)
    (case k14 => k_is)
    (case a15 => k_is)
    (case l15 => k_is)
    (case c15 => k_is)
    (case k15 => k_is)
    (case a16 => k_is)
    (case l16 => k_is)
    (case c16 => k_is)
    (case k16 => k_is)
    (case a17 => k_is)
    (case l17 => k_is)
    (case c17 => k_is)
    (case k17 => k_is)
    (case a18 => k_is)
    (case l18 => k_is)
    (case c18 => k_is)
    (case k18 => k_is)
    (case a19 => k_is)
    (case l19 => k_is)
    (case c19 => k_is)
    (case k19 => k_is)
    (case a20 => k_is)
    (case l20 => k_is)
    (case c20 => k_is)
    (case k20 => k_is)
    (case a21 => k_is)
    (case l21 => k_is)
    (case c21 => k_is)
    (case k21 => k_is)
    (case a22 => k_is)
    (case l22 => k_is)
    (case c22 => k_is)
    (case k22 => k_is)
    (case z_bool => k_is)
    (case z_dict => k_is)
    (case z_enumerate => k_is)
    (case z_int => k_is)
    (case z_isinstance => k_is)
    (case z_len => k_is)
    (case z_list => k_is)
    (case z_max => k_is)
    (case z_min => k_is)
    (case z_range => k_is)
    (case z_sorted => k_is)
    (case z_str => k_is)
    (case z_sum => k_is)
    (case z_tuple => k_is)
    (case g_BOUND => k_is)
    (case gl_BOUND => k_is)
    (case g_CALLED => k_is)
    (case gl_CALLED => k_is)
    (case g_JOINED => k_is)
    (case gl_JOINED => k_is)
    (case g_MOST_ALLS => k_is)
