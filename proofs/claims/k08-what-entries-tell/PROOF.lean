import PyProof.Rows.All
import Wide.All
import OpenK.AllK
import HandS.CallSlots
import HandS.Conv
import HandS.Defaults
import HandS.Dict
import HandS.EndBits
import HandS.ExcIs
import HandS.Flow
import HandS.ForExc
import HandS.ForMost
import HandS.IsInst
import HandS.Iter
import HandS.More
import HandS.Nested
import HandS.SetTxtIn
import HandS.SortKw
import HandS.Style
import HandS.Text
import HandS.TryOnly
import HandS.TupAny
import HandS.TupLe
import HandS.TupMul
import HandS.Walk
import HandS.Zip
import KE.DataMinMax
import KE.GoesEnum
import KE.GoesMore
import KE.GoesZip
import KE.OsGo
import PyProof.EqAt
import PyProof.EqKinds
import PyProof.FactsAll.subtypes_4
import PyProof.ListOps
import PyProof.ReprLen
import PyProof.ReprRoads
import PyProof.Rows.IntBool
import PyProof.Rows.SetFrom
import PyProof.Rows.TmSorted
import PyProof.SumWalkG
import PyProof.TupleCall
import Wide.FinOn
import PySem.Challenge.RW_groundroom_k08_what_entries_tell
set_option Elab.async false
set_option linter.all false
set_option maxRecDepth 100000
set_option maxHeartbeats 4000000
namespace G
open PySem L2
inductive D where
  | non
  | bl (b : Bool)
  | int (i : Int)
  | str (x : Str)
  | tup (xs : List D)
  | lst (xs : List D)
  | scr (ns : List Int)
  | emp
  | exc (c : Str) (xs : List D)
  /-- a mutable object of the store, by its number -/
  | o (n : Nat)
noncomputable def XO (cls : Value) (d : Option Addr) (a : Addr) : HO := .ext fun h => ∃ (ox : Obj) (fs : Array Value), h.get? a = some ox ∧ Zc cls d ox ∧ ox.data = .fields fs
noncomputable def xrK (K : PySem.W.Frag) (c : Str) : Option Value := match PySem.W.nsIn K mainGlobals c with
 | some o => o
 | none => none
noncomputable def tag (n : Nat) : HO := .tbl #[rawInt n]
noncomputable def SameX (F H : Hp) : Prop := ∀ b o, F b = some o → (∀ ps, o ≠ .tbl ps) → H b = some o
noncomputable def noT (F : Hp) : Hp := fun a => match F a with
 | some (.tbl _) => none
 | o => o
theorem noT_at {F : Hp} {a : Addr} {o : HO} (h : F a = some o) (n : ∀ ps, o ≠ .tbl ps) : noT F a = some o := by
 unfold noT
 rw [h]
 cases o with
 | tbl ps => exact (n ps rfl).elim
 | _ => rfl
theorem noT_of {F : Hp} {a : Addr} {o : HO} (h : noT F a = some o) : F a = some o ∧ ∀ ps, o ≠ .tbl ps := by
 unfold noT at h
 cases q : F a with
 | none => rw [q] at h; cases h
 | some u =>
  rw [q] at h
  cases u with
  | tbl ps => cases h
  | _ => cases h; exact ⟨rfl, fun ps e => by cases e⟩
theorem SameX.same {F H : Hp} (s : SameX F H) : Same (noT F) H := fun b o q => s b o (noT_of q).1 (noT_of q).2
noncomputable def TgK (F F' H H' : Hp) : Prop := ∀ a ps, F' a = some (.tbl ps) → F a = some (.tbl ps) ∧ H' a = H a
theorem TgK.refl (F H : Hp) : TgK F F H H := fun _ _ h => ⟨h, rfl⟩
theorem sqT_mono {K : PySem.W.Frag} {H H' : Hp} {a : Addr} {xs : List V} (e : Same H H') (h : SqT K H a xs) : SqT K H' a xs := by
 rcases h with (h | ⟨o, h⟩) | h
 ·exact .inl (.inl (e _ _ h))
 ·exact .inl (.inr ⟨o, e _ _ h⟩)
 ·exact .inr h
theorem tupNT {vs : List V} : ∀ ps, HO.tup vs ≠ .tbl ps := fun _ e => by cases e
theorem lstNT {vs : List V} : ∀ ps, HO.lst vs ≠ .tbl ps := fun _ e => by cases e
theorem SameX.tup {K : PySem.W.Frag} {F H : Hp} {a : Addr} {xs : List V} (e : SameX F H) (h : SqT K F a xs) : SqT K H a xs := by
 rcases h with (h | ⟨o, h⟩) | h
 ·exact .inl (.inl (e _ _ h tupNT))
 ·exact .inl (.inr ⟨o, e _ _ h (fun _ q => by cases q)⟩)
 ·exact .inr h
theorem SameX.seq {K : PySem.W.Frag} {F H : Hp} {a : Addr} {xs : List V} (e : SameX F H) (h : SqL K F a xs) : SqL K H a xs := by
 rcases h with (h | ⟨o, h⟩) | h
 ·exact .inl (.inl (e _ _ h lstNT))
 ·exact .inl (.inr ⟨o, e _ _ h (fun _ q => by cases q)⟩)
 ·exact .inr h
theorem SameX.lst {F H : Hp} {a : Addr} {xs : List V} (e : SameX F H) (h : F a = some (.lst xs)) : H a = some (.lst xs) := e _ _ h lstNT
theorem SameX.emp {F H : Hp} {a : Addr} (e : SameX F H) (h : F a = some (.dK [])) : H a = some (.dK []) := e _ _ h (fun _ q => by cases q)
theorem SameX.ext {F H : Hp} {a : Addr} {φ : Heap → Prop} (e : SameX F H) (h : F a = some (.ext φ)) : H a = some (.ext φ) := e _ _ h (fun _ q => by cases q)
theorem thenX {F F1 H : Hp} (a : Same F F1) (b : SameX F1 H) : SameX F H := fun c o h n => b c o (a c o h) n
mutual
inductive Da (K : PySem.W.Frag) (F : Hp) : V → D → Prop
 | non : Da K F .non .non
 | bl (b : Bool) : Da K F (.bl b) (.bl b)
 | int (i : Int) : Da K F (.int i) (.int i)
 | str (x : Str) : Da K F (.str x) (.str x)
 | tup {a : Addr} {vs : List V} {ds : List D} : SqT K F a vs → DaAll K F vs ds → Da K F (.ref a) (.tup ds)
 | lst {a : Addr} {vs : List V} {ds : List D} : F a = some (.lst vs) → DaAll K F vs ds → Da K F (.ref a) (.lst ds)
 | scr {a : Addr} {ns : List Int} : SqL K F a (ns.map V.int) → Da K F (.ref a) (.scr ns)
 | emp {a : Addr} : F a = some (.dK []) → Da K F (.ref a) .emp
 | exc {a C : Addr} {c : Str} : F a = some (XO (.ref C) none a) → xrK K c = some (.ref C) → Da K F (.ref a) (.exc c [])
 | excA {a C dd : Addr} {c : Str} {v : V} {x : D} : F a = some (XO (.ref C) (some dd) a) → F dd = some (.xd [(("at" : Str), v)]) → Da K F v x → xrK K c = some (.ref C) → Da K F (.ref a) (.exc c [x])
 | o {a : Addr} {n : Nat} : F a = some (tag n) → Da K F (.ref a) (.o n)
inductive DaAll (K : PySem.W.Frag) (F : Hp) : List V → List D → Prop
 | nil : DaAll K F [] []
 | cons {v : V} {vs : List V} {d : D} {ds : List D} : Da K F v d → DaAll K F vs ds → DaAll K F (v :: vs) (d :: ds)
end
mutual
theorem Da.mono {K : PySem.W.Frag} {F F' : Hp} (h : Same F F') : ∀ {v : V} {d : D}, Da K F v d → Da K F' v d
 | _, _, .non => .non
 | _, _, .bl b => .bl b
 | _, _, .int i => .int i
 | _, _, .str x => .str x
 | _, _, .tup q r => .tup (sqT_mono h q) (DaAll.mono h r)
 | _, _, .lst q r => .lst (h _ _ q) (DaAll.mono h r)
 | _, _, .scr q => .scr (h.seq q)
 | _, _, .emp q => .emp (h _ _ q)
 | _, _, .exc q r => .exc (h _ _ q) r
 | _, _, .excA q q2 t r => .excA (h _ _ q) (h _ _ q2) (Da.mono h t) r
 | _, _, .o q => .o (h _ _ q)
theorem DaAll.mono {K : PySem.W.Frag} {F F' : Hp} (h : Same F F') : ∀ {vs : List V} {ds : List D}, DaAll K F vs ds → DaAll K F' vs ds
 | _, _, .nil => .nil
 | _, _, .cons a b => .cons (Da.mono h a) (DaAll.mono h b)
end
theorem DaAll.length {K : PySem.W.Frag} {F : Hp} : ∀ {vs : List V} {ds : List D}, DaAll K F vs ds → vs.length = ds.length
 | _, _, .nil => rfl
 | _, _, .cons _ b => congrArg (· + 1) (DaAll.length b)
theorem DaAll.get {K : PySem.W.Frag} {F : Hp} : ∀ {vs : List V} {ds : List D} {i : Nat} {d : D}, DaAll K F vs ds → ds[i]? = some d → ∃ v, vs[i]? = some v ∧ Da K F v d
 | _, _, _, _, .nil, e => by simp at e
 | _, _, 0, _, .cons a _, e => by simp at e; subst e; exact ⟨_, rfl, a⟩
 | _, _, i + 1, _, .cons _ b, e => by
  obtain ⟨v, h1, h2⟩ := DaAll.get (i := i) b (by simpa using e)
  exact ⟨v, by simpa using h1, h2⟩
theorem DaAll.getV {K : PySem.W.Frag} {F : Hp} : ∀ {vs : List V} {ds : List D} {i : Nat} {v : V}, DaAll K F vs ds → vs[i]? = some v → ∃ d, ds[i]? = some d ∧ Da K F v d
 | _, _, _, _, .nil, e => by simp at e
 | _, _, 0, _, .cons a _, e => by simp at e; subst e; exact ⟨_, rfl, a⟩
 | _, _, i + 1, _, .cons _ b, e => by
  obtain ⟨v, h1, h2⟩ := DaAll.getV (i := i) b (by simpa using e)
  exact ⟨v, by simpa using h1, h2⟩
theorem DaAll.append {K : PySem.W.Frag} {F : Hp} : ∀ {vs ws : List V} {ds es : List D}, DaAll K F vs ds → DaAll K F ws es → DaAll K F (vs ++ ws) (ds ++ es)
 | _, _, _, _, .nil, h => h
 | _, _, _, _, .cons a b, h => .cons a (DaAll.append b h)
theorem DaAll.take {K : PySem.W.Frag} {F : Hp} : ∀ {vs : List V} {ds : List D} (n : Nat), DaAll K F vs ds → DaAll K F (vs.take n) (ds.take n)
 | _, _, 0, _ => .nil
 | _, _, _ + 1, .nil => .nil
 | _, _, n + 1, .cons a b => .cons a (DaAll.take n b)
theorem DaAll.drop {K : PySem.W.Frag} {F : Hp} : ∀ {vs : List V} {ds : List D} (n : Nat), DaAll K F vs ds → DaAll K F (vs.drop n) (ds.drop n)
 | _, _, 0, h => h
 | _, _, _ + 1, .nil => .nil
 | _, _, n + 1, .cons _ b => DaAll.drop n b
theorem DaAll.dropLast {K : PySem.W.Frag} {F : Hp} {vs : List V} {ds : List D} (h : DaAll K F vs ds) : DaAll K F vs.dropLast ds.dropLast := by
 rw [List.dropLast_eq_take, List.dropLast_eq_take, h.length]
 exact h.take _
theorem DaAll.reverse {K : PySem.W.Frag} {F : Hp} : ∀ {vs : List V} {ds : List D}, DaAll K F vs ds → DaAll K F vs.reverse ds.reverse
 | _, _, .nil => .nil
 | _, _, .cons a b => by
  rw [List.reverse_cons, List.reverse_cons]
  exact (DaAll.reverse b).append (.cons a .nil)
theorem DaAll.set {K : PySem.W.Frag} {F : Hp} {v : V} {d : D} (hv : Da K F v d) : ∀ {vs : List V} {ds : List D} (n : Nat), DaAll K F vs ds → DaAll K F (vs.set n v) (ds.set n d)
 | _, _, _, .nil => .nil
 | _, _, 0, .cons _ b => .cons hv b
 | _, _, n + 1, .cons a b => .cons a (DaAll.set hv n b)
theorem DaAll.ints {K : PySem.W.Frag} {F : Hp} : ∀ (ns : List Int), DaAll K F (ns.map V.int) (ns.map D.int)
 | [] => .nil
 | n :: r => .cons (.int n) (DaAll.ints r)
inductive S where
  | d (x : D)
  | l (xs : List D)
  | v (i : Nat)
  | m (j : Nat)
structure Z (T : Type) where
  rho : List (Option S)
  m : T
structure Xc where
  c : Str
  arg : Option D
inductive Rs (α ζ : Type) where
  | ok (a : α) (z : ζ)
  | ex (x : Xc) (z : ζ)
  | bad
noncomputable def Rs.bind {α β ζ : Type} (r : Rs α ζ) (k : α → ζ → Rs β ζ) : Rs β ζ := match r with
 | .ok a z => k a z
 | .ex x z => .ex x z
 | .bad => .bad
@[simp] theorem Rs.bind_ok {α β ζ : Type} (a : α) (z : ζ) (k : α → ζ → Rs β ζ) : (Rs.ok a z).bind k = k a z := rfl
@[simp] theorem Rs.bind_ex {α β ζ : Type} (x : Xc) (z : ζ) (k : α → ζ → Rs β ζ) : (Rs.ex x z).bind k = .ex x z := rfl
@[simp] theorem Rs.bind_bad {α β ζ : Type} (k : α → ζ → Rs β ζ) : (Rs.bad : Rs α ζ).bind k = .bad := rfl
noncomputable def Rs.opt {α ζ : Type} (o : Option α) (z : ζ) : Rs α ζ := match o with
  | some a => .ok a z
  | none => .bad
@[simp] theorem Rs.opt_some {α ζ : Type} (a : α) (z : ζ) : Rs.opt (some a) z = .ok a z := rfl
@[simp] theorem Rs.opt_none {α ζ : Type} (z : ζ) : Rs.opt (none : Option α) z = .bad := rfl
structure MI where
  T : Type
  ok : PySem.W.Frag → Hp → Hp → List Addr → T → Prop
  mono : ∀ {K : PySem.W.Frag} {F F' H H' : Hp} {ms : List Addr} {t : T}, Same F F' → TgK F F' H H' → (∀ a ∈ ms, H' a = H a) → ok K F H ms t → ok K F' H' ms t
structure Gx where
  K : PySem.W.Frag
  xr : Str → Option Value
  ms : List Addr
  P : Hp
  Fp : Hp
noncomputable def SV (G : Gx) (F H : Hp) (v : V) : S → Prop
 | .d x => Da G.K F v x
 | .l xs => ∃ a vs, v = .ref a ∧ H a = some (.lst vs) ∧ DaAll G.K F vs xs ∧ F a = none ∧ G.P a = none ∧ a ∉ G.ms
 | .v _ => False
 | .m j => ∃ a, G.ms[j]? = some a ∧ v = .ref a
structure Ok (M : MI) (G : Gx) (σ : St) (H F : Hp) (z : Z M.T) : Prop where
  sub : SameX F H
  len : z.rho.length = σ.length
  slot : ∀ (i : Nat) (s : S), z.rho[i]? = some (some s) → ∃ v, σ[i]? = some (some v) ∧ SV G F H v s
  dist : ∀ (i j : Nat) (xs ys : List D) (v : V), z.rho[i]? = some (some (.l xs)) → z.rho[j]? = some (some (.l ys)) → σ[i]? = some (some v) → σ[j]? = some (some v) → i = j
  mach : M.ok G.K F H G.ms z.m
  msF : ∀ a ∈ G.ms, F a = none
  msP : ∀ a ∈ G.ms, G.P a = none
  msH : ∀ a ∈ G.ms, H a ≠ none
  fr : ∀ b o, G.P b = some o → H b = some o ∧ F b = G.Fp b
  tg : ∀ a ps, F a = some (.tbl ps) → H a ≠ none ∧ G.P a = none
noncomputable def Owned {T : Type} (σ : St) (z : Z T) (a : Addr) : Prop := ∃ (i : Nat) (xs : List D), z.rho[i]? = some (some (.l xs)) ∧ σ[i]? = some (some (.ref a))
noncomputable def EV {T : Type} (G : Gx) (σ : St) (F H : Hp) (z : Z T) (v : V) : S → Prop
 | .d x => Da G.K F v x
 | .l xs => ∃ a vs, v = .ref a ∧ H a = some (.lst vs) ∧ DaAll G.K F vs xs ∧ F a = none ∧ G.P a = none ∧ a ∉ G.ms ∧ ¬ Owned σ z a
 | .v i => σ[i]? = some (some v)
 | .m j => ∃ a, G.ms[j]? = some a ∧ v = .ref a
noncomputable def EO (G : Gx) (σ : St) (F : Hp) (v : V) : S → Prop
 | .d x => Da G.K F v x
 | .l _ => False
 | .v i => σ[i]? = some (some v)
 | .m j => ∃ a, G.ms[j]? = some a ∧ v = .ref a
theorem EO.mono {G : Gx} {σ : St} {F F' : Hp} {v : V} {s : S} (h : Same F F') (e : EO G σ F v s) : EO G σ F' v s := by
 cases s with
 | d x => exact Da.mono h e
 | l _ => exact e
 | v i => exact e
 | m j => exact e
section
variable {M : MI} {G : Gx} {σ : St} {H H' F F' : Hp} {z : Z M.T}
theorem Ok.ownH (ok : Ok M G σ H F z) {a : Addr} (o : Owned σ z a) : ∃ vs, H a = some (.lst vs) ∧ F a = none ∧ G.P a = none ∧ a ∉ G.ms := by
 obtain ⟨i, xs, h1, h2⟩ := o
 obtain ⟨v, e, b, vs, rfl, h3, _, h4, h5, h6⟩ := ok.slot i _ h1
 rw [h2] at e
 cases e
 exact ⟨vs, h3, h4, h5, h6⟩
theorem Ok.step (ok : Ok M G σ H F z) (hF : Same F F') (ht : TgK F F' H H') (hs : SameX F' H') (ho : ∀ a, Owned σ z a → H' a = H a ∧ F' a = none) (hm : ∀ a ∈ G.ms, H' a = H a ∧ F' a = none) (hf : ∀ b o, G.P b = some o → H' b = some o ∧ F' b = G.Fp b) : Ok M G σ H' F' z where
 sub := hs
 len := ok.len
 slot := fun i s e => by
  obtain ⟨v, h1, h2⟩ := ok.slot i s e
  refine ⟨v, h1, ?_⟩
  cases s with
  | d x => exact Da.mono hF h2
  | l xs =>
   obtain ⟨a, vs, rfl, h3, h4, h5, h6, h7⟩ := h2
   obtain ⟨q1, q2⟩ := ho a ⟨i, xs, e, h1⟩
   exact ⟨a, vs, rfl, q1.trans h3, h4.mono hF, q2, h6, h7⟩
  | v _ => exact h2
  | m j => exact h2
 dist := ok.dist
 mach := M.mono hF ht (fun a ha => (hm a ha).1) ok.mach
 tg := fun a ps e => by
  obtain ⟨h1, h2⟩ := ht a ps e
  rw [h2]
  exact ok.tg a ps h1
 msF := fun a ha => (hm a ha).2
 msP := ok.msP
 msH := fun a ha => by rw [(hm a ha).1]; exact ok.msH a ha
 fr := hf
theorem Ok.freshF (ok : Ok M G σ H F z) {p : Addr} (h : H p = none) : F p = none := by
 cases q : F p with
 | none => rfl
 | some o =>
  by_cases n : ∃ ps, o = .tbl ps
  ·obtain ⟨ps, rfl⟩ := n
   exact ((ok.tg p ps q).1 h).elim
  ·have := ok.sub p o q (fun ps e => n ⟨ps, e⟩)
   rw [h] at this
   cases this
theorem Ok.freshP (ok : Ok M G σ H F z) {p : Addr} (h : H p = none) : G.P p = none := by
 cases q : G.P p with
 | none => rfl
 | some o =>
  rw [(ok.fr p o q).1] at h
  cases h
theorem Ok.freshM (ok : Ok M G σ H F z) {p : Addr} (h : H p = none) : p ∉ G.ms := fun q => ok.msH p q h
theorem Ok.freshO (ok : Ok M G σ H F z) {p : Addr} (h : H p = none) : ¬ Owned σ z p := fun q => by
 obtain ⟨vs, e, _⟩ := ok.ownH q
 rw [h] at e
 cases e
theorem same_upd {H : Hp} {p : Addr} {o : HO} (h : H p = none) : Same H (upd H p o) := fun b u q => by
 rw [upd_ne (ne_of_none q h)]
 exact q
theorem same_upd2 {F H : Hp} {p : Addr} {o : HO} (h : SameX F H) : SameX (upd F p o) (upd H p o) := fun b u q n => by
 by_cases e : b = p
 ·subst e
  rw [upd_same] at q ⊢
  exact q
 ·rw [upd_ne e] at q ⊢
  exact h b u q n
theorem same_updR {F H : Hp} {p : Addr} {o : HO} (h : SameX F H) (hp : F p = none) : SameX F (upd H p o) := fun b u q n => by
 rw [upd_ne (ne_of_none q hp)]
 exact h b u q n
theorem tgk_new {F H : Hp} {p : Addr} {o : HO} (hp : F p = none) : TgK F F H (upd H p o) := fun a ps e => ⟨e, upd_ne (ne_of_none e hp)⟩
theorem tgk_newF {F H : Hp} {p : Addr} {o u : HO} (hp : F p = none) (n : ∀ ps, o ≠ .tbl ps) : TgK F (upd F p o) H (upd H p u) := fun a ps e => by
 by_cases h : a = p
 ·subst h
  rw [upd_same] at e
  exact (n ps (Option.some.inj e)).elim
 ·rw [upd_ne h] at e
  exact ⟨e, upd_ne h⟩
theorem tgk_frz {F H : Hp} {p : Addr} {o : HO} (hp : F p = none) (n : ∀ ps, o ≠ .tbl ps) : TgK F (upd F p o) H H := fun a ps e => by
 by_cases h : a = p
 ·subst h
  rw [upd_same] at e
  exact (n ps (Option.some.inj e)).elim
 ·rw [upd_ne h] at e
  exact ⟨e, rfl⟩
theorem Ok.new (ok : Ok M G σ H F z) {p : Addr} (hp : H p = none) (o : HO) : Ok M G σ (upd H p o) F z :=
 ok.step (Same.refl F) (tgk_new (ok.freshF hp)) (same_updR ok.sub (ok.freshF hp)) (fun a q => by
  obtain ⟨vs, e, e2, _⟩ := ok.ownH q
  exact ⟨upd_ne (ne_of_none e hp), e2⟩) (fun a q => by
  have n : a ≠ p := fun e => ok.freshM hp (e ▸ q)
  exact ⟨upd_ne n, ok.msF a q⟩) (fun b u q => by
  obtain ⟨h1, h2⟩ := ok.fr b u q
  exact ⟨by rw [upd_ne (ne_of_none h1 hp)]; exact h1, h2⟩)
theorem Ok.newF (ok : Ok M G σ H F z) {p : Addr} (hp : H p = none) (o : HO) (nt : ∀ ps, o ≠ .tbl ps) : Ok M G σ (upd H p o) (upd F p o) z :=
 ok.step (same_upd (ok.freshF hp)) (tgk_newF (ok.freshF hp) nt) (same_upd2 ok.sub) (fun a q => by
  obtain ⟨vs, e, e2, _⟩ := ok.ownH q
  exact ⟨upd_ne (ne_of_none e hp), by rw [upd_ne (ne_of_none e hp)]; exact e2⟩) (fun a q => by
  have n : a ≠ p := fun e => ok.freshM hp (e ▸ q)
  exact ⟨upd_ne n, by rw [upd_ne n]; exact ok.msF a q⟩) (fun b u q => by
  obtain ⟨h1, h2⟩ := ok.fr b u q
  have n := ne_of_none h1 hp
  exact ⟨by rw [upd_ne n]; exact h1, by rw [upd_ne n]; exact h2⟩)
theorem Ok.frz (ok : Ok M G σ H F z) {a : Addr} {vs : List V} (ha : H a = some (.lst vs)) (hF : F a = none) (hP : G.P a = none) (hm : a ∉ G.ms) (ho : ¬ Owned σ z a) : Ok M G σ H (upd F a (.lst vs)) z :=
 ok.step (same_upd hF) (tgk_frz hF lstNT) (fun b u q n => by
  by_cases e : b = a
  ·subst e
   rw [upd_same] at q
   rw [ha]
   exact q
  ·rw [upd_ne e] at q
   exact ok.sub b u q n) (fun b q => by
  obtain ⟨_, _, e2, _⟩ := ok.ownH q
  have n : b ≠ a := fun e => ho (e ▸ q)
  exact ⟨rfl, by rw [upd_ne n]; exact e2⟩) (fun b q => by
  have n : b ≠ a := fun e => hm (e ▸ q)
  exact ⟨rfl, by rw [upd_ne n]; exact ok.msF b q⟩) (fun b u q => by
  obtain ⟨h1, h2⟩ := ok.fr b u q
  have n : b ≠ a := fun e => by rw [e, hP] at q; cases q
  exact ⟨h1, by rw [upd_ne n]; exact h2⟩)
theorem Ok.set (ok : Ok M G σ H F z) {i : Nat} {v : V} {s : S} (hv : SV G F H v s) (hs : ∀ xs, s = .l xs → ∀ a, v = .ref a → ¬ Owned σ z a) : Ok M G (σ.set i (some v)) H F { z with rho := z.rho.set i (some s) } where
 sub := ok.sub
 len := by simp [ok.len]
 slot := fun j t e => by
  by_cases hj : j = i
  ·subst hj
   by_cases hl : j < z.rho.length
   ·have e2 : (z.rho.set j (some s))[j]? = some (some s) := List.getElem?_set_self hl
    have e' : (z.rho.set j (some s))[j]? = some (some t) := e
    rw [e2] at e'
    cases e'
    exact ⟨v, List.getElem?_set_self (by rw [← ok.len]; exact hl), hv⟩
   ·have e' : (z.rho.set j (some s))[j]? = some (some t) := e
    rw [List.getElem?_eq_none (by simp; omega)] at e'
    cases e'
  ·have e' : (z.rho.set i (some s))[j]? = some (some t) := e
   rw [List.getElem?_set_ne (Ne.symm hj)] at e'
   obtain ⟨w, h1, h2⟩ := ok.slot j t e'
   exact ⟨w, by rw [List.getElem?_set_ne (Ne.symm hj)]; exact h1, h2⟩
 dist := fun j k xs ys w e1 e2 e3 e4 => by
  have e1' : (z.rho.set i (some s))[j]? = some (some (.l xs)) := e1
  have e2' : (z.rho.set i (some s))[k]? = some (some (.l ys)) := e2
  have lt : ∀ {n : Nat} {t : Option S}, (z.rho.set i (some s))[n]? = some t → n < z.rho.length := fun {n t} q => by
   have := (List.getElem?_eq_some_iff.mp q).1
   simpa using this
  have hit : ∀ {n m : Nat} {xs ys : List D}, n = i → m ≠ i → (z.rho.set i (some s))[n]? = some (some (.l xs)) → (z.rho.set i (some s))[m]? = some (some (.l ys)) → (σ.set i (some v))[n]? = some (some w) → (σ.set i (some v))[m]? = some (some w) → False := fun {n m xs ys} hn hm q1 q2 q3 q4 => by
   subst hn
   have hl := lt q1
   rw [List.getElem?_set_self hl] at q1
   rw [List.getElem?_set_self (by rw [← ok.len]; exact hl)] at q3
   rw [List.getElem?_set_ne (Ne.symm hm)] at q2 q4
   cases q1
   cases q3
   obtain ⟨u, h1, a, vs, rfl, h2⟩ := ok.slot m _ q2
   rw [q4] at h1
   cases h1
   exact hs _ rfl a rfl ⟨m, ys, q2, q4⟩
  by_cases hj : j = i
  ·by_cases hk : k = i
   ·rw [hj, hk]
   ·exact (hit hj hk e1' e2' e3 e4).elim
  ·by_cases hk : k = i
   ·exact (hit hk hj e2' e1' e4 e3).elim
   ·rw [List.getElem?_set_ne (Ne.symm hj)] at e1' e3
    rw [List.getElem?_set_ne (Ne.symm hk)] at e2' e4
    exact ok.dist j k xs ys w e1' e2' e3 e4
 mach := ok.mach
 msF := ok.msF
 msP := ok.msP
 msH := ok.msH
 fr := ok.fr
 tg := ok.tg
end
end G
namespace G
open PySem L2
noncomputable abbrev Sm (M : MI) (α : Type) := Z M.T → Rs α (Z M.T)
noncomputable def XOk (G : Gx) (F H : Hp) (x : Xc) (cls : Value) (d : Option Addr) : Prop := G.xr x.c = some cls ∧ match x.arg with
 | none => d = none
 | some a => ∃ dd v, d = some dd ∧ F dd = some (.xd [(("at" : Str), v)]) ∧ Da G.K F v a
noncomputable def HitG {α β : Type} (M : MI) (G : Gx) (W : WX) (σ : St) (F : Hp) (R : α → β → Hp → Hp → Z M.T → Prop) (r : Rs α (Z M.T)) (Q : β → Hp → Prop) : Prop := match r with
 | .ok a z => ∀ b H' F', Same F F' → Ok M G σ H' F' z → R a b F' H' z → Q b H'
 | .ex x z => ∀ cls d H' F', Same F F' → Ok M G σ H' F' z → XOk G F' H' x cls d → W cls d σ H'
 | .bad => False
noncomputable def RelE {M : MI} (G : Gx) (σ : St) : S → V → Hp → Hp → Z M.T → Prop := fun s v F H z => EV G σ F H z v s
noncomputable def RelO {M : MI} (G : Gx) (σ : St) : S → V → Hp → Hp → Z M.T → Prop := fun s v F _ _ => EO G σ F v s
noncomputable def RelB {M : MI} (_ : Gx) (_ : St) : Bool → Bool → Hp → Hp → Z M.T → Prop := fun b c _ _ _ => c = b
noncomputable def RelA {M : MI} (G : Gx) (σ : St) : List S → List V → Hp → Hp → Z M.T → Prop := fun ss vs F _ _ => Paired (fun v s => EO G σ F v s) vs ss
noncomputable def RelI {M : MI} (_ : Gx) (_ : St) : Option Int → Option Int → Hp → Hp → Z M.T → Prop := fun b c _ _ _ => c = b
noncomputable def Cmp {α β : Type} (M : MI) (K : PySem.W.Frag) (xr : Str → Option Value) (W : WX) (t : St → Hp → (β → Hp → Prop) → Prop) (Rel : Gx → St → α → β → Hp → Hp → Z M.T → Prop) (f : Sm M α) : Prop :=
 ∀ (G : Gx) (σ : St) (H F : Hp) (z : Z M.T) (Q : β → Hp → Prop), G.K = K → G.xr = xr → Ok M G σ H F z → HitG M G W σ F (Rel G σ) (f z) Q → t σ H Q
section
variable {M : MI} {G : Gx} {W : WX} {σ : St} {H H' F F' : Hp} {z : Z M.T}
theorem HitG.mono {α β : Type} {R : α → β → Hp → Hp → Z M.T → Prop} {r : Rs α (Z M.T)} {Q : β → Hp → Prop} (h : HitG M G W σ F R r Q) (s : Same F F') : HitG M G W σ F' R r Q := by
 cases r with
 | ok a z => exact fun b H' F1 s1 ok rr => h b H' F1 (s.trans s1) ok rr
 | ex x z => exact fun cls d H' F1 s1 ok xo => h cls d H' F1 (s.trans s1) ok xo
 | bad => exact h
theorem hit_bind {α β α' β' : Type} {R1 : α → β → Hp → Hp → Z M.T → Prop} {R2 : α' → β' → Hp → Hp → Z M.T → Prop} {r : Rs α (Z M.T)} {k : α → Z M.T → Rs α' (Z M.T)} {Q : β' → Hp → Prop} {Q1 : β → Hp → Prop}
  (h : HitG M G W σ F R2 (r.bind k) Q) (hk : ∀ a z1 b H1 F1, r = .ok a z1 → Same F F1 → Ok M G σ H1 F1 z1 → R1 a b F1 H1 z1 → HitG M G W σ F1 R2 (k a z1) Q → Q1 b H1) : HitG M G W σ F R1 r Q1 := by
 cases r with
 | ok a z => exact fun b H' F1 s1 ok rr => hk a z b H' F1 rfl s1 ok rr (HitG.mono h s1)
 | ex x z => exact h
 | bad => exact h
noncomputable def opd (f : Sm M S) (z : Z M.T) : Rs S (Z M.T) := (f z).bind fun s z1 => .ok (match s with | .l xs => .d (.lst xs) | s => s) z1
noncomputable def escS (s : S) (z : Z M.T) : Rs S (Z M.T) := match s with
 | .d x => .ok (.d x) z
 | .l xs => .ok (.d (.lst xs)) z
 | .m j => .ok (.m j) z
 | .v i => match z.rho[i]? with
  | some (some (.l xs)) => .ok (.d (.lst xs)) { z with rho := z.rho.set i (some (.d (.lst xs))) }
  | some (some (.d x)) => .ok (.d x) z
  | _ => .bad
noncomputable def escf (f : Sm M S) (z : Z M.T) : Rs S (Z M.T) := (f z).bind escS
theorem EV.frz (ok : Ok M G σ H F z) {v : V} {xs : List D} (e : EV G σ F H z v (.l xs)) : ∃ F', Same F F' ∧ Ok M G σ H F' z ∧ Da G.K F' v (.lst xs) := by
 obtain ⟨a, vs, rfl, h1, h2, h3, h4, h5, h6⟩ := e
 exact ⟨upd F a (.lst vs), same_upd h3, ok.frz h1 h3 h4 h5 h6, .lst upd_same (h2.mono (same_upd h3))⟩
theorem cmp_opd {K : PySem.W.Frag} {xr : Str → Option Value} {t : TE} {f : Sm M S} (hf : Cmp M K xr W t RelE f) : Cmp M K xr W t RelO (opd f) := by
 intro G σ H F z Q hK hx ok h
 refine hf G σ H F z Q hK hx ok (hit_bind h fun s z1 v H1 F1 _ sm ok1 ev h1 => ?_)
 cases s with
 | d x => exact h1 v H1 F1 (Same.refl _) ok1 ev
 | l xs =>
  obtain ⟨F2, s2, ok2, da⟩ := EV.frz ok1 ev
  exact h1 v H1 F2 s2 ok2 da
 | v i => exact h1 v H1 F1 (Same.refl _) ok1 ev
 | m j => exact h1 v H1 F1 (Same.refl _) ok1 ev
theorem Ok.frzSlot (ok : Ok M G σ H F z) {i : Nat} {xs : List D} {v : V} (h : z.rho[i]? = some (some (.l xs))) (hv : σ[i]? = some (some v)) :
  ∃ F', Same F F' ∧ Ok M G σ H F' { z with rho := z.rho.set i (some (.d (.lst xs))) } ∧ Da G.K F' v (.lst xs) := by
 obtain ⟨w, e, a, vs, rfl, h1, h2, h3, h4, h5⟩ := ok.slot i _ h
 rw [hv] at e
 cases e
 have hl : i < z.rho.length := (List.getElem?_eq_some_iff.mp h).1
 have ok1 : Ok M G (σ.set i (some .non)) H F { z with rho := z.rho.set i (some (.d .non)) } := ok.set (v := .non) (s := .d .non) Da.non (fun _ e => by cases e)
 have no : ¬ Owned (σ.set i (some .non)) { z with rho := z.rho.set i (some (.d .non)) } a := fun ⟨j, ys, e1, e2⟩ => by
  by_cases hj : j = i
  ·subst hj
   have e1' : (z.rho.set j (some (.d .non)))[j]? = some (some (.l ys)) := e1
   rw [List.getElem?_set_self hl] at e1'
   cases e1'
  ·have e1' : (z.rho.set i (some (.d .non)))[j]? = some (some (.l ys)) := e1
   rw [List.getElem?_set_ne (Ne.symm hj)] at e1' e2
   exact hj (ok.dist j i ys xs _ e1' h e2 hv)
 have ok2 := ok1.frz h1 h3 h4 h5 no
 have da : Da G.K (upd F a (.lst vs)) (.ref a) (.lst xs) := .lst upd_same (h2.mono (same_upd h3))
 have ok3 := ok2.set (i := i) (v := .ref a) (s := .d (.lst xs)) da (fun _ e => by cases e)
 have e1 : (σ.set i (some V.non)).set i (some (.ref a)) = σ := by
  rw [List.set_set]
  exact List.ext_getElem? fun n => by
   by_cases hn : n = i
   ·subst hn
    rw [List.getElem?_set_self (by rw [← ok.len]; exact hl), hv]
   ·rw [List.getElem?_set_ne (Ne.symm hn)]
 rw [e1] at ok3
 have e2 : ({ rho := (z.rho.set i (some (.d .non))).set i (some (.d (.lst xs))), m := z.m } : Z M.T) = { z with rho := z.rho.set i (some (.d (.lst xs))) } := by rw [List.set_set]
 exact ⟨_, same_upd h3, by rw [← e2]; exact ok3, da⟩
theorem cmp_esc {K : PySem.W.Frag} {xr : Str → Option Value} {t : TE} {f : Sm M S} (hf : Cmp M K xr W t RelE f) : Cmp M K xr W t RelO (escf f) := by
 intro G σ H F z Q hK hx ok h
 refine hf G σ H F z Q hK hx ok (hit_bind h fun s z1 v H1 F1 _ sm ok1 ev h1 => ?_)
 cases s with
 | d x => exact h1 v H1 F1 (Same.refl _) ok1 ev
 | l xs =>
  obtain ⟨F2, s2, ok2, da⟩ := EV.frz ok1 ev
  exact h1 v H1 F2 s2 ok2 da
 | m j => exact h1 v H1 F1 (Same.refl _) ok1 ev
 | v i =>
  have ev' : σ[i]? = some (some v) := ev
  simp only [escS] at h1
  split at h1
  ·rename_i xs hs
   obtain ⟨F2, s2, ok2, da⟩ := ok1.frzSlot hs ev'
   exact h1 v H1 F2 s2 ok2 da
  ·rename_i x hs
   obtain ⟨w, e, q⟩ := ok1.slot i _ hs
   rw [ev'] at e
   cases e
   exact h1 v H1 F1 (Same.refl _) ok1 q
  ·exact h1.elim
noncomputable def rd {T : Type} (z : Z T) : S → Option D
 | .d x => some x
 | .l xs => some (.lst xs)
 | .v i => match z.rho[i]? with
  | some (some (.d x)) => some x
  | some (some (.l xs)) => some (.lst xs)
  | _ => none
 | .m _ => none
noncomputable def Rv (K : PySem.W.Frag) (F H : Hp) (v : V) (x : D) : Prop := Da K F v x ∨ ∃ a vs xs, v = .ref a ∧ x = .lst xs ∧ H a = some (.lst vs) ∧ DaAll K F vs xs
theorem EO.rv (ok : Ok M G σ H F z) {v : V} {s : S} {x : D} (e : EO G σ F v s) (h : rd z s = some x) : Rv G.K F H v x := by
 cases s with
 | d y => cases h; exact .inl e
 | l _ => exact e.elim
 | m _ => cases h
 | v i =>
  have e' : σ[i]? = some (some v) := e
  simp only [rd] at h
  split at h
  ·rename_i y hs
   cases h
   obtain ⟨w, e1, q⟩ := ok.slot i _ hs
   rw [e'] at e1
   cases e1
   exact .inl q
  ·rename_i xs hs
   cases h
   obtain ⟨w, e1, a, vs, rfl, h1, h2, _⟩ := ok.slot i _ hs
   rw [e'] at e1
   cases e1
   exact .inr ⟨a, vs, xs, rfl, rfl, h1, h2⟩
  ·cases h
inductive R where
  | d (x : D)
  /-- a tuple, an old one or a new one -/
  | t (xs : List D)
  | l (xs : List D)
noncomputable def R.toS : R → S
 | .d x => .d x
 | .t xs => .d (.tup xs)
 | .l xs => .l xs
noncomputable def Hit0 (K : PySem.W.Frag) (F H : Hp) (r : Option R) (Q : VK) : Prop := match r with
 | some (.d y) => ∀ v, Da K F v y → Q v H
 | some (.t ys) => (∀ v, Da K F v (.tup ys) → Q v H) ∧ ∀ p vs, H p = none → DaAll K F vs ys → Q (.ref p) (upd H p (.tup vs))
 | some (.l ys) => ∀ p vs, H p = none → DaAll K F vs ys → Q (.ref p) (upd H p (.lst vs))
 | none => False
noncomputable def fin (o : Option R) (z : Z M.T) : Rs S (Z M.T) := match o with
 | some r => .ok r.toS z
 | none => .bad
theorem fin_hit (ok : Ok M G σ H F z) {o : Option R} {Q : VK} (h : HitG M G W σ F (RelE G σ) (fin o z) Q) : Hit0 G.K F H o Q := by
 cases o with
 | none => exact h
 | some r =>
  cases r with
  | d y => exact fun v hv => h v H F (Same.refl _) ok hv
  | t ys => exact ⟨fun v hv => h v H F (Same.refl _) ok hv, fun p vs hp hv => h (.ref p) (upd H p (.tup vs)) (upd F p (.tup vs)) (same_upd (ok.freshF hp)) (ok.newF hp _ tupNT) (.tup (SqT.of upd_same) (hv.mono (same_upd (ok.freshF hp))))⟩
  | l ys => exact fun p vs hp hv => h (.ref p) (upd H p (.lst vs)) F (Same.refl _) (ok.new hp _) ⟨p, vs, rfl, upd_same, hv, ok.freshF hp, ok.freshP hp, ok.freshM hp, ok.freshO hp⟩
noncomputable def Op2 (K : PySem.W.Frag) (r : R2) (g : D → D → Option R) : Prop := ∀ (F H : Hp) (x y : V) (a b : D) (Q : VK), SameX F H → Rv K F H x a → Rv K F H y b → Hit0 K F H (g a b) Q → r x y H Q
noncomputable def Op1 (K : PySem.W.Frag) (r : V → Hp → VK → Prop) (g : D → Option R) : Prop := ∀ (F H : Hp) (x : V) (a : D) (Q : VK), SameX F H → Rv K F H x a → Hit0 K F H (g a) Q → r x H Q
noncomputable def OpN (K : PySem.W.Frag) (r : List V → Hp → VK → Prop) (g : List D → Option R) : Prop := ∀ (F H : Hp) (xs : List V) (as : List D) (Q : VK), SameX F H → Paired (Rv K F H) xs as → Hit0 K F H (g as) Q → r xs H Q
noncomputable def DE {ι : Type} (M : MI) (xr : Str → Option Value) (K : PySem.W.Frag) (X : ι → Cx) (W : WX) (e : Expr) (f : Sm M S) : Prop := ∃ t, (∀ i, PE (X i) e t) ∧ Cmp M K xr W t RelE f
noncomputable def DT {ι : Type} (M : MI) (xr : Str → Option Value) (K : PySem.W.Frag) (X : ι → Cx) (W : WX) (e : Expr) (f : Sm M Bool) : Prop := ∃ t, (∀ i, PT (X i) e t) ∧ Cmp M K xr W t RelB f
noncomputable def DA {ι : Type} (M : MI) (xr : Str → Option Value) (K : PySem.W.Frag) (X : ι → Cx) (W : WX) (es : List Expr) (f : Sm M (List S)) : Prop := ∃ t, (∀ i, PA (X i) es t) ∧ Cmp M K xr W t RelA f
noncomputable def DO {ι : Type} (M : MI) (xr : Str → Option Value) (K : PySem.W.Frag) (X : ι → Cx) (W : WX) (e : Option Expr) (f : Sm M (Option Int)) : Prop := ∃ t, (∀ i, PO (X i) e t) ∧ Cmp M K xr W t RelI f
noncomputable def eVar (i : Nat) (z : Z M.T) : Rs S (Z M.T) := match z.rho[i]? with
 | some (some (.l _)) => .ok (.v i) z
 | some (some s) => .ok s z
 | _ => .bad
noncomputable def eC (x : D) (z : Z M.T) : Rs S (Z M.T) := .ok (.d x) z
noncomputable def kB (g : D → D → Option R) (f' : Sm M S) (s : S) (z1 : Z M.T) : Rs S (Z M.T) := (opd f' z1).bind fun s' z2 => fin ((rd z2 s).bind fun x => (rd z2 s').bind fun y => g x y) z2
noncomputable def eBin (g : D → D → Option R) (f f' : Sm M S) (z : Z M.T) : Rs S (Z M.T) := (opd f z).bind (kB g f')
noncomputable def eUn (g : D → Option R) (f : Sm M S) (z : Z M.T) : Rs S (Z M.T) := (opd f z).bind fun s z1 => fin ((rd z1 s).bind g) z1
noncomputable def tOf (f : Sm M S) (z : Z M.T) : Rs Bool (Z M.T) := (f z).bind fun s z1 => match s with
 | .d (.bl b) => .ok b z1
 | _ => .bad
noncomputable def tTru (g : D → Option Bool) (f : Sm M S) (z : Z M.T) : Rs Bool (Z M.T) := (opd f z).bind fun s z1 => Rs.opt ((rd z1 s).bind g) z1
noncomputable def tAndM (f g : Sm M Bool) (z : Z M.T) : Rs Bool (Z M.T) := (f z).bind fun b z1 => if b = true then g z1 else .ok false z1
noncomputable def tOrM (f g : Sm M Bool) (z : Z M.T) : Rs Bool (Z M.T) := (f z).bind fun b z1 => if b = true then .ok true z1 else g z1
noncomputable def tNotM (f : Sm M Bool) (z : Z M.T) : Rs Bool (Z M.T) := (f z).bind fun b z1 => .ok (!b) z1
noncomputable def eAndM (f g : Sm M S) (z : Z M.T) : Rs S (Z M.T) := (tOf f z).bind fun b z1 => if b = true then g z1 else .ok (.d (.bl false)) z1
noncomputable def eOrM (f g : Sm M S) (z : Z M.T) : Rs S (Z M.T) := (tOf f z).bind fun b z1 => if b = true then .ok (.d (.bl true)) z1 else g z1
noncomputable def eNotM (f : Sm M S) (z : Z M.T) : Rs S (Z M.T) := (tOf f z).bind fun b z1 => .ok (.d (.bl (!b))) z1
noncomputable def kE (f g : Sm M S) (b : Bool) (z1 : Z M.T) : Rs S (Z M.T) := if b = true then f z1 else g z1
noncomputable def eIf (c : Sm M Bool) (f g : Sm M S) (z : Z M.T) : Rs S (Z M.T) := (c z).bind (kE f g)
noncomputable def aNil (z : Z M.T) : Rs (List S) (Z M.T) := .ok [] z
noncomputable def kA (g : Sm M (List S)) (s : S) (z1 : Z M.T) : Rs (List S) (Z M.T) := (g z1).bind fun ss z2 => .ok (s :: ss) z2
noncomputable def aCons (f : Sm M S) (g : Sm M (List S)) (z : Z M.T) : Rs (List S) (Z M.T) := (f z).bind (kA g)
noncomputable def dsOf : List S → Option (List D)
 | [] => some []
 | .d x :: r => (dsOf r).bind fun xs => some (x :: xs)
 | _ :: _ => none
noncomputable def lim : Nat := 1000000
theorem lim_line : lim < sizeLine := by rw [sizeLine_eq]; decide
noncomputable def eTup (g : Sm M (List S)) (z : Z M.T) : Rs S (Z M.T) := (g z).bind fun ss z1 => match dsOf ss with
 | some ds => if ds.length ≤ lim then .ok (.d (.tup ds)) z1 else .bad
 | none => .bad
noncomputable def eLst (g : Sm M (List S)) (z : Z M.T) : Rs S (Z M.T) := (g z).bind fun ss z1 => match dsOf ss with
 | some ds => if ds.length ≤ lim then .ok (.l ds) z1 else .bad
 | none => .bad
noncomputable def rds {T : Type} (z : Z T) : List S → Option (List D)
 | [] => some []
 | s :: r => (rd z s).bind fun x => (rds z r).bind fun xs => some (x :: xs)
noncomputable def eFn (g : List D → Option R) (f : Sm M (List S)) (z : Z M.T) : Rs S (Z M.T) := (f z).bind fun ss z1 => fin ((rds z1 ss).bind g) z1
end
end G
namespace G
open PySem L2
section
variable {ι : Type} {M : MI} {xr : Str → Option Value} {X : ι → Cx} {W : WX} {K : PySem.W.Frag}
theorem cmp_var {i : Nat} : Cmp M K xr W (tVar i) RelE (eVar i) := by
 intro G σ H F z Q _ _ ok h
 unfold eVar at h
 split at h
 ·rename_i xs hs
  obtain ⟨v, e, _⟩ := ok.slot i _ hs
  exact ⟨v, e, h v H F (Same.refl _) ok e⟩
 ·rename_i s hn hs
  obtain ⟨v, e, q⟩ := ok.slot i _ hs
  refine ⟨v, e, h v H F (Same.refl _) ok ?_⟩
  cases s with
  | d x => exact q
  | l xs => exact (hn xs rfl).elim
  | v j => exact q.elim
  | m j => exact q
 ·exact h.elim
theorem de_var (i : Nat) {x : Str} {pos : Pos} (hN : ∀ j, (X j).N[i]? = some x := by intro _; rfl) (hv : ∀ j, Vis (X j).env.scope x := by first | exact fun _ => Or.inl rfl | exact fun _ => Or.inr (Or.inl rfl) | exact fun _ => Or.inr (Or.inr rfl)) (hd : (x == ("__debug__" : Str)) = false := by decide)
  (hcd : (x == ("__classdict__" : Str)) = false := by decide) : DE M xr K X W (.Name x pos) (eVar i) := ⟨_, fun j => pe_var (hN j) (hv j) hd hcd, cmp_var⟩
theorem cmp_c {v : V} {d : D} (hd : ∀ F, Da K F v d) : Cmp M K xr W (tC v) RelE (eC d) := fun G σ H F z Q hK _ ok h => h v H F (Same.refl _) ok (by subst hK; exact hd F)
theorem de_int {i j pos} : DE M xr K X W (.Constant (.int i) j pos) (eC (.int i)) := ⟨_, fun _ => pe_int, cmp_c fun _ => .int i⟩
theorem de_str {i j pos} : DE M xr K X W (.Constant (.str i) j pos) (eC (.str i)) := ⟨_, fun _ => pe_str, cmp_c fun _ => .str _⟩
theorem de_bl {i j pos} : DE M xr K X W (.Constant (.bool i) j pos) (eC (.bl i)) := ⟨_, fun _ => pe_bl, cmp_c fun _ => .bl i⟩
theorem de_non {j pos} : DE M xr K X W (.Constant .none j pos) (eC .non) := ⟨_, fun _ => pe_non, cmp_c fun _ => .non⟩
theorem cmp_bin {r : R2} {g : D → D → Option R} {ta tb : TE} {f f' : Sm M S} (hd : Op2 K r g) (ha : Cmp M K xr W ta RelE f) (hb : Cmp M K xr W tb RelE f') : Cmp M K xr W (tOp r ta tb) RelE (eBin g f f') := by
 intro G σ H F z Q hK hx ok h
 refine cmp_opd ha G σ H F z _ hK hx ok (hit_bind h fun s z1 v H1 F1 _ sm1 ok1 e1 h1 => ?_)
 refine cmp_opd hb G σ H1 F1 z1 _ hK hx ok1 (hit_bind h1 fun s' z2 v' H2 F2 _ sm2 ok2 e2 h2 => ?_)
 have q := fin_hit ok2 h2
 subst hK
 cases ea : rd z2 s with
 | none => rw [ea] at q; exact q.elim
 | some x =>
  cases eb : rd z2 s' with
  | none => rw [ea, eb] at q; exact q.elim
  | some y =>
   rw [ea, eb] at q
   exact hd F2 H2 v v' x y Q ok2.sub (EO.rv ok2 (EO.mono sm2 e1) ea) (EO.rv ok2 e2 eb) q
theorem de_bin {op : Operator} {r : R2} {g : D → D → Option R} {a b : Expr} {f f' : Sm M S} {pos : Pos} (ho : ∀ j, OpR (X j) (binaryOp op) r) (hd : Op2 K r g) (ha : DE M xr K X W a f) (hb : DE M xr K X W b f') : DE M xr K X W (.BinOp a op b pos) (eBin g f f') := by
 obtain ⟨ta, pa, ca⟩ := ha
 obtain ⟨tb, pb, cb⟩ := hb
 exact ⟨_, fun j => pe_op (ho j) (pa j) (pb j), cmp_bin hd ca cb⟩
theorem de_cmp {op : CmpOp} {r : R2} {g : D → D → Option R} {a b : Expr} {f f' : Sm M S} {pos : Pos} (ho : ∀ j, OpR (X j) (compareOp op) r) (hd : Op2 K r g) (ha : DE M xr K X W a f) (hb : DE M xr K X W b f') (hm : behindInMarks op b = false) : DE M xr K X W (.Compare a [op] [b] pos) (eBin g f f') := by
 obtain ⟨ta, pa, ca⟩ := ha
 obtain ⟨tb, pb, cb⟩ := hb
 exact ⟨_, fun j => pe_cmpR (ho j) (pa j) (pb j) hm, cmp_bin hd ca cb⟩
theorem cmp_tOf {t : TE} {f : Sm M S} (h : Cmp M K xr W t RelE f) : Cmp M K xr W (tTest t) RelB (tOf f) := by
 intro G σ H F z Q hK hx ok hh
 refine h G σ H F z _ hK hx ok (hit_bind hh fun s z1 v H1 F1 _ sm1 ok1 e1 h1 => ?_)
 cases s with
 | d x =>
  cases x with
  | bl b =>
   cases (show Da G.K F1 v (.bl b) from e1)
   exact ⟨b, rfl, h1 b H1 F1 (Same.refl _) ok1 rfl⟩
  | _ => exact h1.elim
 | _ => exact h1.elim
theorem dt_cmp {op : CmpOp} {r : R2} {g : D → D → Option R} {a b : Expr} {f f' : Sm M S} {pos : Pos} (ho : ∀ j, OpR (X j) (compareOp op) r) (hd : Op2 K r g) (ha : DE M xr K X W a f) (hb : DE M xr K X W b f') (hm : behindInMarks op b = false) : DT M xr K X W (.Compare a [op] [b] pos) (tOf (eBin g f f')) := by
 obtain ⟨ta, pa, ca⟩ := ha
 obtain ⟨tb, pb, cb⟩ := hb
 exact ⟨_, fun j => pt_cmpR (ho j) (pa j) (pb j) hm, cmp_tOf (cmp_bin hd ca cb)⟩
theorem cmp_and {t u : TT} {f g : Sm M Bool} (h : Cmp M K xr W t RelB f) (h' : Cmp M K xr W u RelB g) : Cmp M K xr W (tAnd t u) RelB (tAndM f g) := by
 intro G σ H F z Q hK hx ok hh
 refine h G σ H F z _ hK hx ok (hit_bind hh fun b z1 c H1 F1 _ sm1 ok1 e1 h1 => ?_)
 cases (show c = b from e1)
 cases b with
 | true => exact h' G σ H1 F1 z1 Q hK hx ok1 h1
 | false => exact h1 false H1 F1 (Same.refl _) ok1 rfl
theorem cmp_or {t u : TT} {f g : Sm M Bool} (h : Cmp M K xr W t RelB f) (h' : Cmp M K xr W u RelB g) : Cmp M K xr W (tOr t u) RelB (tOrM f g) := by
 intro G σ H F z Q hK hx ok hh
 refine h G σ H F z _ hK hx ok (hit_bind hh fun b z1 c H1 F1 _ sm1 ok1 e1 h1 => ?_)
 cases (show c = b from e1)
 cases b with
 | false => exact h' G σ H1 F1 z1 Q hK hx ok1 h1
 | true => exact h1 true H1 F1 (Same.refl _) ok1 rfl
noncomputable def DW {ι : Type} (M : MI) (xr : Str → Option Value) (K : PySem.W.Frag) (X : ι → Cx) (W : WX) (e : Expr) (f : Sm M Bool) : Prop := ∃ t, (∀ j, PW (X j) e t) ∧ Cmp M K xr W t RelB f
theorem dw_and1 {a : Expr} {f : Sm M Bool} {pos : Pos} (h : DT M xr K X W a f) : DW M xr K X W (.BoolOp .And [a] pos) f := by
 obtain ⟨t, p, c⟩ := h
 exact ⟨_, fun j => pw_and1 (p j), c⟩
theorem dw_or1 {a : Expr} {f : Sm M Bool} {pos : Pos} (h : DT M xr K X W a f) : DW M xr K X W (.BoolOp .Or [a] pos) f := by
 obtain ⟨t, p, c⟩ := h
 exact ⟨_, fun j => pw_or1 (p j), c⟩
theorem dw_and {a b : Expr} {r : List Expr} {f g : Sm M Bool} {pos : Pos} (h : DT M xr K X W a f) (h' : DW M xr K X W (.BoolOp .And (b :: r) pos) g) : DW M xr K X W (.BoolOp .And (a :: b :: r) pos) (tAndM f g) := by
 obtain ⟨t, p, c⟩ := h
 obtain ⟨t', p', c'⟩ := h'
 exact ⟨_, fun j => pw_and (p j) (p' j), cmp_and c c'⟩
theorem dw_or {a b : Expr} {r : List Expr} {f g : Sm M Bool} {pos : Pos} (h : DT M xr K X W a f) (h' : DW M xr K X W (.BoolOp .Or (b :: r) pos) g) : DW M xr K X W (.BoolOp .Or (a :: b :: r) pos) (tOrM f g) := by
 obtain ⟨t, p, c⟩ := h
 obtain ⟨t', p', c'⟩ := h'
 exact ⟨_, fun j => pw_or (p j) (p' j), cmp_or c c'⟩
theorem dt_w {e : Expr} {f : Sm M Bool} (h : DW M xr K X W e f) : DT M xr K X W e f := by
 obtain ⟨t, p, c⟩ := h
 exact ⟨_, fun j => (p j).pt, c⟩
theorem de_if {c a b : Expr} {fc : Sm M Bool} {f g : Sm M S} {pos : Pos} (hc : DT M xr K X W c fc) (h : DE M xr K X W a f) (h' : DE M xr K X W b g) : DE M xr K X W (.IfExp c a b pos) (eIf fc f g) := by
 obtain ⟨t, p, c0⟩ := hc
 obtain ⟨t1, p1, c1⟩ := h
 obtain ⟨t2, p2, c2⟩ := h'
 refine ⟨_, fun j => pe_ifExp (p j) (p1 j) (p2 j), fun G σ H F z Q hK hx ok hh => ?_⟩
 refine c0 G σ H F z _ hK hx ok (hit_bind hh fun b z1 c H1 F1 _ sm1 ok1 e1 h1 => ?_)
 cases (show c = b from e1)
 cases b with
 | true => exact c1 G σ H1 F1 z1 Q hK hx ok1 h1
 | false => exact c2 G σ H1 F1 z1 Q hK hx ok1 h1
theorem da_nil : DA M xr K X W [] aNil := ⟨_, fun _ => pa_nil, fun G σ H F z Q _ _ ok h => h [] H F (Same.refl _) ok .nil⟩
theorem cmp_cons {te : TE} {t : TA} {f : Sm M S} {g : Sm M (List S)} (c : Cmp M K xr W te RelO f) (c' : Cmp M K xr W t RelA g) : Cmp M K xr W (tCons te t) RelA (aCons f g) := by
 intro G σ H F z Q hK hx ok hh
 refine c G σ H F z _ hK hx ok (hit_bind hh fun s z1 v H1 F1 _ sm1 ok1 e1 h1 => ?_)
 refine c' G σ H1 F1 z1 _ hK hx ok1 (hit_bind h1 fun ss z2 vs H2 F2 _ sm2 ok2 e2 h2 => ?_)
 exact h2 (v :: vs) H2 F2 (Same.refl _) ok2 (.cons (EO.mono sm2 e1) e2)
theorem da_rd {e : Expr} {es : List Expr} {f : Sm M S} {g : Sm M (List S)} (h : DE M xr K X W e f) (h' : DA M xr K X W es g) (hs : ∀ j, starEach (e :: es) (X j).env = (false, eval e (X j).env) :: starEach es (X j).env := by intro _; rfl) : DA M xr K X W (e :: es) (aCons (opd f) g) := by
 obtain ⟨t, p, c⟩ := h
 obtain ⟨t', p', c'⟩ := h'
 exact ⟨_, fun j => pa_cons (p j) (p' j) (hs j), cmp_cons (cmp_opd c) c'⟩
theorem da_es {e : Expr} {es : List Expr} {f : Sm M S} {g : Sm M (List S)} (h : DE M xr K X W e f) (h' : DA M xr K X W es g) (hs : ∀ j, starEach (e :: es) (X j).env = (false, eval e (X j).env) :: starEach es (X j).env := by intro _; rfl) : DA M xr K X W (e :: es) (aCons (escf f) g) := by
 obtain ⟨t, p, c⟩ := h
 obtain ⟨t', p', c'⟩ := h'
 exact ⟨_, fun j => pa_cons (p j) (p' j) (hs j), cmp_cons (cmp_esc c) c'⟩
theorem paired_ds {G : Gx} {σ : St} {F : Hp} : ∀ {vs : List V} {ss : List S} {ds : List D}, Paired (fun v s => EO G σ F v s) vs ss → dsOf ss = some ds → DaAll G.K F vs ds
 | _, _, _, .nil, h => by cases h; exact .nil
 | _, s :: ss, ds, .cons a b, h => by
  cases s with
  | d x =>
   unfold dsOf at h
   cases e : dsOf ss with
   | none => rw [e] at h; cases h
   | some xs =>
    rw [e] at h
    cases h
    exact .cons a (paired_ds b e)
  | _ => cases h
theorem de_tup {es : List Expr} {g : Sm M (List S)} {x1 pos} (h : DA M xr K X W es g) : DE M xr K X W (.Tuple es x1 pos) (eTup g) := by
 obtain ⟨t, p, c⟩ := h
 refine ⟨_, fun j => pe_tup (p j), fun G σ H F z Q hK hx ok hh => ?_⟩
 refine c G σ H F z _ hK hx ok (hit_bind hh fun ss z1 vs H1 F1 _ sm1 ok1 e1 h1 => ?_)
 cases e : dsOf ss with
 | none => rw [e] at h1; exact h1.elim
 | some ds =>
  rw [e] at h1
  have da := paired_ds e1 e
  by_cases hl : ds.length ≤ lim
  ·simp only [if_pos hl] at h1
   refine ⟨by rw [da.length]; exact Nat.le_trans hl (Nat.le_of_lt lim_line), fun p hp => ?_⟩
   exact h1 (.ref p) (upd H1 p (.tup vs)) (upd F1 p (.tup vs)) (same_upd (ok1.freshF hp)) (ok1.newF hp _ tupNT) (.tup (SqT.of upd_same) (da.mono (same_upd (ok1.freshF hp))))
  ·simp only [if_neg hl] at h1
   exact h1.elim
theorem de_lst {es : List Expr} {g : Sm M (List S)} {pos} (h : DA M xr K X W es g) : DE M xr K X W (.List es pos) (eLst g) := by
 obtain ⟨t, p, c⟩ := h
 refine ⟨_, fun j => pe_lst (p j), fun G σ H F z Q hK hx ok hh => ?_⟩
 refine c G σ H F z _ hK hx ok (hit_bind hh fun ss z1 vs H1 F1 _ sm1 ok1 e1 h1 => ?_)
 cases e : dsOf ss with
 | none => rw [e] at h1; exact h1.elim
 | some ds =>
  rw [e] at h1
  have da := paired_ds e1 e
  by_cases hl : ds.length ≤ lim
  ·simp only [if_pos hl] at h1
   refine ⟨by rw [da.length]; exact Nat.le_trans hl (Nat.le_of_lt lim_line), fun p hp => ?_⟩
   exact h1 (.ref p) (upd H1 p (.lst vs)) F1 (Same.refl _) (ok1.new hp _) ⟨p, vs, rfl, upd_same, da, ok1.freshF hp, ok1.freshP hp, ok1.freshM hp, ok1.freshO hp⟩
  ·simp only [if_neg hl] at h1
   exact h1.elim
theorem paired_rv {G : Gx} {σ : St} {H F : Hp} {z : Z M.T} (ok : Ok M G σ H F z) : ∀ {vs : List V} {ss : List S} {ds : List D}, Paired (fun v s => EO G σ F v s) vs ss → rds z ss = some ds → Paired (Rv G.K F H) vs ds
 | _, _, _, .nil, h => by cases h; exact .nil
 | _, s :: ss, ds, .cons a b, h => by
  unfold rds at h
  cases e : rd z s with
  | none => rw [e] at h; cases h
  | some x =>
   cases e2 : rds z ss with
   | none => rw [e, e2] at h; cases h
   | some xs =>
    rw [e, e2] at h
    cases h
    exact .cons (EO.rv ok a e) (paired_rv ok b e2)
theorem cmp_fn {r : List V → Hp → VK → Prop} {g : List D → Option R} {t : TA} {f : Sm M (List S)} (hd : OpN K r g) (c : Cmp M K xr W t RelA f) : Cmp M K xr W (tCB r t) RelE (eFn g f) := by
 intro G σ H F z Q hK hx ok hh
 refine c G σ H F z _ hK hx ok (hit_bind hh fun ss z1 vs H1 F1 _ sm1 ok1 e1 h1 => ?_)
 have q := fin_hit ok1 h1
 subst hK
 cases e : rds z1 ss with
 | none => rw [e] at q; exact q.elim
 | some ds =>
  rw [e] at q
  exact hd F1 H1 vs ds Q ok1.sub (paired_rv ok1 e1 e) q
theorem de_callB {x : Str} {id : String} {r : List V → Hp → VK → Prop} {g : List D → Option R} {e : Expr} {es : List Expr} {f : Sm M (List S)} {p pos : Pos} (hc : ∀ j, CallR (X j) (.builtin id) r) (hd : OpN K r g) (hg : ∀ j, Gl (X j) x) (hm : ∀ j, (X j).mg x = none) (hv : bootBuiltins x = some (.builtin id))
  (h : DA M xr K X W (e :: es) f) (hn : x ≠ "__name__" := by decide) (hdb : (x == ("__debug__" : Str)) = false := by decide)
  (he : ∀ j, starEach (e :: es) (X j).env = (false, eval e (X j).env) :: starEach es (X j).env := by intro _; rfl) (hpl : ∀ j, (backTo pos (starEach es (X j).env)).any (·.1) = false := by intro _; rfl) : DE M xr K X W (.Call (.Name x p) (e :: es) [] pos) (eFn g f) := by
 obtain ⟨t, pa, c⟩ := h
 exact ⟨_, fun j => pe_callB (hc j) (hg j) (hm j) hv (pa j) hn hdb (he j) (hpl j), cmp_fn hd c⟩
theorem de_callTy {x : Str} {T : String} {r : List V → Hp → VK → Prop} {g : List D → Option R} {e : Expr} {es : List Expr} {f : Sm M (List S)} {p pos : Pos} (hc : ∀ j, CallR (X j) (.type T) r) (hd : OpN K r g) (hg : ∀ j, Gl (X j) x) (hm : ∀ j, (X j).mg x = none) (hv : bootBuiltins x = some (.type T))
  (h : DA M xr K X W (e :: es) f) (hn : x ≠ "__name__" := by decide) (hdb : (x == ("__debug__" : Str)) = false := by decide)
  (he : ∀ j, starEach (e :: es) (X j).env = (false, eval e (X j).env) :: starEach es (X j).env := by intro _; rfl) (hpl : ∀ j, (backTo pos (starEach es (X j).env)).any (·.1) = false := by intro _; rfl) : DE M xr K X W (.Call (.Name x p) (e :: es) [] pos) (eFn g f) := by
 obtain ⟨t, pa, c⟩ := h
 exact ⟨_, fun j => pe_callTy (hc j) (hg j) (hm j) hv (pa j) hn hdb (he j) (hpl j), cmp_fn hd c⟩
theorem de_ix {r : R2} {g : D → D → Option R} {a b : Expr} {f f' : Sm M S} {pos : Pos} (ho : ∀ j, IxR (X j) r) (hd : Op2 K r g) (ha : DE M xr K X W a f) (hb : DE M xr K X W b f') (hs : PlainIx b := by exact fun _ _ => rfl) : DE M xr K X W (.Subscript a b pos) (eBin g f f') := by
 obtain ⟨ta, pa, ca⟩ := ha
 obtain ⟨tb, pb, cb⟩ := hb
 exact ⟨_, fun j => pe_ix (ho j) (pa j) (pb j) hs, cmp_bin hd ca cb⟩
theorem do_none : DO M xr K X W none (fun z => .ok none z) := ⟨_, fun _ => po_none, fun G σ H F z Q _ _ ok h => h none H F (Same.refl _) ok rfl⟩
noncomputable def oInt (f : Sm M S) (z : Z M.T) : Rs (Option Int) (Z M.T) := (opd f z).bind fun s z1 => match s with
 | .d (.int i) => .ok (some i) z1
 | _ => .bad
theorem do_some {e : Expr} {f : Sm M S} (h : DE M xr K X W e f) : DO M xr K X W (some e) (oInt f) := by
 obtain ⟨t, p, c⟩ := h
 refine ⟨_, fun j => po_some (p j), fun G σ H F z Q hK hx ok hh => ?_⟩
 refine cmp_opd c G σ H F z _ hK hx ok (hit_bind hh fun s z1 v H1 F1 _ sm1 ok1 e1 h1 => ?_)
 cases s with
 | d x =>
  cases x with
  | int i =>
   cases (show Da G.K F1 v (.int i) from e1)
   exact ⟨i, rfl, h1 (some i) H1 F1 (Same.refl _) ok1 rfl⟩
  | _ => exact h1.elim
 | _ => exact h1.elim
noncomputable def eSl (g : D → Option Int → Option Int → Option R) (f : Sm M S) (lo hi : Sm M (Option Int)) (z : Z M.T) : Rs S (Z M.T) := (opd f z).bind fun s z1 => (lo z1).bind fun a z2 => (hi z2).bind fun b z3 => fin ((rd z3 s).bind fun x => g x a b) z3
noncomputable def OpS (K : PySem.W.Frag) (r : V → Option Int → Option Int → Hp → VK → Prop) (g : D → Option Int → Option Int → Option R) : Prop := ∀ (F H : Hp) (x : V) (a : D) (lo hi : Option Int) (Q : VK), SameX F H → Rv K F H x a → Hit0 K F H (g a lo hi) Q → r x lo hi H Q
theorem de_slice {r : V → Option Int → Option Int → Hp → VK → Prop} {g : D → Option Int → Option Int → Option R} {e : Expr} {lo hi : Option Expr} {f : Sm M S} {fl fh : Sm M (Option Int)} {p2 pos : Pos} (hr : ∀ j, SlR (X j) r) (hd : OpS K r g) (h : DE M xr K X W e f) (hl : DO M xr K X W lo fl) (hh : DO M xr K X W hi fh) :
  DE M xr K X W (.Subscript e (.Slice lo hi none p2) pos) (eSl g f fl fh) := by
 obtain ⟨t, p, c⟩ := h
 obtain ⟨tl, pl, cl⟩ := hl
 obtain ⟨th, ph, ch⟩ := hh
 refine ⟨_, fun j => pe_slice (hr j) (p j) (pl j) (ph j), fun G σ H F z Q hK hx ok hh => ?_⟩
 refine cmp_opd c G σ H F z _ hK hx ok (hit_bind hh fun s z1 v H1 F1 _ sm1 ok1 e1 h1 => ?_)
 refine cl G σ H1 F1 z1 _ hK hx ok1 (hit_bind h1 fun a z2 a' H2 F2 _ sm2 ok2 e2 h2 => ?_)
 refine ch G σ H2 F2 z2 _ hK hx ok2 (hit_bind h2 fun b z3 b' H3 F3 _ sm3 ok3 e3 h3 => ?_)
 cases (show a' = a from e2)
 cases (show b' = b from e3)
 have q := fin_hit ok3 h3
 cases e : rd z3 s with
 | none => rw [e] at q; exact q.elim
 | some x =>
  rw [e] at q
  have hd' := hd F3 H3 v x a b Q
  rw [← hK] at hd'
  exact hd' ok3.sub (EO.rv ok3 (EO.mono (sm2.trans sm3) e1) e) q
theorem cmp_un {r : V → Hp → VK → Prop} {g : D → Option R} {t : TE} {f : Sm M S} (hd : Op1 K r g) (c : Cmp M K xr W t RelE f) : Cmp M K xr W (tUn r t) RelE (eUn g f) := by
 intro G σ H F z Q hK hx ok hh
 refine cmp_opd c G σ H F z _ hK hx ok (hit_bind hh fun s z1 v H1 F1 _ sm1 ok1 e1 h1 => ?_)
 have q := fin_hit ok1 h1
 cases e : rd z1 s with
 | none => rw [e] at q; exact q.elim
 | some x =>
  rw [e] at q
  have hd' := hd F1 H1 v x Q
  rw [← hK] at hd'
  exact hd' ok1.sub (EO.rv ok1 e1 e) q
theorem de_un {op : UnaryOp} {r : V → Hp → VK → Prop} {g : D → Option R} {a : Expr} {f : Sm M S} {pos : Pos} (ho : ∀ j, UnR (X j) (unaryOp op) r) (hd : Op1 K r g) (h : DE M xr K X W a f) : DE M xr K X W (.UnaryOp op a pos) (eUn g f) := by
 obtain ⟨t, p, c⟩ := h
 exact ⟨_, fun j => pe_un (ho j) (p j), cmp_un hd c⟩
end
end G
namespace G
open PySem L2
end G
namespace G
open PySem L2
inductive Out where
  | nx
  | rt (s : S)
  | bk
  | ct
structure RetOk (M : MI) (G : Gx) (F H : Hp) (t : M.T) (v : V) (s : S) : Prop where
  sub : SameX F H
  mach : M.ok G.K F H G.ms t
  msF : ∀ a ∈ G.ms, F a = none
  msH : ∀ a ∈ G.ms, H a ≠ none
  fr : ∀ b o, G.P b = some o → H b = some o ∧ F b = G.Fp b
  tg : ∀ a ps, F a = some (.tbl ps) → H a ≠ none ∧ G.P a = none
  val : SV G F H v s
noncomputable def HitS (M : MI) (G : Gx) (W : WX) (F : Hp) (r : Rs Out (Z M.T)) (D : Ends) : Prop := match r with
 | .ok .nx z => ∀ σ H F', Same F F' → Ok M G σ H F' z → D.nx σ H
 | .ok .bk z => ∀ σ H F', Same F F' → Ok M G σ H F' z → D.bk σ H
 | .ok .ct z => ∀ σ H F', Same F F' → Ok M G σ H F' z → D.ct σ H
 | .ok (.rt s) z => ∀ v H F', Same F F' → RetOk M G F' H z.m v s → D.rt v H
 | .ex x z => ∀ cls d σ H F', Same F F' → Ok M G σ H F' z → XOk G F' H x cls d → W cls d σ H
 | .bad => False
noncomputable def SR (M : MI) (K : PySem.W.Frag) (xr : Str → Option Value) (W : WX) (t : TS) (f : Sm M Out) : Prop :=
 ∀ (G : Gx) (σ : St) (H F : Hp) (z : Z M.T) (D : Ends), G.K = K → G.xr = xr → Ok M G σ H F z → HitS M G W F (f z) D → t D σ H
noncomputable def DS {ι : Type} (M : MI) (xr : Str → Option Value) (K : PySem.W.Frag) (X : ι → Cx) (W : WX) (st : Stmt) (f : Sm M Out) : Prop := ∃ t, (∀ j, PS (X j) st t) ∧ SR M K xr W t f
noncomputable def DSs {ι : Type} (M : MI) (xr : Str → Option Value) (K : PySem.W.Frag) (X : ι → Cx) (W : WX) (st : List Stmt) (f : Sm M Out) : Prop := ∃ t, (∀ j, PSs (X j) st t) ∧ SR M K xr W t f
section
variable {M : MI} {G : Gx} {W : WX} {σ : St} {H H' F F' : Hp} {z : Z M.T} {D : Ends}
theorem HitS.mono {r : Rs Out (Z M.T)} (h : HitS M G W F r D) (s : Same F F') : HitS M G W F' r D := by
 cases r with
 | ok o z =>
  cases o with
  | nx => exact fun σ H F1 s1 ok => h σ H F1 (s.trans s1) ok
  | bk => exact fun σ H F1 s1 ok => h σ H F1 (s.trans s1) ok
  | ct => exact fun σ H F1 s1 ok => h σ H F1 (s.trans s1) ok
  | rt q => exact fun v H F1 s1 ok => h v H F1 (s.trans s1) ok
 | ex x z => exact fun cls d σ H F1 s1 ok xo => h cls d σ H F1 (s.trans s1) ok xo
 | bad => exact h
theorem hits_bind {α β : Type} {R1 : α → β → Hp → Hp → Z M.T → Prop} {r : Rs α (Z M.T)} {k : α → Z M.T → Rs Out (Z M.T)} {Q1 : β → Hp → Prop}
  (h : HitS M G W F (r.bind k) D) (hk : ∀ a z1 b H1 F1, r = .ok a z1 → Same F F1 → Ok M G σ H1 F1 z1 → R1 a b F1 H1 z1 → HitS M G W F1 (k a z1) D → Q1 b H1) : HitG M G W σ F R1 r Q1 := by
 cases r with
 | ok a z => exact fun b H' F1 s1 ok rr => hk a z b H' F1 rfl s1 ok rr (HitS.mono h s1)
 | ex x z => exact fun cls d H' F1 s1 ok xo => h cls d σ H' F1 s1 ok xo
 | bad => exact h
end
section
variable {ι : Type} {M : MI} {xr : Str → Option Value} {X : ι → Cx} {W : WX} {K : PySem.W.Frag}
noncomputable def sNil (z : Z M.T) : Rs Out (Z M.T) := .ok .nx z
noncomputable def sKk (g : Sm M Out) (o : Out) (z1 : Z M.T) : Rs Out (Z M.T) := match o with
 | .nx => g z1
 | o => .ok o z1
theorem sKk_nx (g : Sm M Out) (z : Z M.T) : sKk g .nx z = g z := rfl
theorem sKk_rt (g : Sm M Out) (s : S) (z : Z M.T) : sKk g (.rt s) z = .ok (.rt s) z := rfl
theorem sKk_bk (g : Sm M Out) (z : Z M.T) : sKk g .bk z = .ok .bk z := rfl
theorem sKk_ct (g : Sm M Out) (z : Z M.T) : sKk g .ct z = .ok .ct z := rfl
noncomputable def sSeq (f g : Sm M Out) (z : Z M.T) : Rs Out (Z M.T) := (f z).bind (sKk g)
theorem dss_nil : DSs M xr K X W [] sNil := ⟨_, fun _ => pss_nil, fun G σ H F z D _ _ ok h => h σ H F (Same.refl _) ok⟩
theorem dss_one {st : Stmt} {f : Sm M Out} (h : DS M xr K X W st f) : DSs M xr K X W [st] f := by
 obtain ⟨t, p, c⟩ := h
 exact ⟨_, fun j => pss_one (p j), c⟩
theorem dss_cons {st : Stmt} {r : List Stmt} {f g : Sm M Out} (h : DS M xr K X W st f) (h' : DSs M xr K X W r g) : DSs M xr K X W (st :: r) (sSeq f g) := by
 obtain ⟨t, p, c⟩ := h
 obtain ⟨t', p', c'⟩ := h'
 refine ⟨_, fun j => pss_cons (p j) (p' j), fun G σ H F z D hK hx ok hh => ?_⟩
 refine c G σ H F z { D with nx := t' D } hK hx ok ?_
 unfold sSeq at hh
 cases e : f z with
 | ok o z1 =>
  rw [e] at hh
  cases o with
  | nx => exact fun σ1 H1 F1 s1 ok1 => c' G σ1 H1 F1 z1 D hK hx ok1 (HitS.mono hh s1)
  | bk => exact hh
  | ct => exact hh
  | rt q => exact hh
 | ex x z1 => rw [e] at hh; exact hh
 | bad => rw [e] at hh; exact hh
theorem ds_break {pos : Pos} : DS M xr K X W (.Break pos) (fun z => .ok .bk z) := ⟨_, fun _ => ps_break, fun G σ H F z D _ _ ok h => h σ H F (Same.refl _) ok⟩
noncomputable def una (f : Sm M S) (z : Z M.T) : Rs S (Z M.T) := (f z).bind fun s z1 => match s with
 | .v i => escS (.v i) z1
 | s => .ok s z1
noncomputable def RelU {M : MI} (G : Gx) (σ : St) : S → V → Hp → Hp → Z M.T → Prop := fun s v F H z => SV G F H v s ∧ ∀ xs, s = .l xs → ∀ a, v = .ref a → ¬ Owned σ z a
theorem cmp_una {t : TE} {f : Sm M S} (hf : Cmp M K xr W t RelE f) : Cmp M K xr W t RelU (una f) := by
 intro G σ H F z Q hK hx ok h
 refine hf G σ H F z Q hK hx ok (hit_bind h fun s z1 v H1 F1 _ sm ok1 ev h1 => ?_)
 cases s with
 | d x => exact h1 v H1 F1 (Same.refl _) ok1 ⟨ev, fun _ e => by cases e⟩
 | l xs =>
  obtain ⟨a, vs, rfl, q1, q2, q3, q4, q5, q6⟩ := ev
  exact h1 _ H1 F1 (Same.refl _) ok1 ⟨⟨a, vs, rfl, q1, q2, q3, q4, q5⟩, fun _ _ b e => by cases e; exact q6⟩
 | m j => exact h1 v H1 F1 (Same.refl _) ok1 ⟨ev, fun _ e => by cases e⟩
 | v i =>
  have ev' : σ[i]? = some (some v) := ev
  simp only [escS] at h1
  split at h1
  ·rename_i xs hs
   obtain ⟨F2, s2, ok2, da⟩ := ok1.frzSlot hs ev'
   exact h1 v H1 F2 s2 ok2 ⟨da, fun _ e => by cases e⟩
  ·rename_i x hs
   obtain ⟨w, e, q⟩ := ok1.slot i _ hs
   rw [ev'] at e
   cases e
   exact h1 v H1 F1 (Same.refl _) ok1 ⟨q, fun _ e => by cases e⟩
  ·exact h1.elim
noncomputable def sSet (i : Nat) (f : Sm M S) (z : Z M.T) : Rs Out (Z M.T) := (una f z).bind fun s z1 => .ok .nx { z1 with rho := z1.rho.set i (some s) }
theorem sr_set {i : Nat} {te : TE} {f : Sm M S} (c : Cmp M K xr W te RelE f) : SR M K xr W (tAsg te (gName i)) (sSet i f) := by
 intro G σ H F z D hK hx ok hh
 refine cmp_una c G σ H F z _ hK hx ok (hits_bind hh fun s z1 v H1 F1 _ sm ok1 ev h1 => ?_)
 exact h1 _ H1 F1 (Same.refl _) (ok1.set ev.1 ev.2)
theorem ds_set {i : Nat} {x : Str} {e : Expr} {f : Sm M S} {pos pos' : Pos} (hN : ∀ j, (X j).N.Nodup) (hi : ∀ j, (X j).N[i]? = some x) (hx : ∀ j, Loc (X j).env.scope x) (h : DE M xr K X W e f) (hs : ∀ j, swapsWith e (some (.Name x pos')) pos.line (X j).env = pure false := by intro _; rfl) (hf : ∀ j, (X j).fn x = true ∨ (X j).env.scope.names.lookup x = some .local := by first | exact fun _ => .inl rfl | exact fun _ => .inr rfl) :
  DS M xr K X W (.Assign [.Name x pos'] e pos) (sSet i f) := by
 obtain ⟨t, p, c⟩ := h
 exact ⟨_, fun j => ps_set (hN j) (hi j) (hx j) (p j) (hs j) (hf j), sr_set c⟩
noncomputable def But (ts : List Nat) (σ σ' : St) : Prop := σ'.length = σ.length ∧ ∀ n, n ∉ ts → σ'[n]? = σ[n]?
theorem But.refl {ts : List Nat} {σ : St} : But ts σ σ := ⟨rfl, fun _ _ => rfl⟩
theorem But.trans {ts us : List Nat} {σ σ' σ'' : St} (a : But ts σ σ') (b : But us σ' σ'') : But (ts ++ us) σ σ'' := ⟨b.1.trans a.1, fun n hn => (b.2 n (fun h => hn (List.mem_append_right _ h))).trans (a.2 n (fun h => hn (List.mem_append_left _ h)))⟩
noncomputable def GR (M : MI) (K : PySem.W.Frag) (ts : List Nat) (g : TG) (k : D → Z M.T → Option (Z M.T)) : Prop := ∀ (G : Gx) (σ : St) (H F : Hp) (z : Z M.T) (v : V) (x : D) (Q : St → Hp → Prop), G.K = K → Ok M G σ H F z → Da K F v x →
 (match k x z with | some z' => ∀ σ', But ts σ σ' → Ok M G σ' H F z' → Q σ' H | none => False) → g v σ H Q
noncomputable def GRs (M : MI) (K : PySem.W.Frag) (ts : List Nat) (g : TGs) (k : List D → Z M.T → Option (Z M.T)) : Prop := ∀ (G : Gx) (σ : St) (H F : Hp) (z : Z M.T) (vs : List V) (xs : List D) (Q : St → Hp → Prop), G.K = K → Ok M G σ H F z → DaAll K F vs xs →
 (match k xs z with | some z' => ∀ σ', But ts σ σ' → Ok M G σ' H F z' → Q σ' H | none => False) → g vs σ H Q
noncomputable def DG {ι : Type} (M : MI) (K : PySem.W.Frag) (X : ι → Cx) (ts : List Nat) (tg : Expr) (k : D → Z M.T → Option (Z M.T)) : Prop := ∃ g, (∀ j, PG (X j) tg g) ∧ GR M K ts g k
noncomputable def DGs {ι : Type} (M : MI) (K : PySem.W.Frag) (X : ι → Cx) (ts : List Nat) (tg : List Expr) (k : List D → Z M.T → Option (Z M.T)) : Prop := ∃ g, (∀ j, PGs (X j) tg g) ∧ GRs M K ts g k
noncomputable def kName (i : Nat) : D → Z M.T → Option (Z M.T) := fun x z => some { z with rho := z.rho.set i (some (.d x)) }
noncomputable def ksNil : List D → Z M.T → Option (Z M.T) := fun xs z => match xs with
 | [] => some z
 | _ => none
noncomputable def ksCons (k : D → Z M.T → Option (Z M.T)) (ks : List D → Z M.T → Option (Z M.T)) : List D → Z M.T → Option (Z M.T) := fun xs z => match xs with
 | x :: r => (k x z).bind fun z1 => ks r z1
 | [] => none
noncomputable def kTup (n : Nat) (ks : List D → Z M.T → Option (Z M.T)) : D → Z M.T → Option (Z M.T) := fun x z => match x with
 | .tup xs => if xs.length = n then ks xs z else none
 | _ => none
theorem gr_name {i : Nat} : GR M K [i] (gName i) (kName i) := fun G σ H F z v x Q hK ok da h => h _ ⟨List.length_set, fun n hn => List.getElem?_set_ne (fun e => hn (by rw [← e]; exact List.mem_cons_self))⟩ (ok.set (s := .d x) (by subst hK; exact da) (fun _ e => by cases e))
theorem dg_name {i : Nat} {x : Str} {pos : Pos} (hN : ∀ j, (X j).N.Nodup) (hi : ∀ j, (X j).N[i]? = some x) (hx : ∀ j, Loc (X j).env.scope x) (hf : ∀ j, (X j).fn x = true ∨ (X j).env.scope.names.lookup x = some .local := by first | exact fun _ => .inl rfl | exact fun _ => .inr rfl) : DG M K X [i] (.Name x pos) (kName i) := ⟨_, fun j => pg_name (hN j) (hi j) (hx j) (hf j), gr_name⟩
theorem dgs_nil : DGs M K X [] [] ksNil := ⟨_, fun _ => pgs_nil, fun G σ H F z vs xs Q _ ok da h => by
 cases da with
 | nil => exact ⟨rfl, h σ But.refl ok⟩
 | cons _ _ => exact h.elim⟩
theorem dgs_cons {e : Expr} {es : List Expr} {k : D → Z M.T → Option (Z M.T)} {ks : List D → Z M.T → Option (Z M.T)} {ts us : List Nat} (h1 : DG M K X ts e k) (h2 : DGs M K X us es ks) (hs : ∀ j, (assignEach (e :: es) (X j).env).map (·.2) = assign e (X j).env :: (assignEach es (X j).env).map (·.2) := by intro _; rfl) : DGs M K X (ts ++ us) (e :: es) (ksCons k ks) := by
 obtain ⟨g, p, c⟩ := h1
 obtain ⟨g', p', c'⟩ := h2
 refine ⟨_, fun j => pgs_cons (p j) (p' j) (hs j), fun G σ H F z vs xs Q hK ok da h => ?_⟩
 cases da with
 | nil => exact h.elim
 | cons a b =>
  rename_i v vs d ds
  refine ⟨v, vs, rfl, c G σ H F z v d _ hK ok a ?_⟩
  unfold ksCons at h
  cases e : k d z with
  | none => simp only [e, Option.bind_none] at h
  | some z1 =>
   simp only [e, Option.bind_some] at h
   intro σ' b1 ok'
   refine c' G σ' H F z1 vs ds Q hK ok' b ?_
   cases e2 : ks ds z1 with
   | none => rw [e2] at h; exact h
   | some z2 => rw [e2] at h; exact fun σ2 b2 ok2 => h σ2 (b1.trans b2) ok2
theorem dg_tup {ts : List Nat} {es : List Expr} {k n : Nat} {ks : List D → Z M.T → Option (Z M.T)} {pos : Pos} (hK0 : ∀ j, (X j).K = K) (hc : ∀ j, (X j).calm = true) (h : DGs M K X ts es ks) (hn : ∀ j, (assignEach es (X j).env).length = n := by intro _; rfl) (hst : ∀ j, (assignEach es (X j).env).findIdx? (·.1) = none := by intro _; rfl) : DG M K X ts (.Tuple es k pos) (kTup n ks) := by
 obtain ⟨g, p, c⟩ := h
 refine ⟨gTup K n g, fun j => by rw [← hK0 j]; exact pg_tup (hc j) (p j) (hn j) (hst j), fun G σ H F z v x Q hK ok da h => ?_⟩
 cases x with
 | tup xs =>
  unfold kTup at h
  by_cases hl : xs.length = n
  ·simp only [if_pos hl] at h
   cases da with
   | tup q r =>
    rename_i a vs
    exact ⟨a, vs, rfl, ok.sub.tup q, by rw [r.length]; exact hl, c G σ H F z vs xs Q hK ok r h⟩
  ·simp only [if_neg hl] at h
 | _ => exact h.elim
noncomputable def sAsg (f : Sm M S) (k : D → Z M.T → Option (Z M.T)) (z : Z M.T) : Rs Out (Z M.T) := (escf f z).bind fun s z1 => match s with
 | .d x => Rs.opt ((k x z1).map fun z2 => (Out.nx, z2)) z1 |>.bind fun p _ => .ok p.1 p.2
 | _ => .bad
theorem ds_asg {ts : List Nat} {tg e : Expr} {f : Sm M S} {k : D → Z M.T → Option (Z M.T)} {pos : Pos} (h : DE M xr K X W e f) (hg : DG M K X ts tg k) (hs : ∀ j, swapsWithSole [tg] e pos.line (X j).env = pure false := by intro _; rfl) (hw : ∀ j, swappedStores [tg] e (X j).env = pure none := by intro _; rfl)
  (h1 : ∀ j, (assignEach [tg] (X j).env).map (·.2) = [assign tg (X j).env] := by intro _; rfl) : DS M xr K X W (.Assign [tg] e pos) (sAsg f k) := by
 obtain ⟨t, p, c⟩ := h
 obtain ⟨g, pg, cg⟩ := hg
 refine ⟨_, fun j => ps_asg (p j) (pg j) (hs j) (hw j) (h1 j), fun G σ H F z D hK hx ok hh => ?_⟩
 refine cmp_esc c G σ H F z _ hK hx ok (hits_bind hh fun s z1 v H1 F1 _ sm ok1 ev h2 => ?_)
 cases s with
 | d x =>
  refine cg G σ H1 F1 z1 v x D.nx hK ok1 (by rw [← hK]; exact ev) ?_
  cases e : k x z1 with
  | none => simp only [e] at h2; exact h2
  | some z2 =>
   simp only [e] at h2
   exact fun σ' _ ok' => h2 σ' H1 F1 (Same.refl _) ok'
 | _ => exact h2.elim
noncomputable def sRet (f : Sm M S) (z : Z M.T) : Rs Out (Z M.T) := (f z).bind fun s z1 => match s with
 | .v i => (match z1.rho[i]? with
  | some (some (.l xs)) => .ok (.rt (.l xs)) z1
  | some (some (.d x)) => .ok (.rt (.d x)) z1
  | _ => .bad)
 | s => .ok (.rt s) z1
theorem Ok.ret {G : Gx} {σ : St} {H F : Hp} {z : Z M.T} (ok : Ok M G σ H F z) {v : V} {s : S} (h : SV G F H v s) : RetOk M G F H z.m v s := ⟨ok.sub, ok.mach, ok.msF, ok.msH, ok.fr, ok.tg, h⟩
theorem ds_ret {e : Expr} {f : Sm M S} {pos : Pos} (h : DE M xr K X W e f) : DS M xr K X W (.Return (some e) pos) (sRet f) := by
 obtain ⟨t, p, c⟩ := h
 refine ⟨_, fun j => ps_ret (p j), fun G σ H F z D hK hx ok hh => ?_⟩
 refine c G σ H F z _ hK hx ok (hits_bind hh fun s z1 v H1 F1 _ sm ok1 ev h2 => ?_)
 cases s with
 | d x => exact h2 v H1 F1 (Same.refl _) (ok1.ret (s := .d x) ev)
 | l xs =>
  obtain ⟨a, vs, rfl, q1, q2, q3, q4, q5, q6⟩ := ev
  exact h2 _ H1 F1 (Same.refl _) (ok1.ret (s := .l xs) ⟨a, vs, rfl, q1, q2, q3, q4, q5⟩)
 | m j => exact h2 v H1 F1 (Same.refl _) (ok1.ret (s := .m j) ev)
 | v i =>
  have ev' : σ[i]? = some (some v) := ev
  simp only at h2
  split at h2
  ·rename_i xs hs
   obtain ⟨w, e, q⟩ := ok1.slot i _ hs
   rw [ev'] at e
   cases e
   exact h2 v H1 F1 (Same.refl _) (ok1.ret q)
  ·rename_i x hs
   obtain ⟨w, e, q⟩ := ok1.slot i _ hs
   rw [ev'] at e
   cases e
   exact h2 v H1 F1 (Same.refl _) (ok1.ret q)
  ·exact h2.elim
noncomputable def sExpr (f : Sm M S) (z : Z M.T) : Rs Out (Z M.T) := (f z).bind fun _ z1 => .ok .nx z1
theorem ds_expr {e : Expr} {f : Sm M S} {pos : Pos} (h : DE M xr K X W e f) (hs : ∀ j, swapsWith e none pos.line (X j).env = pure false := by intro _; rfl) : DS M xr K X W (.Expr e pos) (sExpr f) := by
 obtain ⟨t, p, c⟩ := h
 refine ⟨_, fun j => ps_expr (p j) (hs j), fun G σ H F z D hK hx ok hh => ?_⟩
 exact c G σ H F z _ hK hx ok (hits_bind hh fun s z1 v H1 F1 _ sm ok1 ev h2 => h2 σ H1 F1 (Same.refl _) ok1)
noncomputable def kIf (f g : Sm M Out) (b : Bool) (z1 : Z M.T) : Rs Out (Z M.T) := if b = true then f z1 else g z1
noncomputable def sIf (c : Sm M Bool) (f g : Sm M Out) (z : Z M.T) : Rs Out (Z M.T) := (c z).bind (kIf f g)
theorem ds_if {e : Expr} {a b : List Stmt} {c : Sm M Bool} {f g : Sm M Out} {pos : Pos} (hc : DT M xr K X W e c) (h : DSs M xr K X W a f) (h' : DSs M xr K X W b g) : DS M xr K X W (.If e a b pos) (sIf c f g) := by
 obtain ⟨t, p, c0⟩ := hc
 obtain ⟨t1, p1, c1⟩ := h
 obtain ⟨t2, p2, c2⟩ := h'
 refine ⟨_, fun j => ps_if (p j) (p1 j) (p2 j), fun G σ H F z D hK hx ok hh => ?_⟩
 refine c0 G σ H F z _ hK hx ok (hits_bind hh fun b z1 c H1 F1 _ sm ok1 e1 h1 => ?_)
 cases (show c = b from e1)
 cases b with
 | true => exact c1 G σ H1 F1 z1 D hK hx ok1 h1
 | false => exact c2 G σ H1 F1 z1 D hK hx ok1 h1
noncomputable def YD (K : PySem.W.Frag) (F : Hp) (ds : List D) : Nat → Hp → V → Hp → Prop := fun i H v H' => ∃ d, ds[i]? = some d ∧ ∀ F1, Same F F1 → SameX F1 H → (∀ a ps, F1 a = some (.tbl ps) → H a ≠ none) → ∃ F2, Same F1 F2 ∧ SameX F2 H' ∧ (∀ b o, H b = some o → H' b = some o ∧ F2 b = F1 b) ∧ (∀ a ps, F2 a = some (.tbl ps) → F1 a = some (.tbl ps)) ∧ Da K F2 v d
noncomputable def Wk (K : PySem.W.Frag) (F : Hp) (J : It) (ds : List D) : Prop := Walk J ds.length (fun H => SameX F H) (YD K F ds)
noncomputable def RelW {M : MI} (G : Gx) (_ : St) : List D → It → Hp → Hp → Z M.T → Prop := fun ds J F _ _ => Wk G.K F J ds
noncomputable def DI {ι : Type} (M : MI) (xr : Str → Option Value) (K : PySem.W.Frag) (X : ι → Cx) (W : WX) (tg iter : Expr) (f : Sm M (List D)) : Prop := ∃ wi, (∀ j, PI (X j) tg iter wi) ∧ Cmp M K xr W wi RelW f
noncomputable def forL (k : D → Z M.T → Option (Z M.T)) (b : Sm M Out) : List D → Sm M Out
 | [], z => .ok .nx z
 | d :: r, z => match k d z with
  | none => .bad
  | some z1 => (b z1).bind fun o z2 => match o with
   | .nx => forL k b r z2
   | .ct => forL k b r z2
   | .bk => .ok .nx z2
   | .rt s => .ok (.rt s) z2
noncomputable def sFor (its : Sm M (List D)) (k : D → Z M.T → Option (Z M.T)) (b : Sm M Out) (z : Z M.T) : Rs Out (Z M.T) := (its z).bind fun ds z1 => forL k b ds z1
theorem Ok.yd {G : Gx} {σ : St} {H H' F1 F2 : Hp} {z : Z M.T} (ok : Ok M G σ H F1 z) (s1 : Same F1 F2) (s2 : SameX F2 H') (k : ∀ b o, H b = some o → H' b = some o ∧ F2 b = F1 b) (kt : ∀ a ps, F2 a = some (.tbl ps) → F1 a = some (.tbl ps)) : Ok M G σ H' F2 z :=
 ok.step s1 (fun a ps e => ⟨kt a ps e, by
  cases q : H a with
  | none => exact ((ok.tg a ps (kt a ps e)).1 q).elim
  | some o => rw [(k a o q).1]⟩) s2 (fun a q => by
  obtain ⟨vs, e, e2, _⟩ := ok.ownH q
  obtain ⟨h1, h2⟩ := k a _ e
  exact ⟨by rw [h1, e], by rw [h2]; exact e2⟩) (fun a q => by
  cases e : H a with
  | none => exact (ok.msH a q e).elim
  | some o =>
   obtain ⟨h1, h2⟩ := k a _ e
   exact ⟨h1, by rw [h2]; exact ok.msF a q⟩) (fun b o q => by
  obtain ⟨h1, h2⟩ := ok.fr b o q
  obtain ⟨h3, h4⟩ := k b o h1
  exact ⟨h3, h4.trans h2⟩)
theorem ds_for {ts : List Nat} {tg iter : Expr} {body : List Stmt} {its : Sm M (List D)} {k : D → Z M.T → Option (Z M.T)} {f : Sm M Out} {pos : Pos} (hp : ∀ j, PassesOwn (model (X j).prog (X j).w) (X j).A (X j).env (X j).xe) (hc : ∀ j, (X j).calm = true) (hi : DI M xr K X W tg iter its) (hg : DG M K X ts tg k) (h : DSs M xr K X W body f)
  (hs : ∀ j x, foldedSetIterable iter (X j).env x = pure x := by intro _ _; rfl) : DS M xr K X W (.For tg iter body [] pos) (sFor its k f) := by
 obtain ⟨wi, pi, ci⟩ := hi
 obtain ⟨g, pg, cg⟩ := hg
 obtain ⟨t, p, c⟩ := h
 refine ⟨_, fun j => ps_for (hp j) (hc j) (pi j) (pg j) (p j) (hs j), fun G σ H F z D hK hx ok hh => ?_⟩
 refine ci G σ H F z _ hK hx ok (hits_bind hh fun ds z1 J H1 F1 _ sm ok1 w h1 => ?_)
 refine for_it (w : Wk G.K F1 J ds) (fun i σ' H' => ∃ F' z', Same F1 F' ∧ Ok M G σ' H' F' z' ∧ HitS M G W F' (forL k f (ds.drop i) z') D) ⟨F1, z1, Same.refl _, ok1, h1⟩ (fun i σ' H' _ ⟨F', z', s', ok', _⟩ => thenX s' ok'.sub) ?_ ?_
 ·rintro i x σ2 H2 H3 hi ⟨F2, z2, s2, ok2, h2⟩ ⟨d, hd, q⟩
  obtain ⟨F3, s3, s4, kk, kt, da⟩ := q F2 s2 ok2.sub (fun a ps e => (ok2.tg a ps e).1)
  have ok3 := ok2.yd s3 s4 kk kt
  have ed : ds.drop i = d :: ds.drop (i + 1) := by
   rw [List.drop_eq_getElem_cons hi]
   have := List.getElem?_eq_getElem hi
   rw [hd] at this
   rw [← Option.some.inj this]
  rw [ed] at h2
  refine cg G σ2 H3 F3 z2 x d _ hK ok3 (by rw [← hK]; exact da) ?_
  unfold forL at h2
  cases e : k d z2 with
  | none => simp only [e] at h2; exact h2
  | some z3 =>
   simp only [e] at h2
   intro σ4 _ ok4
   refine c G σ4 H3 F3 z3 _ hK hx ok4 ?_
   cases e : f z3 with
   | bad => rw [e] at h2; exact h2
   | ex x z3 => rw [e] at h2; exact HitS.mono (F := F2) (r := .ex x z3) h2 s3
   | ok o z4 =>
    rw [e] at h2
    cases o with
    | nx => exact fun σ5 H5 F5 s5 ok5 => ⟨F5, z4, (s2.trans s3).trans s5, ok5, HitS.mono h2 (s3.trans s5)⟩
    | ct => exact fun σ5 H5 F5 s5 ok5 => ⟨F5, z4, (s2.trans s3).trans s5, ok5, HitS.mono h2 (s3.trans s5)⟩
    | bk => exact fun σ5 H5 F5 s5 ok5 => h2 σ5 H5 F5 (s3.trans s5) ok5
    | rt q => exact fun v H5 F5 s5 ok5 => h2 v H5 F5 (s3.trans s5) ok5
 ·rintro σ2 H2 ⟨F2, z2, s2, ok2, h2⟩
  rw [List.drop_length] at h2
  exact h2 σ2 H2 F2 (Same.refl _) ok2
end
end G
namespace G
open PySem L2
noncomputable def wipeR (rho : List (Option S)) : List Nat → List (Option S)
 | [] => rho
 | v :: vs => (wipeR rho vs).set v none
noncomputable def restR (rho0 rho : List (Option S)) : List Nat → List (Option S)
 | [] => rho
 | v :: vs => (restR rho0 rho vs).set v (rho0[v]?.getD none)
theorem wipeR_length (rho : List (Option S)) : ∀ vs, (wipeR rho vs).length = rho.length
 | [] => rfl
 | v :: vs => by unfold wipeR; rw [List.length_set, wipeR_length rho vs]
theorem restR_length (rho0 rho : List (Option S)) : ∀ vs, (restR rho0 rho vs).length = rho.length
 | [] => rfl
 | v :: vs => by unfold restR; rw [List.length_set, restR_length rho0 rho vs]
theorem wipeR_out (rho : List (Option S)) : ∀ (vs : List Nat) (n : Nat), n ∉ vs → (wipeR rho vs)[n]? = rho[n]?
 | [], _, _ => rfl
 | v :: vs, n, h => by
  unfold wipeR
  rw [List.getElem?_set_ne (fun e => h (by rw [← e]; exact List.mem_cons_self)), wipeR_out rho vs n (fun q => h (List.mem_cons_of_mem _ q))]
theorem wipeR_in (rho : List (Option S)) : ∀ (vs : List Nat) (n : Nat) (s : S), n ∈ vs → (wipeR rho vs)[n]? ≠ some (some s)
 | [], _, _, h => by cases h
 | v :: vs, n, s, h => by
  unfold wipeR
  by_cases e : n = v
  ·subst e
   by_cases hl : n < (wipeR rho vs).length
   ·rw [List.getElem?_set_self hl]
    intro q
    cases q
   ·rw [List.getElem?_eq_none (by rw [List.length_set]; omega)]
    intro q
    cases q
  ·rw [List.getElem?_set_ne (Ne.symm e)]
   exact wipeR_in rho vs n s ((List.mem_cons.mp h).resolve_left e)
theorem restR_out (rho0 rho : List (Option S)) : ∀ (vs : List Nat) (n : Nat), n ∉ vs → (restR rho0 rho vs)[n]? = rho[n]?
 | [], _, _ => rfl
 | v :: vs, n, h => by
  unfold restR
  rw [List.getElem?_set_ne (fun e => h (by rw [← e]; exact List.mem_cons_self)), restR_out rho0 rho vs n (fun q => h (List.mem_cons_of_mem _ q))]
theorem restR_in (rho0 rho : List (Option S)) : ∀ (vs : List Nat) (n : Nat) (s : S), n ∈ vs → (restR rho0 rho vs)[n]? = some (some s) → rho0[n]? = some (some s)
 | [], _, _, h, _ => by cases h
 | v :: vs, n, s, h, e1 => by
  unfold restR at e1
  by_cases e : n = v
  ·subst e
   by_cases hl : n < (restR rho0 rho vs).length
   ·rw [List.getElem?_set_self hl] at e1
    cases q : rho0[n]? with
    | none => rw [q] at e1; cases e1
    | some o => rw [q] at e1; exact e1
   ·rw [List.getElem?_eq_none (by rw [List.length_set]; omega)] at e1
    cases e1
  ·rw [List.getElem?_set_ne (Ne.symm e)] at e1
   exact restR_in rho0 rho vs n s ((List.mem_cons.mp h).resolve_left e) e1
theorem wipe_out (σ : St) : ∀ (vs : List Nat) (n : Nat), n ∉ vs → (wipe σ vs)[n]? = σ[n]?
 | [], _, _ => rfl
 | v :: vs, n, h => by
  unfold wipe
  rw [List.getElem?_set_ne (fun e => h (by rw [← e]; exact List.mem_cons_self)), wipe_out σ vs n (fun q => h (List.mem_cons_of_mem _ q))]
theorem wipe_in (σ : St) : ∀ (vs : List Nat) (n : Nat), n ∈ vs → n < σ.length → (wipe σ vs)[n]? = some none
 | [], _, h, _ => by cases h
 | v :: vs, n, h, hl => by
  unfold wipe
  by_cases e : n = v
  ·subst e
   exact List.getElem?_set_self (by rw [wipe_length]; exact hl)
  ·rw [List.getElem?_set_ne (Ne.symm e)]
   exact wipe_in σ vs n ((List.mem_cons.mp h).resolve_left e) hl
theorem wipe_but {σ σ' : St} {ts vs : List Nat} (b : But ts (wipe σ vs) σ') (h : ∀ n ∈ ts, n ∈ vs) : wipe σ' vs = wipe σ vs := by
 have hl : σ'.length = σ.length := b.1.trans (wipe_length σ vs)
 refine List.ext_getElem? fun n => ?_
 by_cases hn : n ∈ vs
 ·by_cases q : n < σ.length
  ·rw [wipe_in σ vs n hn q, wipe_in σ' vs n hn (by omega)]
  ·rw [List.getElem?_eq_none (by rw [wipe_length]; omega), List.getElem?_eq_none (by rw [wipe_length]; omega)]
 ·rw [wipe_out σ' vs n hn, b.2 n (fun q => hn (h n q)), wipe_out σ vs n hn]
section
variable {M : MI} {G : Gx} {W : WX} {σ : St} {H H' F F' : Hp} {z : Z M.T}
noncomputable def wipeZ (z : Z M.T) (vs : List Nat) : Z M.T := { z with rho := wipeR z.rho vs }
theorem Ok.wipe (ok : Ok M G σ H F z) (vs : List Nat) : Ok M G (L2.wipe σ vs) H F (wipeZ z vs) where
 sub := ok.sub
 len := by
  show (wipeR z.rho vs).length = _
  rw [wipeR_length, wipe_length]
  exact ok.len
 slot := fun i s e => by
  have e' : (wipeR z.rho vs)[i]? = some (some s) := e
  by_cases h : i ∈ vs
  ·exact (wipeR_in z.rho vs i s h e').elim
  ·rw [wipeR_out _ _ _ h] at e'
   obtain ⟨v, h1, h2⟩ := ok.slot i s e'
   exact ⟨v, by rw [wipe_out _ _ _ h]; exact h1, h2⟩
 dist := fun i j xs ys v e1 e2 e3 e4 => by
  have e1' : (wipeR z.rho vs)[i]? = some (some (.l xs)) := e1
  have e2' : (wipeR z.rho vs)[j]? = some (some (.l ys)) := e2
  by_cases h : i ∈ vs
  ·exact (wipeR_in z.rho vs i _ h e1').elim
  ·by_cases h' : j ∈ vs
   ·exact (wipeR_in z.rho vs j _ h' e2').elim
   ·rw [wipeR_out _ _ _ h] at e1'
    rw [wipeR_out _ _ _ h'] at e2'
    rw [wipe_out _ _ _ h] at e3
    rw [wipe_out _ _ _ h'] at e4
    exact ok.dist i j xs ys v e1' e2' e3 e4
 mach := ok.mach
 msF := ok.msF
 msP := ok.msP
 msH := ok.msH
 fr := ok.fr
 tg := ok.tg
noncomputable def noOwn (rho : List (Option S)) (vs : List Nat) : Bool := vs.all fun i => match rho[i]? with
 | some (some (.l _)) => false
 | _ => true
theorem Ok.rest {z1 : Z M.T} {H1 F1 : Hp} (ok : Ok M G σ H F z) {vs : List Nat} (hn : noOwn z.rho vs = true) (sm : Same F F1) (ok1 : Ok M G (L2.wipe σ vs) H1 F1 z1) : Ok M G σ H1 F1 { z1 with rho := restR z.rho z1.rho vs } := by
 have no : ∀ n ∈ vs, ∀ xs, z.rho[n]? ≠ some (some (.l xs)) := fun n hm xs e => by
  have q := List.all_eq_true.mp hn n hm
  rw [e] at q
  cases q
 refine ⟨ok1.sub, ?_, fun i s e => ?_, fun i j xs ys v e1 e2 e3 e4 => ?_, ok1.mach, ok1.msF, ok1.msP, ok1.msH, ok1.fr, ok1.tg⟩
 ·show (restR z.rho z1.rho vs).length = _
  rw [restR_length, ok1.len, wipe_length]
 ·have e' : (restR z.rho z1.rho vs)[i]? = some (some s) := e
  by_cases h : i ∈ vs
  ·have q := restR_in z.rho z1.rho vs i s h e'
   obtain ⟨v, h1, h2⟩ := ok.slot i s q
   refine ⟨v, h1, ?_⟩
   cases s with
   | d x => exact Da.mono sm h2
   | l xs => exact (no i h xs q).elim
   | v _ => exact h2
   | m j => exact h2
  ·rw [restR_out _ _ _ _ h] at e'
   obtain ⟨v, h1, h2⟩ := ok1.slot i s e'
   rw [wipe_out _ _ _ h] at h1
   exact ⟨v, h1, h2⟩
 ·have e1' : (restR z.rho z1.rho vs)[i]? = some (some (.l xs)) := e1
  have e2' : (restR z.rho z1.rho vs)[j]? = some (some (.l ys)) := e2
  by_cases h : i ∈ vs
  ·exact (no i h xs (restR_in z.rho z1.rho vs i _ h e1')).elim
  ·by_cases h' : j ∈ vs
   ·exact (no j h' ys (restR_in z.rho z1.rho vs j _ h' e2')).elim
   ·rw [restR_out _ _ _ _ h] at e1'
    rw [restR_out _ _ _ _ h'] at e2'
    exact ok1.dist i j xs ys v e1' e2' (by rw [wipe_out _ _ _ h]; exact e3) (by rw [wipe_out _ _ _ h']; exact e4)
noncomputable def Gx.prot (G : Gx) (D : Addr) (vs : List V) : Gx := { G with P := upd G.P D (.lst vs), Fp := fun b => if b = D then none else G.Fp b }
theorem Ok.prot {D : Addr} {vs : List V} (ok : Ok M G σ H F z) (hD : H D = some (.lst vs)) (hF : F D = none) (hm : D ∉ G.ms) (ho : ¬ Owned σ z D) : Ok M (G.prot D vs) σ H F z := by
 refine ⟨ok.sub, ok.len, fun i s e => ?_, ok.dist, ok.mach, ok.msF, fun a ha => ?_, ok.msH, fun b o q => ?_, fun a ps e => ⟨(ok.tg a ps e).1, (upd_ne (ne_of_none e hF)).trans (ok.tg a ps e).2⟩⟩
 ·obtain ⟨v, h1, h2⟩ := ok.slot i s e
  refine ⟨v, h1, ?_⟩
  cases s with
  | d x => exact h2
  | l xs =>
   obtain ⟨a, ws, rfl, q1, q2, q3, q4, q5⟩ := h2
   have n : a ≠ D := fun e2 => ho (e2 ▸ ⟨i, xs, e, h1⟩)
   exact ⟨a, ws, rfl, q1, q2, q3, (upd_ne n).trans q4, q5⟩
  | v _ => exact h2
  | m j => exact h2
 ·have n : a ≠ D := fun e => hm (e ▸ ha)
  exact (upd_ne n).trans (ok.msP a ha)
 ·have q' : upd G.P D (.lst vs) b = some o := q
  show H b = some o ∧ F b = (if b = D then none else G.Fp b)
  by_cases e : b = D
  ·subst e
   rw [upd_same] at q'
   cases q'
   rw [if_pos rfl]
   exact ⟨hD, hF⟩
  ·rw [upd_ne e] at q'
   rw [if_neg e]
   exact ok.fr b o q'
theorem Ok.unprot {D : Addr} {vs : List V} (ok : Ok M (G.prot D vs) σ H F z) (hP : G.P D = none) : Ok M G σ H F z ∧ H D = some (.lst vs) ∧ F D = none ∧ ¬ Owned σ z D := by
 have hd := ok.fr D (.lst vs) upd_same
 have hF : F D = none := hd.2.trans (if_pos rfl)
 have no : ¬ Owned σ z D := fun q => by
  obtain ⟨_, _, _, e, _⟩ := ok.ownH q
  have e' : upd G.P D (.lst vs) D = none := e
  rw [upd_same] at e'
  cases e'
 refine ⟨⟨ok.sub, ok.len, fun i s e => ?_, ok.dist, ok.mach, ok.msF, fun a ha => ?_, ok.msH, fun b o q => ?_, fun a ps e => ⟨(ok.tg a ps e).1, (upd_ne (ne_of_none e hF)).symm.trans (ok.tg a ps e).2⟩⟩, hd.1, hF, no⟩
 ·obtain ⟨v, h1, h2⟩ := ok.slot i s e
  refine ⟨v, h1, ?_⟩
  cases s with
  | d x => exact h2
  | l xs =>
   obtain ⟨a, ws, rfl, q1, q2, q3, q4, q5⟩ := h2
   have n : a ≠ D := fun e2 => no (e2 ▸ ⟨i, xs, e, h1⟩)
   have q4' : upd G.P D (.lst vs) a = none := q4
   rw [upd_ne n] at q4'
   exact ⟨a, ws, rfl, q1, q2, q3, q4', q5⟩
  | v _ => exact h2
  | m j => exact h2
 ·have q : upd G.P D (.lst vs) a = none := ok.msP a ha
  by_cases e : a = D
  ·rw [e]; exact hP
  ·rw [upd_ne e] at q
   exact q
 ·have n : b ≠ D := fun e => by rw [e, hP] at q; cases q
  have q' : (G.prot D vs).P b = some o := (upd_ne n).trans q
  obtain ⟨h1, h2⟩ := ok.fr b o q'
  have h2' : F b = (if b = D then none else G.Fp b) := h2
  rw [if_neg n] at h2'
  exact ⟨h1, h2'⟩
theorem Ok.updD {D : Addr} {o o' : HO} (ok : Ok M G σ H F z) (hD : H D = some o) (hF : F D = none) (hm : D ∉ G.ms) (hP : G.P D = none) (ho : ¬ Owned σ z D) : Ok M G σ (upd H D o') F z :=
 ok.step (Same.refl F) (tgk_new hF) (same_updR ok.sub hF) (fun a q => by
  have n : a ≠ D := fun e => ho (e ▸ q)
  exact ⟨upd_ne n, (ok.ownH q).choose_spec.2.1⟩) (fun a q => by
  have n : a ≠ D := fun e => hm (e ▸ q)
  exact ⟨upd_ne n, ok.msF a q⟩) (fun b u q => by
  have n : b ≠ D := fun e => by rw [e, hP] at q; cases q
  obtain ⟨h1, h2⟩ := ok.fr b u q
  exact ⟨(upd_ne n).trans h1, h2⟩)
noncomputable def nox {α ζ : Type} (r : Rs α ζ) : Rs α ζ := match r with
 | .ex _ _ => .bad
 | r => r
noncomputable def lcL (k : D → Z M.T → Option (Z M.T)) (t : Sm M Bool) (e : Sm M S) (vs : List Nat) : List D → List D → Z M.T → Rs (List D) (Z M.T)
 | [], acc, z => .ok acc z
 | d :: r, acc, z => match k d z with
  | none => .bad
  | some z1 => (nox (t z1)).bind fun b z2 => if b = true then (nox (escf e z2)).bind fun s z3 => (match s with
    | .d y => if acc.length < lim then lcL k t e vs r (acc ++ [y]) (wipeZ z3 vs) else .bad
    | _ => .bad) else lcL k t e vs r acc (wipeZ z2 vs)
noncomputable def eLc (its : Sm M (List D)) (k : D → Z M.T → Option (Z M.T)) (t : Sm M Bool) (e : Sm M S) (vs : List Nat) (z : Z M.T) : Rs S (Z M.T) := (its z).bind fun ds z1 => if noOwn z1.rho vs = true then
  (lcL k t e vs ds [] (wipeZ z1 vs)).bind fun acc z2 => .ok (.l acc) { z2 with rho := restR z1.rho z2.rho vs }
 else .bad
noncomputable abbrev W0 : WX := fun _ _ _ _ => False
theorem cmp_lc {K : PySem.W.Frag} {xr : Str → Option Value} {wi : TI} {g : TG} {tt : TT} {te : TE} {vs ts : List Nat} {its : Sm M (List D)} {k : D → Z M.T → Option (Z M.T)} {t : Sm M Bool} {e : Sm M S} (hv : ∀ n ∈ ts, n ∈ vs) (ci : Cmp M K xr W wi RelW its) (cg : GR M K ts g k)
  (ct : Cmp M K xr W0 tt RelB t) (ce : Cmp M K xr W0 te RelE e) : Cmp M K xr W (tLc wi g tt te vs) RelE (eLc its k t e vs) := by
 intro G σ H F z Q hK hx ok hh
 refine ci G σ H F z _ hK hx ok (hit_bind hh fun ds z1 J H1 F1 _ sm ok1 w h1 => ?_)
 intro L hL
 have hn : noOwn z1.rho vs = true := by
  by_cases q : noOwn z1.rho vs = true
  ·exact q
  ·rw [if_neg q] at h1; exact h1.elim
 rw [if_pos hn] at h1
 have okw : Ok M G (L2.wipe σ vs) H1 F1 (wipeZ z1 vs) := ok1.wipe vs
 have hP : G.P L = none := ok1.freshP hL
 have hm : L ∉ G.ms := ok1.freshM hL
 refine lc_it (w : Wk G.K F1 J ds) (fun i H' => ∃ F' z' acc avs, Same F1 F' ∧ Ok M G (L2.wipe σ vs) H' F' z' ∧ H' L = some (.lst avs) ∧ DaAll G.K F' avs acc ∧ F' L = none ∧ ¬ Owned (L2.wipe σ vs) z' L ∧
   HitG M G W σ F' (RelE G σ) ((lcL k t e vs (ds.drop i) acc z').bind fun acc z2 => .ok (.l acc) { z2 with rho := restR z1.rho z2.rho vs }) Q)
  ⟨F1, wipeZ z1 vs, [], [], Same.refl _, okw.new hL _, upd_same, .nil, ok1.freshF hL, okw.freshO hL, h1⟩ (fun i H' _ ⟨F', z', _, _, s', ok', _⟩ => thenX s' ok'.sub) ?_ ?_
 ·rintro i x H2 H3 hi ⟨F2, z2, acc, avs, s2, ok2, hl2, da2, hf2, no2, h2⟩ ⟨d, hd, q⟩
  obtain ⟨F3, s3, s4, kk, kt, da⟩ := q F2 s2 ok2.sub (fun a ps e => (ok2.tg a ps e).1)
  have ok3 := ok2.yd s3 s4 kk kt
  have hl3 : H3 L = some (.lst avs) := (kk L _ hl2).1
  have hf3 : F3 L = none := (kk L _ hl2).2.trans hf2
  have ed : ds.drop i = d :: ds.drop (i + 1) := by
   rw [List.drop_eq_getElem_cons hi]
   have := List.getElem?_eq_getElem hi
   rw [hd] at this
   rw [← Option.some.inj this]
  rw [ed] at h2
  have okp := ok3.prot hl3 hf3 hm no2
  refine cg (G.prot L avs) _ H3 F3 z2 x d _ hK okp (by rw [← hK]; exact da) ?_
  unfold lcL at h2
  cases e1 : k d z2 with
  | none => simp only [e1] at h2; exact h2.elim
  | some z3 =>
   simp only [e1] at h2
   intro σ4 b4 ok4
   have ew : L2.wipe σ4 vs = L2.wipe σ vs := wipe_but b4 hv
   refine ⟨ew, ?_⟩
   refine ct (G.prot L avs) σ4 H3 F3 z3 _ hK hx ok4 ?_
   cases e2 : t z3 with
   | bad => simp only [e2, nox, Rs.bind] at h2; exact h2
   | ex x zz => simp only [e2, nox, Rs.bind] at h2; exact h2.elim
   | ok b z4 =>
    simp only [e2, nox, Rs.bind] at h2
    intro b' H5 F5 s5 ok5 eb
    cases (show b' = b from eb)
    cases b with
    | false =>
     rw [if_neg Bool.false_ne_true] at h2
     rw [if_neg Bool.false_ne_true]
     obtain ⟨q1, q2, q3, q4⟩ := ok5.unprot hP
     have ok6 := q1.wipe vs
     rw [ew] at ok6
     refine ⟨F5, wipeZ z4 vs, acc, avs, (s2.trans s3).trans s5, ok6, q2, da2.mono (s3.trans s5), q3, ?_, HitG.mono h2 (s3.trans s5)⟩
     rintro ⟨j, xs, o1, o2⟩
     have o1' : (wipeR z4.rho vs)[j]? = some (some (.l xs)) := o1
     by_cases qj : j ∈ vs
     ·exact wipeR_in _ _ _ _ qj o1'
     ·rw [wipeR_out _ _ _ qj] at o1'
      rw [← ew, wipe_out _ _ _ qj] at o2
      exact q4 ⟨j, xs, o1', o2⟩
    | true =>
     rw [if_pos rfl] at h2
     rw [if_pos rfl]
     refine cmp_esc ce (G.prot L avs) σ4 H5 F5 z4 _ hK hx ok5 ?_
     cases e3 : escf e z4 with
     | bad => simp only [e3, nox, Rs.bind] at h2; exact h2
     | ex x zz => simp only [e3, nox, Rs.bind] at h2; exact h2.elim
     | ok s z5 =>
      simp only [e3, nox, Rs.bind] at h2
      intro v H6 F6 s6 ok6 ev
      cases s with
      | d y =>
       simp only at h2
       have hlim : acc.length < lim := by
        by_cases q : acc.length < lim
        ·exact q
        ·rw [if_neg q] at h2; exact h2.elim
       rw [if_pos hlim] at h2
       obtain ⟨q1, q2, q3, q4⟩ := ok6.unprot hP
       have s26 := (s3.trans s5).trans s6
       refine ⟨avs, q2, by rw [da2.length]; exact Nat.lt_trans hlim lim_line, F6, wipeZ z5 vs, acc ++ [y], avs ++ [v], s2.trans s26, ?_, upd_same, (da2.mono s26).append (.cons ev .nil), q3, ?_, HitG.mono h2 s26⟩
       ·have ok7 := (q1.updD (o' := .lst (avs ++ [v])) q2 q3 hm hP q4).wipe vs
        rw [ew] at ok7
        exact ok7
       ·rintro ⟨j, xs, o1, o2⟩
        have o1' : (wipeR z5.rho vs)[j]? = some (some (.l xs)) := o1
        by_cases qj : j ∈ vs
        ·exact wipeR_in _ _ _ _ qj o1'
        ·rw [wipeR_out _ _ _ qj] at o1'
         rw [← ew, wipe_out _ _ _ qj] at o2
         exact q4 ⟨j, xs, o1', o2⟩
      | _ => exact h2.elim
 ·rintro H2 ⟨F2, z2, acc, avs, s2, ok2, hl2, da2, hf2, no2, h2⟩
  rw [List.drop_length] at h2
  refine h2 (.ref L) H2 F2 (Same.refl _) (ok1.rest hn s2 ok2) ⟨L, avs, rfl, hl2, da2, hf2, hP, hm, ?_⟩
  rintro ⟨j, xs, o1, o2⟩
  have o1' : (restR z1.rho z2.rho vs)[j]? = some (some (.l xs)) := o1
  by_cases qj : j ∈ vs
  ·have q := restR_in _ _ _ _ _ qj o1'
   have q2 := List.all_eq_true.mp hn j qj
   rw [q] at q2
   cases q2
  ·rw [restR_out _ _ _ _ qj] at o1'
   exact no2 ⟨j, xs, o1', by rw [wipe_out _ _ _ qj]; exact o2⟩
end
section
variable {ι : Type} {M : MI} {xr : Str → Option Value} {K : PySem.W.Frag} {X : ι → Cx} {W : WX}
structure BP where
  s : Shared
  H : Hp
  C : Addr
  cl : List (Str × Addr)
  fp : List Addr
noncomputable abbrev Blk {ι : Type} (X : ι → Cx) (scope : Scope) : ι × BP → Cx := fun p => (X p.1).blk p.2.s p.2.H scope (compEnvC scope p.2.cl p.2.C (X p.1).env) p.2.fp
noncomputable def DTs {ι : Type} (M : MI) (xr : Str → Option Value) (K : PySem.W.Frag) (X : ι → Cx) (W : WX) (es : List Expr) (f : Sm M Bool) : Prop := ∃ t, (∀ j, PTs (X j) es t) ∧ Cmp M K xr W t RelB f
theorem dts_nil : DTs M xr K X W [] (fun z => .ok true z) := ⟨_, fun _ => pts_nil, fun G σ H F z Q _ _ ok h => h true H F (Same.refl _) ok rfl⟩
theorem dts_one {e : Expr} {f : Sm M Bool} (h : DT M xr K X W e f) : DTs M xr K X W [e] f := by
 obtain ⟨t, p, c⟩ := h
 exact ⟨_, fun j => pts_one (p j), c⟩
end
end G
namespace G
open PySem L2 PySem.Spec PyProof.Rows
structure RmG (k : Nat) (A : Around) : Prop where
  hd : A.handled = none
  dp : A.depth + k + 40 < recursionLimit
  un : A.units + 13 * k + 500 < cLine
theorem RmG.mono {j k : Nat} {A : Around} (r : RmG k A) (h : j ≤ k) : RmG j A := ⟨r.hd, by have := r.dp; omega, by have := r.un; omega⟩
theorem RmG.deeper {k : Nat} {A : Around} (r : RmG (k + 1) A) (env : Env) : RmG k (A.deeper env) :=
 ⟨r.hd, by have := r.dp; show A.depth + 1 + k + 40 < _; omega, by have := r.un; show A.units + 3 + 13 * k + 500 < _; omega⟩
theorem RmG.in1 {k : Nat} {A : Around} (r : RmG (k + 1) A) : RmG k A.in1 :=
 ⟨r.hd, by have := r.dp; show A.depth + k + 40 < _; omega, by have := r.un; show A.units + 1 + 13 * k + 500 < _; omega⟩
theorem RmG.make {k : Nat} {A : Around} (r : RmG (k + 1) A) (C : Addr) (us : List Value) (kw : List (Str × Value)) : RmG k (A.under (.builtin "type.__call__" ⟨.ref C :: us, kw⟩)) :=
 ⟨r.hd, by have := r.dp; rw [make_depth]; omega, by have := r.un; rw [make_units]; omega⟩
theorem RmG.depth {k : Nat} {A : Around} (r : RmG k A) : A.depth < recursionLimit := by have := r.dp; omega
theorem RmG.units {k : Nat} {A : Around} (r : RmG k A) : A.units + 64 < cLine := by have := r.un; omega
structure FnG (P : Program) (w : World) (K : PySem.W.Frag) (mg : Str → Option Value) (base : Heap) (CX : CXT) (n : Nat) (f : Addr) (fd : FuncData) (ps : List Str) (sp : Sp) : Prop where
  len : ∀ ws H Q E, sp ws H Q E → ws.length = ps.length
  run : ∀ (B : Around) (out : List Env) (s : Shared) (H : Hp) (args : Args) (us : List Value) (ws : List V) (Q : VK) (E : XK), RmG n B → B.guards = some [] → Env0 P w K mg base B out s H → BindsTo s fd args (ps.zip us) → Vals ws us → sp ws H Q E → codeAny (model P w) B (.call (.ref f) args) (CR CX out P w H s Q E) s
theorem fnG {CX : CXT} {P : Program} {w : World} {K : PySem.W.Frag} {mg : Str → Option Value} {base : Heap} {n : Nat} {f : Addr} {nm qual : Str} {pa : Arguments} {bd : List Stmt} {sc : Scope} {dV kV doc pm cdv ct oc : Value} {an od : Option Addr}
  {osl : Array (Option Value)} {N ps : List Str} {sp : Sp} (lk : K.lookup f = some ⟨oc, od, .func (PySem.W.fnOf nm qual pa bd sc dV kV doc pm an cdv ct), osl⟩) (hc : PySem.W.codeIn K cdv qual = true) (Sc : FnScope N ps sc) (len : ∀ ws H Q E, sp ws H Q E → ws.length = ps.length)
  (body : ∀ (B : Around) (out : List Env) (s : Shared) (H : Hp) (ws : List V) (Q : VK) (E : XK), RmG n (B.deeper (envOfC qual sc s.heap.objs.size f cdv)) → B.guards = some [] → sp ws H Q E → ∃ t, PSs (cxOf CX P w K mg base N qual sc f cdv B out s H E) bd t ∧ t { nx := fun _ H' => Q .non H', rt := Q } (start N ws) H) :
  FnG P w K mg base CX (n + 1) f (PySem.W.fnOf nm qual pa bd sc dV kV doc pm an cdv ct) ps sp := by
 constructor
 ·exact len
 intro B out s H args us ws Q E hr hg e0 hb rv hsp
 have inK : K.In s.heap := e0.mod.kin.keeps fun c o e => (e0.bs c o e).1
 have nl : s.heap.NoLimit := e0.mod.nolimit.keeps fun c o e => (e0.bs c o e).1
 have kinds : ∀ y ∈ ps.zip us, sc.names.lookup y.1 = some .local ∨ (sc.names.lookup y.1 = some .cell ∧ ((cellsFrom (s.heap.objs.size + 1) sc.names []).lookup y.1).isSome = true) := by
  rintro ⟨m, u⟩ hy
  rcases Sc.par m (List.of_mem_zip hy).1 with q | q
  ·exact Or.inl q
  ·exact Or.inr ⟨q, PySem.W.cellsFrom_some _ _ _ (.inl q)⟩
 apply codeAny_call_function hr.depth (inK _ _ lk) rfl Sc.co Sc.gen rfl (PySem.W.codeRec_of inK hc)
 apply hb
 apply wpAny_newFunctionEnv_cells Sc.kind kinds
 intro env he s1 x
 subst he
 refine And.intro (nl.keeps x.toInCall.keep) (codeAny_func ?_)
 obtain ⟨t, pt, ht⟩ := body B out s H ws Q E (hr.deeper _) hg hsp
 have I0 : Inv (cxOf CX P w K mg base N qual sc f cdv B out s H E) [] (start N ws) H s1 := inv_start Sc hr.hd e0 (len _ _ _ _ hsp) rv x
 refine wpAny_mono (pt.run [] s1 (start N ws) H _ I0 ht) ?_ (fun e s' hs => hs)
 intro fl s' hs
 have done : ∀ {σ1 : L2.St} {H1 : Hp} {v : V} {u : Value}, Inv (cxOf CX P w K mg base N qual sc f cdv B out s H E) [] σ1 H1 s' → RelV v u → Q v H1 → CE out P w H s Q u s' := fun {σ1 H1 v u} J r q => ⟨v, H1, J.os, J.bare, J.base, J.hok, r, q⟩
 match fl, hs with
 | .ret u, ⟨v, σ1, H1, J, r, q⟩ => exact done J r q
 | .next, ⟨σ1, H1, J, q⟩ => exact done (v := V.non) (u := Value.none) J rfl q
 | .brk, ⟨_, _, _, q⟩ => exact q.elim
 | .cont, ⟨_, _, _, q⟩ => exact q.elim
section
variable {X : Cx} {CX : CXT} {n : Nat} {f : Addr} {fd : FuncData} {ps : List Str} {sp : Sp} {dvs : List V} {ds : List Value} {E : L2.St → XK} {x : Str} {p pos : Pos} {e : Expr} {es : List Expr} {t : TA}
theorem run_fnG {pins : List (Addr × Obj)} {σ : L2.St} {H : Hp} {s : Shared} {Q : VK} {us : List Value} {ws : List V} (F : FnG X.prog X.w X.K X.mg X.base CX n f fd ps sp) (hr : RmG n X.A) (hg : X.A.guards = some []) (hb : Binds X.K fd ps ds) (hd : Vals dvs ds) (hx : PassesAt CX X σ (E σ)) (I : Inv X pins σ H s) (r : Vals ws us) (h : sp (ws ++ dvs) H Q (E σ)) :
  wpAny (model X.prog X.w) X.A (call (.ref f) us) (EP X pins σ Q) X.xe s := by
 have rr : Vals (ws ++ dvs) (us ++ ds) := r.append hd
 have ll : (us ++ ds).length = ps.length := rr.length.symm.trans (F.len _ _ _ _ h)
 apply wpAny_call
 apply codeAny_mono (F.run X.A X.stack s H ⟨us, []⟩ (us ++ ds) (ws ++ dvs) Q (E σ) hr hg I.env0 (hb s us I.kIn ll) rr h)
 intro rs s' hq
 match rs, hq with
 | .error e, hq => exact hx pins H s e s' I hq
 | .ok (.ret u), hq => exact I.after hq
 | .ok .next, hq => exact hq.elim
 | .ok .brk, hq => exact hq.elim
 | .ok .cont, hq => exact hq.elim
theorem pe_callG (F : FnG X.prog X.w X.K X.mg X.base CX n f fd ps sp) (hr : RmG n X.A) (hgu : X.A.guards = some []) (hg : Gl X x) (hm : X.mg x = some (.ref f)) (hk : PySem.W.keepIn X.K (.ref f) = true) (hb : Binds X.K fd ps ds) (hd : Vals dvs ds) (hx : ∀ σ, PassesAt CX X σ (E σ)) (ha : PA X (e :: es) t)
  (hdb : (x == ("__debug__" : Str)) = false) (he : starEach (e :: es) X.env = (false, eval e X.env) :: starEach es X.env) (hpl : (backTo pos (starEach es X.env)).any (·.1) = false) : PE X (.Call (.Name x p) (e :: es) [] pos) (fun σ H Q => t σ H fun ws H1 => sp (ws ++ dvs) H1 Q (E σ)) := by
 constructor
 intro pins s σ H Q I h
 apply wpAny_Call_Name_kw
 apply ld_glob I hg hm _ hdb
 apply PySem.W.callWith_K (h₀ := X.base) I.ok.mod.kin hk _ he hpl
 exact thn (ha.run pos pins s σ H _ I h) fun us s1 ⟨ws, H1, I1, r, q⟩ => ⟨I1.kIn, run_fnG F hr hgu hb hd (hx σ) I1 r q⟩
theorem pe_call0G (F : FnG X.prog X.w X.K X.mg X.base CX n f fd ps sp) (hr : RmG n X.A) (hgu : X.A.guards = some []) (hg : Gl X x) (hm : X.mg x = some (.ref f)) (hk : PySem.W.keepIn X.K (.ref f) = true) (hb : Binds X.K fd ps ds) (hd : Vals dvs ds) (hx : ∀ σ, PassesAt CX X σ (E σ)) (hdb : (x == ("__debug__" : Str)) = false) : PE X (.Call (.Name x p) [] [] pos) (fun σ H Q => sp dvs H Q (E σ)) := by
 constructor
 intro pins s σ H Q I h
 apply wpAny_Call_Name_kw
 apply ld_glob I hg hm _ hdb
 exact PySem.W.callWith_K0 I.kIn hk (run_fnG (us := []) (ws := []) (E := E) F hr hgu hb hd (hx σ) I .nil h)
end
end G
namespace G
open PySem L2 PySem.Spec PyProof.Rows
end G
namespace G
open PySem L2
section
variable {ι : Type} {M : MI} {xr : Str → Option Value} {K : PySem.W.Frag} {X : ι → Cx} {W : WX}
theorem de_lc {elt tg iter : Expr} {ifs : List Expr} {scope : Scope} {own : List (Str × Nat)} {pos : Pos} {ts : List Nat} {its : Sm M (List D)} {k : D → Z M.T → Option (Z M.T)} {t : Sm M Bool} {e : Sm M S} (hc : ∀ j, (X j).calm = true) (hN : ∀ j, (X j).N.Nodup) (ok : ∀ j, BlkOk (X j).N (X j).env.scope scope own)
  (hi : DI M xr K X W tg iter its) (hg : DG M K (Blk X scope) ts tg k) (ht : DTs M xr K (Blk X scope) W0 ifs t) (he : DE M xr K (Blk X scope) W0 elt e) (hv : ∀ n ∈ ts, n ∈ own.map (·.2) := by decide) (hs : ∀ j x, foldedSetIterable iter (X j).env x = pure x := by intro _ _; rfl) :
  DE M xr K X W (.ListComp elt [⟨tg, iter, ifs, 0⟩] scope pos) (eLc its k t e (own.map (·.2))) := by
 obtain ⟨wi, pi, ci⟩ := hi
 obtain ⟨g, pg, cg⟩ := hg
 obtain ⟨tt, pt, ct⟩ := ht
 obtain ⟨te, pe, ce⟩ := he
 exact ⟨_, fun j => pe_lc (hc j) (hN j) (pi j) (ok j) (fun s H C cl fp => pg (j, ⟨s, H, C, cl, fp⟩)) (fun s H C cl fp => pt (j, ⟨s, H, C, cl, fp⟩)) (fun s H C cl fp => pe (j, ⟨s, H, C, cl, fp⟩)) (hs j), cmp_lc hv ci cg ct ce⟩
theorem ds_setLc {i : Nat} {y : Str} {py : Pos} {elt tg iter : Expr} {ifs : List Expr} {scope : Scope} {own : List (Str × Nat)} {pos spos : Pos} {ts : List Nat} {its : Sm M (List D)} {k : D → Z M.T → Option (Z M.T)} {t : Sm M Bool} {e : Sm M S} (hc : ∀ j, (X j).calm = true) (hN : ∀ j, (X j).N.Nodup) (hy : ∀ j, (X j).N[i]? = some y) (hyl : ∀ j, (X j).env.scope.names.lookup y = some .local)
  (hsw : ∀ j, swapsWith (.ListComp elt [⟨tg, iter, ifs, 0⟩] scope pos) (some (.Name y py)) spos.line (X j).env = pure true) (ok : ∀ j, BlkOk (X j).N (X j).env.scope scope own)
  (hi : DI M xr K X W tg iter its) (hg : DG M K (Blk X scope) ts tg k) (ht : DTs M xr K (Blk X scope) W0 ifs t) (he : DE M xr K (Blk X scope) W0 elt e) (hv : ∀ n ∈ ts, n ∈ own.map (·.2) := by decide) (hs : ∀ j x, foldedSetIterable iter (X j).env x = pure x := by intro _ _; rfl) :
  DS M xr K X W (.Assign [.Name y py] (.ListComp elt [⟨tg, iter, ifs, 0⟩] scope pos) spos) (sSet i (eLc its k t e (own.map (·.2)))) := by
 obtain ⟨wi, pi, ci⟩ := hi
 obtain ⟨g, pg, cg⟩ := hg
 obtain ⟨tt, pt, ct⟩ := ht
 obtain ⟨te, pe, ce⟩ := he
 exact ⟨_, fun j => ps_setLc (hc j) (hN j) (hy j) (hyl j) (hsw j) (pi j) (ok j) (fun s H C cl fp => pg (j, ⟨s, H, C, cl, fp⟩)) (fun s H C cl fp => pt (j, ⟨s, H, C, cl, fp⟩)) (fun s H C cl fp => pe (j, ⟨s, H, C, cl, fp⟩)) (hs j), sr_set (cmp_lc hv ci cg ct ce)⟩
theorem Ok.setL {G : Gx} {σ : St} {H F : Hp} {z : Z M.T} (ok : Ok M G σ H F z) {i : Nat} {xs ys : List D} {a : Addr} {ws : List V} (h : z.rho[i]? = some (some (.l xs))) (ha : σ[i]? = some (some (.ref a))) (hd : DaAll G.K F ws ys) : Ok M G σ (upd H a (.lst ws)) F { z with rho := z.rho.set i (some (.l ys)) } := by
 obtain ⟨v, e, b, vs, rfl, h1, h2, h3, h4, h5⟩ := ok.slot i _ h
 rw [ha] at e
 cases e
 have hl : i < z.rho.length := (List.getElem?_eq_some_iff.mp h).1
 have old : ∀ j s, (z.rho.set i (some (S.l ys)))[j]? = some (some s) → (j = i ∧ s = .l ys) ∨ (j ≠ i ∧ z.rho[j]? = some (some s)) := fun j s q => by
  by_cases hj : j = i
  ·subst hj
   rw [List.getElem?_set_self hl] at q
   cases q
   exact .inl ⟨rfl, rfl⟩
  ·rw [List.getElem?_set_ne (Ne.symm hj)] at q
   exact .inr ⟨hj, q⟩
 refine ⟨same_updR ok.sub h3, by simp [ok.len], fun j s q => ?_, fun j k as bs v e1 e2 e3 e4 => ?_, M.mono (Same.refl F) (tgk_new h3) (fun c hc => upd_ne (fun e => h5 (e ▸ hc))) ok.mach, ok.msF, ok.msP, fun c hc => ?_, fun c o q => ?_, fun c ps e => ⟨by rw [upd_ne (ne_of_none e h3)]; exact (ok.tg c ps e).1, (ok.tg c ps e).2⟩⟩
 ·rcases old j s q with ⟨rfl, rfl⟩ | ⟨hj, q⟩
  ·exact ⟨.ref a, ha, a, ws, rfl, upd_same, hd, h3, h4, h5⟩
  ·obtain ⟨v, e1, e2⟩ := ok.slot j s q
   refine ⟨v, e1, ?_⟩
   cases s with
   | d x => exact e2
   | l as =>
    obtain ⟨c, vs', rfl, q1, q2, q3, q4, q5⟩ := e2
    have n : c ≠ a := fun e => hj (ok.dist j i as xs _ q h e1 (by rw [e]; exact ha))
    exact ⟨c, vs', rfl, (upd_ne n).trans q1, q2, q3, q4, q5⟩
   | v _ => exact e2
   | m j => exact e2
 ·have r : ∀ n cs, (z.rho.set i (some (S.l ys)))[n]? = some (some (S.l cs)) → ∃ ds, z.rho[n]? = some (some (S.l ds)) := fun n cs q => by
   rcases old n _ q with ⟨rfl, _⟩ | ⟨_, q⟩
   ·exact ⟨xs, h⟩
   ·exact ⟨_, q⟩
  obtain ⟨as', e1'⟩ := r j as e1
  obtain ⟨bs', e2'⟩ := r k bs e2
  exact ok.dist j k as' bs' v e1' e2' e3 e4
 ·show upd H a (.lst ws) c ≠ none
  have n : c ≠ a := fun e => h5 (e ▸ hc)
  rw [upd_ne n]
  exact ok.msH c hc
 ·have n : c ≠ a := fun e => by rw [e, h4] at q; cases q
  obtain ⟨q1, q2⟩ := ok.fr c o q
  exact ⟨(upd_ne n).trans q1, q2⟩
noncomputable def ownAt {T : Type} (z : Z T) (i : Nat) : Option (List D) := match z.rho[i]? with
 | some (some (.l xs)) => some xs
 | _ => none
theorem ownAt_some {T : Type} {z : Z T} {i : Nat} {xs : List D} (h : ownAt z i = some xs) : z.rho[i]? = some (some (.l xs)) := by
 unfold ownAt at h
 split at h
 ·rename_i ys e
  cases h
  exact e
 ·cases h
noncomputable def eApp (i : Nat) (g : Sm M S) (z : Z M.T) : Rs S (Z M.T) := match ownAt z i with
 | none => .bad
 | some _ => (escf g z).bind fun s z1 => match ownAt z1 i, s with
  | some xs, .d y => if xs.length < lim then .ok (.d .non) { z1 with rho := z1.rho.set i (some (.l (xs ++ [y]))) } else .bad
  | _, _ => .bad
noncomputable def eExt (i : Nat) (g : Sm M S) (z : Z M.T) : Rs S (Z M.T) := match ownAt z i with
 | none => .bad
 | some _ => (opd g z).bind fun s z1 => match ownAt z1 i, rd z1 s with
  | some xs, some (.lst ys) => if xs.length + ys.length ≤ lim then .ok (.d .non) { z1 with rho := z1.rho.set i (some (.l (xs ++ ys))) } else .bad
  | _, _ => .bad
noncomputable def ePop (i : Nat) (z : Z M.T) : Rs S (Z M.T) := match ownAt z i with
 | none => .bad
 | some xs => match xs[xs.length - 1]? with
  | some y => .ok (.d y) { z with rho := z.rho.set i (some (.l xs.dropLast)) }
  | none => .bad
theorem tyV_own {K : PySem.W.Frag} {H : Hp} {a : Addr} {xs : List V} (h : H a = some (.lst xs)) : tyV K "list" (.ref a) H := .inl ⟨rfl, _, SqL.of h⟩
theorem Ok.at {G : Gx} {σ : St} {H F : Hp} {z : Z M.T} (ok : Ok M G σ H F z) {i : Nat} {xs : List D} (h : ownAt z i = some xs) : ∃ a vs, σ[i]? = some (some (.ref a)) ∧ H a = some (.lst vs) ∧ DaAll G.K F vs xs := by
 obtain ⟨v, e, a, vs, rfl, h1, h2, _⟩ := ok.slot i _ (ownAt_some h)
 exact ⟨a, vs, e, h1, h2⟩
theorem de_append {i : Nat} {x : Str} {pn apos cpos : Pos} {e : Expr} {g : Sm M S} (hK : ∀ j, (X j).K = K) (hN : ∀ j, (X j).N[i]? = some x) (hv : ∀ j, Vis (X j).env.scope x) (hd : (x == ("__debug__" : Str)) = false) (hcd : (x == ("__classdict__" : Str)) = false) (h : DE M xr K X W e g)
  (hbase : ∀ j, attributeBase (.Name x pn) "append" (X j).env (eval (.Name x pn) (X j).env) = eval (.Name x pn) (X j).env := by intro _; rfl)
  (hfew : ∀ j, ((backTo cpos (starEach [e] (X j).env)).all (fun x => !x.1) && (backToKw cpos (keywordEach [] (X j).env)).all (fun x => x.1.isSome) && decide (([e] : List Expr).length + ([] : List Keyword).length + (if ([] : List Keyword).isEmpty then 0 else 1) < 30)) = true := by intro _; rfl)
  (hline : (apos.endLine == cpos.line) = true := by rfl) (hs : ∀ j, starEach [e] (X j).env = (false, eval e (X j).env) :: starEach [] (X j).env := by intro _; rfl) (hplain : ∀ j, (backTo cpos (starEach [] (X j).env)).any (·.1) = false := by intro _; rfl) :
  DE M xr K X W (.Call (.Attribute (.Name x pn) "append" apos) [e] [] cpos) (eApp i g) := by
 obtain ⟨t, p, c⟩ := h
 refine ⟨tBM K "list" rAppend (tVar i) (tCons t tNil), fun j => ?_, fun G σ H F z Q hGK hx ok hh => ?_⟩
 ·rw [← hK j]
  exact pe_bm PySem.F.plainAttrs_list PySem.F.slot_list_append PySem.F.type_list_append mt_append (pe_var (hN j) (hv j) hd hcd) (pa_cons (p j) pa_nil (hs j)) (hbase j) (hfew j) hline (hs j) (hplain j)
 ·unfold eApp at hh
  cases e0 : ownAt z i with
  | none => simp only [e0] at hh; exact hh.elim
  | some ys =>
   simp only [e0] at hh
   obtain ⟨a, vs, hσ, ha, _⟩ := ok.at e0
   refine ⟨.ref a, hσ, tyV_own ha, ?_⟩
   refine cmp_esc c G σ H F z _ hGK hx ok (hit_bind hh fun s z1 v H1 F1 _ sm ok1 ev h1 => ?_)
   cases e1 : ownAt z1 i with
   | none => simp only [e1] at h1; exact h1.elim
   | some xs =>
    simp only [e1] at h1
    cases s with
    | d y =>
     simp only at h1
     by_cases hl : xs.length < lim
     ·rw [if_pos hl] at h1
      obtain ⟨b, ws, hσ1, hb, hdw⟩ := ok1.at e1
      rw [hσ] at hσ1
      cases hσ1
      refine ⟨a, ws, v, rfl, rfl, hb, by rw [hdw.length]; exact Nat.lt_trans hl lim_line, ?_⟩
      exact h1 .non _ F1 (Same.refl _) (ok1.setL (ownAt_some e1) hσ (hdw.append (.cons ev .nil))) Da.non
     ·rw [if_neg hl] at h1; exact h1.elim
    | _ => exact h1.elim
theorem Rv.lst {K : PySem.W.Frag} {F H : Hp} (s : SameX F H) {v : V} {xs : List D} (h : Rv K F H v (.lst xs)) : ∃ a vs, v = .ref a ∧ H a = some (.lst vs) ∧ DaAll K F vs xs := by
 rcases h with h | ⟨a, vs, ys, rfl, e, h1, h2⟩
 ·cases h with
  | lst q r => exact ⟨_, _, rfl, s.lst q, r⟩
 ·cases e
  exact ⟨a, vs, rfl, h1, h2⟩
noncomputable def AV (K : PySem.W.Frag) (F : Hp) (ms : List Addr) (v : V) : S → Prop
 | .d x => Da K F v x
 | .m j => ∃ a, ms[j]? = some a ∧ v = .ref a
 | _ => False
structure RetC (M : MI) (K : PySem.W.Frag) (ms : List Addr) (H F H' F' : Hp) (t : M.T) : Prop where
  sub : SameX F' H'
  mach : M.ok K F' H' ms t
  msx : ∀ a ∈ ms, F' a = none ∧ H' a ≠ none
  fr : ∀ b o, H b = some o → b ∉ ms → (∀ ps, F b ≠ some (.tbl ps)) → H' b = some o ∧ F' b = F b
  tg : ∀ a ps, F' a = some (.tbl ps) → H' a ≠ none ∧ (F a = some (.tbl ps) ∨ H a = none)
noncomputable def RetV (K : PySem.W.Frag) (ms : List Addr) (H H' F' : Hp) (v : V) : S → Prop
 | .d x => Da K F' v x
 | .l xs => ∃ a vs, v = .ref a ∧ H' a = some (.lst vs) ∧ DaAll K F' vs xs ∧ F' a = none ∧ H a = none ∧ a ∉ ms
 | .m j => ∃ a, ms[j]? = some a ∧ v = .ref a
 | .v _ => False
noncomputable def spM (M : MI) (K : PySem.W.Frag) (xr : Str → Option Value) (n : Nat) (mir : List S → M.T → Rs S M.T) : Sp := fun vs H Q E => vs.length = n ∧ ∃ (ms : List Addr) (F : Hp) (args : List S) (t : M.T), SameX F H ∧ M.ok K F H ms t ∧ (∀ a ∈ ms, F a = none ∧ H a ≠ none) ∧ (∀ a ps, F a = some (.tbl ps) → H a ≠ none) ∧ Paired (AV K F ms) vs args ∧
 match mir args t with
 | .ok s t' => ∀ v H' F', Same F F' → RetC M K ms H F H' F' t' → RetV K ms H H' F' v s → Q v H'
 | .ex x t' => ∀ cls d H' F', Same F F' → RetC M K ms H F H' F' t' → XOk ⟨K, xr, ms, H, F⟩ F' H' x cls d → E cls d H'
 | .bad => False
noncomputable def okArg : S → Bool
 | .d _ => true
 | .m _ => true
 | _ => false
noncomputable def eCall (c : List S → M.T → Rs S M.T) (g : Sm M (List S)) (z : Z M.T) : Rs S (Z M.T) := (g z).bind fun ss z1 => if ss.all okArg = true then (match c ss z1.m with
 | .ok s t => .ok s { z1 with m := t }
 | .ex x t => .ex x { z1 with m := t }
 | .bad => .bad) else .bad
theorem paired_av {G : Gx} {σ : St} {F : Hp} : ∀ {vs : List V} {ss : List S}, Paired (fun v s => EO G σ F v s) vs ss → ss.all okArg = true → Paired (AV G.K F G.ms) vs ss
 | _, _, .nil, _ => .nil
 | _, s :: ss, .cons a b, h => by
  rw [List.all_cons, Bool.and_eq_true] at h
  refine .cons ?_ (paired_av b h.2)
  cases s with
  | d x => exact a
  | m j => exact a
  | l _ => cases h.1
  | v _ => cases h.1
theorem Ok.call {G : Gx} {σ : St} {H H' F F' : Hp} {z : Z M.T} {t : M.T} (ok : Ok M G σ H F z) (sm : Same F F') (r : RetC M G.K G.ms H F H' F' t) : Ok M G σ H' F' { z with m := t } where
 sub := r.sub
 len := ok.len
 slot := fun i s e => by
  obtain ⟨v, h1, h2⟩ := ok.slot i s e
  refine ⟨v, h1, ?_⟩
  cases s with
  | d x => exact Da.mono sm h2
  | l xs =>
   obtain ⟨a, vs, rfl, h3, h4, h5, h6, h7⟩ := h2
   obtain ⟨q1, q2⟩ := r.fr a _ h3 h7 (fun ps e => by rw [h5] at e; cases e)
   exact ⟨a, vs, rfl, q1, h4.mono sm, q2.trans h5, h6, h7⟩
  | v _ => exact h2
  | m j => exact h2
 dist := ok.dist
 mach := r.mach
 msF := fun a ha => (r.msx a ha).1
 msP := ok.msP
 msH := fun a ha => (r.msx a ha).2
 fr := fun b o q => by
  obtain ⟨h1, h2⟩ := ok.fr b o q
  have n : b ∉ G.ms := fun hb => by rw [ok.msP b hb] at q; cases q
  obtain ⟨h3, h4⟩ := r.fr b o h1 n (fun ps e => by rw [(ok.tg b ps e).2] at q; cases q)
  exact ⟨h3, h4.trans h2⟩
 tg := fun a ps e => by
  obtain ⟨h1, h2⟩ := r.tg a ps e
  refine ⟨h1, ?_⟩
  rcases h2 with h2 | h2
  ·exact (ok.tg a ps h2).2
  ·exact ok.freshP h2
theorem cmp_call {n : Nat} {t : TA} {g : Sm M (List S)} {c : List S → M.T → Rs S M.T} (cg : Cmp M K xr W t RelA g) (hn : ∀ z ss z1, g z = .ok ss z1 → ss.length = n) : Cmp M K xr W (tCallS (spM M K xr n c) (WE W) t) RelE (eCall c g) := by
 intro G σ H F z Q hK hx ok hh
 refine cg G σ H F z _ hK hx ok (hit_bind hh fun ss z1 vs H1 F1 eg sm ok1 ea h1 => ?_)
 by_cases hd : ss.all okArg = true
 ·rw [if_pos hd] at h1
  have hv := paired_av ea hd
  refine ⟨hv.length.trans (hn z ss z1 eg), G.ms, F1, ss, z1.m, ok1.sub, by rw [← hK]; exact ok1.mach, fun a ha => ⟨ok1.msF a ha, ok1.msH a ha⟩, fun a ps e => (ok1.tg a ps e).1, by rw [← hK]; exact hv, ?_⟩
  subst hK hx
  cases e : c ss z1.m with
  | bad => rw [e] at h1; exact h1
  | ex x t' =>
   rw [e] at h1
   exact fun cls d H' F' s' r xo => h1 cls d H' F' s' (ok1.call s' r) xo
  | ok s t' =>
   rw [e] at h1
   intro v H' F' s' r rv
   refine h1 v H' F' s' (ok1.call s' r) ?_
   cases s with
   | d x => exact rv
   | m j => exact rv
   | v _ => exact rv.elim
   | l xs =>
    obtain ⟨a, us, rfl, q1, q2, q3, q4, q5⟩ := rv
    have hP : G.P a = none := ok1.freshP q4
    refine ⟨a, us, rfl, q1, q2, q3, hP, q5, fun ⟨i, ys, o1, o2⟩ => ?_⟩
    exact ok1.freshO q4 ⟨i, ys, o1, o2⟩
 ·rw [if_neg hd] at h1; exact h1.elim
theorem len_nil {z : Z M.T} {ss : List S} {z1 : Z M.T} (h : (aNil : Sm M (List S)) z = .ok ss z1) : ss.length = 0 := by
 cases h
 rfl
theorem len_cons {f : Sm M S} {g : Sm M (List S)} {n : Nat} (hg : ∀ z ss z1, g z = .ok ss z1 → ss.length = n) : ∀ z ss z1, aCons f g z = .ok ss z1 → ss.length = n + 1 := fun z ss z1 h => by
 unfold aCons at h
 cases e : f z with
 | bad => rw [e] at h; cases h
 | ex x zz => rw [e] at h; cases h
 | ok s z2 =>
  rw [e] at h
  simp only [Rs.bind_ok, kA] at h
  cases e2 : g z2 with
  | bad => rw [e2] at h; cases h
  | ex x zz => rw [e2] at h; cases h
  | ok ss' z3 =>
   rw [e2] at h
   cases h
   rw [List.length_cons, hg z2 ss' _ e2]
theorem pe_callF {X : Cx} {CX : CXT} {n : Nat} {f : Addr} {fd : FuncData} {ps : List Str} {sp : Sp} {E : St → XK} {x : Str} {p pos : Pos} {e : Expr} {es : List Expr} {t : TA} (F : FnG X.prog X.w X.K X.mg X.base CX n f fd ps sp) (hr : RmG n X.A) (hgu : X.A.guards = some []) (hg : Gl X x) (hm : X.mg x = some (.ref f)) (hk : PySem.W.keepIn X.K (.ref f) = true) (hb : Binds X.K fd ps []) (hx : ∀ σ, PassesAt CX X σ (E σ)) (ha : PA X (e :: es) t)
  (hdb : (x == ("__debug__" : Str)) = false) (he : starEach (e :: es) X.env = (false, eval e X.env) :: starEach es X.env) (hpl : (backTo pos (starEach es X.env)).any (·.1) = false) : PE X (.Call (.Name x p) (e :: es) [] pos) (tCallS sp E t) := by
 have q := pe_callG (p := p) F hr hgu hg hm hk hb .nil hx ha hdb he hpl
 simp only [List.append_nil] at q
 exact q
theorem de_call {CX : CXT} {n k : Nat} {x : Str} {f : Addr} {fd : FuncData} {ps : List Str} {e : Expr} {es : List Expr} {g : Sm M (List S)} {c : List S → M.T → Rs S M.T} {p pos : Pos} (hF : ∀ j, FnG (X j).prog (X j).w (X j).K (X j).mg (X j).base CX k f fd ps (spM M K xr n c)) (hr : ∀ j, RmG k (X j).A) (hgu : ∀ j, (X j).A.guards = some []) (hg : ∀ j, Gl (X j) x)
  (hm : ∀ j, (X j).mg x = some (.ref f)) (hk : ∀ j, PySem.W.keepIn (X j).K (.ref f) = true) (hb : ∀ j, Binds (X j).K fd ps []) (hx : ∀ j σ, PassesAt CX (X j) σ (WE W σ)) (ha : DA M xr K X W (e :: es) g) (hn : ∀ z ss z1, g z = .ok ss z1 → ss.length = n)
  (hdb : (x == ("__debug__" : Str)) = false := by decide) (he : ∀ j, starEach (e :: es) (X j).env = (false, eval e (X j).env) :: starEach es (X j).env := by intro _; rfl) (hpl : ∀ j, (backTo pos (starEach es (X j).env)).any (·.1) = false := by intro _; rfl) :
  DE M xr K X W (.Call (.Name x p) (e :: es) [] pos) (eCall c g) := by
 obtain ⟨t, pa, ca⟩ := ha
 exact ⟨_, fun j => pe_callF (hF j) (hr j) (hgu j) (hg j) (hm j) (hk j) (hb j) (hx j) (pa j) hdb (he j) (hpl j), cmp_call ca hn⟩
noncomputable def aDef (dd : List D) (g : Sm M (List S)) (z : Z M.T) : Rs (List S) (Z M.T) := (g z).bind fun ss z1 => .ok (ss ++ dd.map S.d) z1
theorem de_call0 {CX : CXT} {k : Nat} {x : Str} {f : Addr} {fd : FuncData} {ps : List Str} {c : List S → M.T → Rs S M.T} {p pos : Pos} (hF : ∀ j, FnG (X j).prog (X j).w (X j).K (X j).mg (X j).base CX k f fd ps (spM M K xr 0 c)) (hr : ∀ j, RmG k (X j).A) (hgu : ∀ j, (X j).A.guards = some []) (hg : ∀ j, Gl (X j) x)
  (hm : ∀ j, (X j).mg x = some (.ref f)) (hk : ∀ j, PySem.W.keepIn (X j).K (.ref f) = true) (hb : ∀ j, Binds (X j).K fd ps []) (hx : ∀ j σ, PassesAt CX (X j) σ (WE W σ))
  (hdb : (x == ("__debug__" : Str)) = false := by decide) :
  DE M xr K X W (.Call (.Name x p) [] [] pos) (eCall c aNil) := by
 refine ⟨tCallS (spM M K xr 0 c) (WE W) tNil, fun j => ?_, cmp_call (fun G σ H F z Q _ _ ok h => h [] H F (Same.refl _) ok .nil) (fun _ _ _ h => len_nil h)⟩
 exact pe_call0G (hF j) (hr j) (hgu j) (hg j) (hm j) (hk j) (hb j) .nil (hx j) hdb
end
noncomputable def fnM {M : MI} (n : Nat) (b : Sm M Out) : List S → M.T → Rs S M.T := fun args t => match b { rho := args.map some ++ List.replicate (n - args.length) none, m := t } with
 | .ok (.rt s) z => .ok s z.m
 | .ok .nx z => .ok (.d .non) z.m
 | .ok _ _ => .bad
 | .ex x z => .ex x z.m
 | .bad => .bad
theorem paired_get {α β : Type} {R : α → β → Prop} : ∀ {as : List α} {bs : List β} {i : Nat} {b : β}, Paired R as bs → bs[i]? = some b → ∃ a, as[i]? = some a ∧ R a b
 | _, _, _, _, .nil, e => by simp at e
 | _, _, 0, _, .cons r _, e => by simp at e; subst e; exact ⟨_, rfl, r⟩
 | _, _, i + 1, _, .cons _ t, e => by
  obtain ⟨a, h1, h2⟩ := paired_get (i := i) t (by simpa using e)
  exact ⟨a, by simpa using h1, h2⟩
open Classical in
noncomputable def prP (ms : List Addr) (H F : Hp) : Hp := fun b => if b ∈ ms ∨ ∃ ps, F b = some (.tbl ps) then none else H b
theorem prP_in {ms : List Addr} {H F : Hp} {b : Addr} (h : b ∈ ms ∨ ∃ ps, F b = some (.tbl ps)) : prP ms H F b = none := if_pos h
theorem prP_out {ms : List Addr} {H F : Hp} {b : Addr} (h : ¬ (b ∈ ms ∨ ∃ ps, F b = some (.tbl ps))) : prP ms H F b = H b := if_neg h
theorem prP_of {ms : List Addr} {H F : Hp} {b : Addr} {o : HO} (h : prP ms H F b = some o) : ¬ (b ∈ ms ∨ ∃ ps, F b = some (.tbl ps)) ∧ H b = some o := by
 by_cases q : b ∈ ms ∨ ∃ ps, F b = some (.tbl ps)
 ·rw [prP_in q] at h; cases h
 ·rw [prP_out q] at h; exact ⟨q, h⟩
theorem start_ok {M : MI} {K : PySem.W.Frag} {xr : Str → Option Value} {N : List Str} {vs : List V} {H F : Hp} {ms : List Addr} {args : List S} {t : M.T} (sub : SameX F H) (mach : M.ok K F H ms t) (msx : ∀ a ∈ ms, F a = none ∧ H a ≠ none) (tgx : ∀ a ps, F a = some (.tbl ps) → H a ≠ none) (hv : Paired (AV K F ms) vs args) :
  Ok M ⟨K, xr, ms, prP ms H F, F⟩ (L2.start N vs) H F { rho := args.map some ++ List.replicate (N.length - args.length) none, m := t } := by
 have hl : vs.length = args.length := hv.length
 have key : ∀ (i : Nat) (s : S), (args.map some ++ List.replicate (N.length - args.length) none)[i]? = some (some s) → args[i]? = some s := fun i s e => by
  by_cases h : i < args.length
  ·rw [List.getElem?_append_left (by simpa using h), List.getElem?_map] at e
   cases q : args[i]? with
   | none => rw [q] at e; cases e
   | some s' => rw [q] at e; cases e; rfl
  ·rw [List.getElem?_append_right (by simpa using h), List.getElem?_replicate] at e
   split at e
   ·cases e
   ·cases e
 refine ⟨sub, ?_, fun i s e => ?_, fun i j xs ys v e1 _ _ _ => ?_, mach, fun a ha => (msx a ha).1, fun a ha => prP_in (.inl ha), fun a ha => (msx a ha).2, fun b o q => ⟨(prP_of q).2, rfl⟩, fun a ps e => ⟨tgx a ps e, prP_in (.inr ⟨ps, e⟩)⟩⟩
 ·unfold L2.start
  simp [hl]
 ·obtain ⟨v, h1, h2⟩ := paired_get hv (key i s e)
  refine ⟨v, ?_, ?_⟩
  ·unfold L2.start
   have hi : i < vs.length := (List.getElem?_eq_some_iff.mp h1).1
   rw [List.getElem?_append_left (by simpa using hi), List.getElem?_map, h1]
   rfl
  ·cases s with
   | d x => exact h2
   | l xs => exact h2.elim
   | v _ => exact h2.elim
   | m j => exact h2
 ·obtain ⟨v, h1, h2⟩ := paired_get hv (key i _ e1)
  exact h2.elim
theorem fr_out {M : MI} {K : PySem.W.Frag} {xr : Str → Option Value} {ms : List Addr} {H F H' F' : Hp} (h : ∀ b o, (⟨K, xr, ms, prP ms H F, F⟩ : Gx).P b = some o → H' b = some o ∧ F' b = F b) : ∀ b o, H b = some o → b ∉ ms → (∀ ps, F b ≠ some (.tbl ps)) → H' b = some o ∧ F' b = F b := fun b o q n n2 => h b o (by show prP ms H F b = some o; rw [prP_out (fun e => e.elim n fun ⟨ps, e⟩ => n2 ps e)]; exact q)
theorem tg_out {M : MI} {K : PySem.W.Frag} {xr : Str → Option Value} {ms : List Addr} {H F H' F' : Hp} (sm : Same F F') (msx : ∀ a ∈ ms, F' a = none) (h : ∀ a ps, F' a = some (.tbl ps) → H' a ≠ none ∧ (⟨K, xr, ms, prP ms H F, F⟩ : Gx).P a = none) : ∀ a ps, F' a = some (.tbl ps) → H' a ≠ none ∧ (F a = some (.tbl ps) ∨ H a = none) := fun a ps e => by
 obtain ⟨h1, h2⟩ := h a ps e
 refine ⟨h1, ?_⟩
 have h2' : prP ms H F a = none := h2
 by_cases q : a ∈ ms ∨ ∃ ps, F a = some (.tbl ps)
 ·rcases q with q | ⟨ps', q⟩
  ·rw [msx a q] at e; cases e
  ·have := sm a _ q
   rw [e] at this
   cases this
   exact .inl q
 ·rw [prP_out q] at h2'
  exact .inr h2'
theorem okMC {M : MI} {P : Program} {w : World} {K : PySem.W.Frag} {mg : Str → Option Value} {base : Heap} {xr : Str → Option Value} {x qual : Str} {st : Stmt} {f : Addr} {fd : FuncData} {dvs : List V} {N ps : List Str} {k : Nat} {b : Sm M Out} (Fn : FunD K x qual (defArgs st) (defBody st) (defScope st) dvs [] f fd) (Sc : FnScope N ps (defScope st))
  (hb : ∀ (cdv : Value), fd.code = cdv → ∀ (A : Around) (outer : List Env) (s : Shared) (H : Hp) (E : XK), RmG k (A.deeper (PyProof.Rows.envOfC qual (defScope st) s.heap.objs.size f cdv)) → A.guards = some [] →
   DSs M xr K (fun _ : Unit => cxOf (L2.CX P w) P w K mg base N qual (defScope st) f cdv A outer s H E) (fun cls d _ H => E cls d H) (defBody st) b) :
  FnG P w K mg base (L2.CX P w) (k + 1) f fd ps (spM M K xr ps.length (fnM N.length b)) := by
 obtain ⟨oc, od, dV, kV, doc, pm, an, cdv, ct, osl, rfl, lk, hcd, _, _⟩ := Fn.ex
 refine fnG lk hcd Sc (fun vs H Q E h => h.1) (fun A outer s H vs Q E hr hgu h => ?_)
 obtain ⟨hl, ms, F, args, t, sub, mach, msx, tgx, hv, h⟩ := h
 obtain ⟨tb, p, c⟩   := hb cdv rfl A outer s H E hr hgu
 refine ⟨tb, p (), ?_⟩
 have ok := start_ok (xr := xr) (N := N) sub mach msx tgx hv
 refine c _ _ H F _ _ rfl rfl ok ?_
 unfold fnM at h
 cases e : b { rho := args.map some ++ List.replicate (N.length - args.length) none, m := t } with
 | bad => rw [e] at h; exact h
 | ex x z =>
  rw [e] at h
  exact fun cls d σ H' F' s' ok' xo => h cls d H' F' s' ⟨ok'.sub, ok'.mach, fun a ha => ⟨ok'.msF a ha, ok'.msH a ha⟩, fr_out (M := M) ok'.fr, tg_out (M := M) s' ok'.msF ok'.tg⟩ xo
 | ok o z =>
  rw [e] at h
  cases o with
  | bk => exact h.elim
  | ct => exact h.elim
  | nx => exact fun σ H' F' s' ok' => h .non H' F' s' ⟨ok'.sub, ok'.mach, fun a ha => ⟨ok'.msF a ha, ok'.msH a ha⟩, fr_out (M := M) ok'.fr, tg_out (M := M) s' ok'.msF ok'.tg⟩ Da.non
  | rt q =>
   intro v H' F' s' r
   refine h v H' F' s' ⟨r.sub, r.mach, fun a ha => ⟨r.msF a ha, r.msH a ha⟩, fr_out (M := M) r.fr, tg_out (M := M) s' r.msF r.tg⟩ ?_
   have val := r.val
   cases q with
   | d x => exact val
   | m j => exact val
   | v _ => exact val.elim
   | l xs =>
    obtain ⟨a, vs', rfl, q1, q2, q3, q4, q5⟩ := val
    have q4' : prP ms H F a = none := q4
    have q5' : a ∉ ms := q5
    rw [prP_out (fun e => e.elim q5' fun ⟨ps, e⟩ => by have := s' a _ e; rw [q3] at this; cases this)] at q4'
    exact ⟨a, vs', rfl, q1, q2, q3, q4', q5'⟩
theorem okM {M : MI} {P : Program} {w : World} {K : PySem.W.Frag} {mg : Str → Option Value} {base : Heap} {xr : Str → Option Value} {x qual : Str} {st : Stmt} {f : Addr} {fd : FuncData} {dvs : List V} {N ps : List Str} {k : Nat} {b : Sm M Out} (Fn : FunD K x qual (defArgs st) (defBody st) (defScope st) dvs [] f fd) (Sc : FnScope N ps (defScope st))
  (hb : ∀ (cdv : Value) (A : Around) (outer : List Env) (s : Shared) (H : Hp) (E : XK), RmG k (A.deeper (PyProof.Rows.envOfC qual (defScope st) s.heap.objs.size f cdv)) → A.guards = some [] →
   DSs M xr K (fun _ : Unit => cxOf (L2.CX P w) P w K mg base N qual (defScope st) f cdv A outer s H E) (fun cls d _ H => E cls d H) (defBody st) b) :
  FnG P w K mg base (L2.CX P w) (k + 1) f fd ps (spM M K xr ps.length (fnM N.length b)) := okMC Fn Sc fun cdv _ => hb cdv
end G
namespace G
open PySem L2
section
variable {K : PySem.W.Frag} {F H : Hp} {v : V}
theorem Rv.da {x : D} (h : Rv K F H v x) (hn : ∀ xs, x ≠ .lst xs) : Da K F v x := by
 rcases h with h | ⟨a, vs, xs, _, e, _⟩
 ·exact h
 ·exact (hn xs e).elim
theorem Rv.int {i : Int} (h : Rv K F H v (.int i)) : v = .int i := by cases h.da (fun _ e => by cases e); rfl
theorem Rv.str {i : Str} (h : Rv K F H v (.str i)) : v = .str i := by cases h.da (fun _ e => by cases e); rfl
theorem Rv.bl {i : Bool} (h : Rv K F H v (.bl i)) : v = .bl i := by cases h.da (fun _ e => by cases e); rfl
theorem Rv.non (h : Rv K F H v .non) : v = .non := by cases h.da (fun _ e => by cases e); rfl
theorem Rv.tup (s : SameX F H) {xs : List D} (h : Rv K F H v (.tup xs)) : ∃ a vs, v = .ref a ∧ SqT K H a vs ∧ DaAll K F vs xs := by
 cases h.da (fun _ e => by cases e) with
 | tup q r => exact ⟨_, _, rfl, s.tup q, r⟩
theorem Rv.scr (s : SameX F H) {ns : List Int} (h : Rv K F H v (.scr ns)) : ∃ a, v = .ref a ∧ SqL K H a (ns.map V.int) := by
 cases h.da (fun _ e => by cases e) with
 | scr q => exact ⟨_, rfl, s.seq q⟩
theorem Rv.emp (s : SameX F H) (h : Rv K F H v .emp) : ∃ a, v = .ref a ∧ H a = some (.dK []) := by
 cases h.da (fun _ e => by cases e) with
 | emp q => exact ⟨_, rfl, s.emp q⟩
end
noncomputable def dI (C : Int → Int → Bool) (g : Int → Int → D) : D → D → Option R := fun a b => match a, b with
 | .int i, .int j => if C i j = true then some (.d (g i j)) else none
 | _, _ => none
theorem op2_I {K : PySem.W.Frag} {Cp : Int → Int → Prop} {C : Int → Int → Bool} {g : Int → Int → V} {g' : Int → Int → D} (hC : ∀ i j, C i j = true → Cp i j) (hg : ∀ F i j, Da K F (g i j) (g' i j)) : Op2 K (rI Cp g) (dI C g') := by
 intro F H x y a b Q s ha hb h
 cases a with
 | int i =>
  cases b with
  | int j =>
   unfold dI at h
   by_cases hc : C i j = true
   ·simp only [if_pos hc] at h
    exact ⟨i, j, ha.int, hb.int, hC i j hc, h _ (hg F i j)⟩
   ·simp only [if_neg hc] at h
    exact h.elim
  | _ => exact h.elim
 | _ => exact h.elim
theorem op2_I0 {K : PySem.W.Frag} {g : Int → Int → V} {g' : Int → Int → D} (hg : ∀ F i j, Da K F (g i j) (g' i j)) : Op2 K (rI0 g) (dI (fun _ _ => true) g') := by
 intro F H x y a b Q s ha hb h
 cases a with
 | int i =>
  cases b with
  | int j => exact ⟨i, j, ha.int, hb.int, h _ (hg F i j)⟩
  | _ => exact h.elim
 | _ => exact h.elim
noncomputable def dSub := dI (fun _ _ => true) fun i j => .int (i - j)
noncomputable def dMul := dI (fun i j => decide ((-(2 ^ 64) < i ∧ i < 2 ^ 64) ∨ (-(2 ^ 64) < j ∧ j < 2 ^ 64))) fun i j => .int (i * j)
noncomputable def dFdiv := dI (fun _ j => decide (0 < j ∧ j < 1073741824)) fun i j => .int (i / j)
noncomputable def dMod := dI (fun _ j => decide (0 < j)) fun i j => .int (i % j)
noncomputable def dPow := dI (fun i j => decide (0 ≤ j ∧ j ≤ 1000000 ∧ i.natAbs < 2 ^ 64)) fun i j => .int (i ^ j.toNat)
noncomputable def dLt := dI (fun _ _ => true) fun i j => .bl (decide (i < j))
noncomputable def dLe := dI (fun _ _ => true) fun i j => .bl (decide (i ≤ j))
noncomputable def dGt := dI (fun _ _ => true) fun i j => .bl (decide (j < i))
noncomputable def dGe := dI (fun _ _ => true) fun i j => .bl (decide (j ≤ i))
noncomputable def dNeg : D → Option R := fun a => match a with
 | .int i => some (.d (.int (-i)))
 | _ => none
noncomputable def dAdd : D → D → Option R := fun a b => match a, b with
 | .int i, .int j => some (.d (.int (i + j)))
 | .str x, .str y => if x.length + y.length ≤ lim then some (.d (.str (x ++ y))) else none
 | .lst xs, .lst ys => if xs.length + ys.length ≤ lim then some (.l (xs ++ ys)) else none
 | .tup xs, .tup ys => if xs.length + ys.length ≤ lim then some (.t (xs ++ ys)) else none
 | _, _ => none
theorem limLe {n : Nat} (h : n ≤ lim) : n ≤ sizeLine := Nat.le_trans h (Nat.le_of_lt lim_line)
noncomputable def rAddAll (K : PySem.W.Frag) : R2 := fun x y H Q => (rI0 fun i j => .int (i + j)) x y H Q ∨ (∃ i j, x = .str i ∧ y = .str j ∧ i.length + j.length ≤ sizeLine ∧ Q (.str (i ++ j)) H) ∨ rCat x y H Q ∨ rCatA K x y H Q
theorem opAdd {X : Cx} : OpR X (binaryOp .Add) (rAddAll X.K) := op_add.or (op_add_str.or (op_cat.or op_catA))
theorem op2_add {K : PySem.W.Frag} : Op2 K (rAddAll K) dAdd := by
 intro F H x y a b Q s ha hb h
 unfold dAdd at h
 split at h
 ·exact .inl ⟨_, _, ha.int, hb.int, h _ (.int _)⟩
 ·rename_i i j
  by_cases hl : i.length + j.length ≤ lim
  ·rw [if_pos hl] at h
   exact .inr (.inl ⟨_, _, ha.str, hb.str, limLe hl, h _ (.str _)⟩)
  ·rw [if_neg hl] at h; exact h.elim
 ·rename_i xs ys
  by_cases hl : xs.length + ys.length ≤ lim
  ·rw [if_pos hl] at h
   obtain ⟨a, vs, rfl, h1, h2⟩ := ha.lst s
   obtain ⟨b, ws, rfl, h3, h4⟩ := hb.lst s
   exact .inr (.inr (.inl ⟨a, b, vs, ws, rfl, rfl, h1, h3, by rw [h2.length, h4.length]; exact limLe hl, fun p hp => h p _ hp (h2.append h4)⟩))
  ·rw [if_neg hl] at h; exact h.elim
 ·rename_i xs ys
  by_cases hl : xs.length + ys.length ≤ lim
  ·rw [if_pos hl] at h
   obtain ⟨a, vs, rfl, h1, h2⟩ := ha.tup s
   obtain ⟨b, ws, rfl, h3, h4⟩ := hb.tup s
   refine .inr (.inr (.inr ⟨a, b, vs, ws, rfl, rfl, h1, h3, by rw [h2.length, h4.length]; exact limLe hl, fun e => ?_, fun _ e => ?_, fun _ _ p hp => h.2 p _ hp (h2.append h4)⟩))
   ·subst e
    cases h2
    exact h.1 _ (hb.da (fun _ e => by cases e))
   ·subst e
    cases h4
    rw [List.append_nil] at h
    exact h.1 _ (ha.da (fun _ e => by cases e))
  ·rw [if_neg hl] at h; exact h.elim
 ·exact h.elim
mutual
noncomputable def toPy : D → PyData
 | .non => .none
 | .bl b => .bool b
 | .int i => .int i
 | .str x => .str x
 | .tup xs => .tuple (toPys xs)
 | .lst xs => .list (toPys xs)
 | .scr ns => .list (ns.map PyData.int)
 | .emp => .str ⟨#[4294967295]⟩
 | .exc _ _ => .str ⟨#[4294967295]⟩
 | .o _ => .str ⟨#[4294967295]⟩
noncomputable def toPys : List D → List PyData
 | [] => []
 | x :: r => toPy x :: toPys r
end
theorem dp_ints {K : PySem.W.Frag} {H : Hp} : ∀ ns : List Int, DpAll K H (ns.map V.int) (ns.map PyData.int)
 | [] => .nil
 | n :: r => .cons (.int n) (dp_ints r)
mutual
noncomputable def lay : D → Bool
 | .str x => PyData.strOk x
 | .tup xs => lays xs
 | .lst xs => lays xs
 | .emp => false
 | .exc _ _ => false
 | .o _ => false
 | _ => true
noncomputable def lays : List D → Bool
 | [] => true
 | x :: r => lay x && lays r
end
mutual
theorem Da.dp {K : PySem.W.Frag} {F H : Hp} (s : SameX F H) : ∀ {v : V} {d : D}, Da K F v d → lay d = true → Dp K H v (toPy d)
 | _, _, .non, _ => .non
 | _, _, .bl b, _ => .bl b
 | _, _, .int i, _ => .int i
 | _, _, .str x, _ => .str x
 | _, _, .tup q r, l => .tup (s.tup q) (DaAll.dp s r (by rwa [lay] at l))
 | _, _, .lst q r, l => .lst (SqL.of (s.lst q)) (DaAll.dp s r (by rwa [lay] at l))
 | _, _, .scr q, _ => .lst (s.seq q) (dp_ints _)
 | _, _, .emp q, l => by rw [lay] at l; cases l
 | _, _, .exc _ _, l => by rw [lay] at l; cases l
 | _, _, .o _, l => by rw [lay] at l; cases l
theorem DaAll.dp {K : PySem.W.Frag} {F H : Hp} (s : SameX F H) : ∀ {vs : List V} {ds : List D}, DaAll K F vs ds → lays ds = true → DpAll K H vs (toPys ds)
 | _, _, .nil, _ => .nil
 | _, _, .cons a b, l => by
  rw [lays, Bool.and_eq_true] at l
  exact .cons (Da.dp s a l.1) (DaAll.dp s b l.2)
end
theorem Rv.dp {K : PySem.W.Frag} {F H : Hp} (s : SameX F H) {v : V} {d : D} (h : Rv K F H v d) (l : lay d = true) : Dp K H v (toPy d) := by
 rcases h with h | ⟨a, vs, xs, rfl, rfl, h1, h2⟩
 ·exact h.dp s l
 ·exact .lst (SqL.of h1) (h2.dp s (by rwa [lay] at l))
mutual
noncomputable def dep : D → Nat
 | .tup xs => deps xs + 1
 | .lst xs => deps xs + 1
 | .scr _ => 1
 | _ => 0
noncomputable def deps : List D → Nat
 | [] => 0
 | x :: r => max (dep x) (deps r)
end
theorem lay_ints : ∀ ns : List Int, PyData.canLayAll0 (ns.map PyData.int) = true
 | [] => rfl
 | n :: r => by rw [List.map_cons, PyData.canLayAll0, lay_ints r, PyData.canLay0]; rfl
theorem dep_ints : ∀ ns : List Int, PyData.depthAll (ns.map PyData.int) = 0
 | [] => rfl
 | n :: r => by rw [List.map_cons, PyData.depthAll, dep_ints r, PyData.depth]; rfl
mutual
theorem canLay_toPy : ∀ d : D, (toPy d).canLay0 = lay d
 | .non => by simp [toPy, lay, PyData.canLay0]
 | .bl _ => by simp [toPy, lay, PyData.canLay0]
 | .int _ => by simp [toPy, lay, PyData.canLay0]
 | .str _ => by simp [toPy, lay, PyData.canLay0]
 | .tup xs => by rw [toPy, lay, PyData.canLay0, canLays_toPy xs]
 | .lst xs => by rw [toPy, lay, PyData.canLay0, canLays_toPy xs]
 | .scr ns => by rw [toPy, lay, PyData.canLay0, lay_ints]; all_goals (intros; simp_all)
 | .emp => by rw [toPy, lay, PyData.canLay0]; decide +kernel
 | .exc _ _ => by rw [toPy, lay, PyData.canLay0]; decide +kernel
 | .o _ => by rw [toPy, lay, PyData.canLay0]; decide +kernel
theorem canLays_toPy : ∀ ds : List D, PyData.canLayAll0 (toPys ds) = lays ds
 | [] => by simp [toPys, lays, PyData.canLayAll0]
 | d :: r => by rw [toPys, lays, PyData.canLayAll0, canLay_toPy d, canLays_toPy r]
end
mutual
theorem depth_toPy : ∀ d : D, (toPy d).depth = dep d
 | .non => by simp [toPy, dep, PyData.depth]
 | .bl _ => by simp [toPy, dep, PyData.depth]
 | .int _ => by simp [toPy, dep, PyData.depth]
 | .str _ => by simp [toPy, dep, PyData.depth]
 | .tup xs => by rw [toPy, dep, PyData.depth, depths_toPy xs]
 | .lst xs => by rw [toPy, dep, PyData.depth, depths_toPy xs]
 | .scr ns => by rw [toPy, dep, PyData.depth, dep_ints]
 | .emp => by simp [toPy, dep, PyData.depth]
 | .exc _ _ => by simp [toPy, dep, PyData.depth]
 | .o _ => by simp [toPy, dep, PyData.depth]
theorem depths_toPy : ∀ ds : List D, PyData.depthAll (toPys ds) = deps ds
 | [] => by simp [toPys, deps, PyData.depthAll]
 | d :: r => by rw [toPys, deps, PyData.depthAll, depth_toPy d, depths_toPy r]
end
noncomputable def eqD (a b : D) : Bool := PyData.eqv (toPy a) (toPy b)
noncomputable def eqOk (a b : D) : Bool := lay a && (lay b && decide (min (dep a) (dep b) ≤ 300))
noncomputable def dEq : D → D → Option R := fun a b => if eqOk a b = true then some (.d (.bl (eqD a b))) else none
noncomputable def dNe : D → D → Option R := fun a b => if eqOk a b = true then some (.d (.bl (!eqD a b))) else none
noncomputable def rEqW (K : PySem.W.Frag) : R2 := fun x y H Q => ∃ d e, Dp K H x d ∧ Dp K H y e ∧ d.canLay0 = true ∧ e.canLay0 = true ∧ min d.depth e.depth ≤ 300 ∧ Q (.bl (PyData.eqv d e)) H
noncomputable def rNeW (K : PySem.W.Frag) : R2 := fun x y H Q => ∃ d e, Dp K H x d ∧ Dp K H y e ∧ d.canLay0 = true ∧ e.canLay0 = true ∧ min d.depth e.depth ≤ 300 ∧ Q (.bl (!PyData.eqv d e)) H
theorem op_eqW {X : Cx} (hu : X.A.units + 300 < cLine) : OpR X (compareOp .Eq) (rEqW X.K) := by
 intro pins s σ H x y v u Q I rx ry h
 obtain ⟨d, e, hd, he, sd, se, hm, q⟩ := h
 obtain ⟨as, r1⟩ := Dp.reads I d x v hd rx
 obtain ⟨bs, r2⟩ := Dp.reads I e y u he ry
 exact SeqAt.compareEq_reads r1 r2 sd se (by omega) ⟨.bl _, H, I, rfl, q⟩
theorem op_neW {X : Cx} (hu : X.A.units + 300 < cLine) : OpR X (compareOp .NotEq) (rNeW X.K) := by
 intro pins s σ H x y v u Q I rx ry h
 obtain ⟨d, e, hd, he, sd, se, hm, q⟩ := h
 obtain ⟨as, r1⟩ := Dp.reads I d x v hd rx
 obtain ⟨bs, r2⟩ := Dp.reads I e y u he ry
 exact SeqAt.compareNe_reads r1 r2 sd se (by omega) ⟨.bl _, H, I, rfl, q⟩
theorem eqOk_of {a b : D} (h : eqOk a b = true) : (toPy a).canLay0 = true ∧ (toPy b).canLay0 = true ∧ min (toPy a).depth (toPy b).depth ≤ 300 := by
 unfold eqOk at h
 rw [Bool.and_eq_true, Bool.and_eq_true] at h
 rw [canLay_toPy, canLay_toPy, depth_toPy, depth_toPy]
 exact ⟨h.1, h.2.1, of_decide_eq_true h.2.2⟩
theorem op2_eq {K : PySem.W.Frag} : Op2 K (rEqW K) dEq := by
 intro F H x y a b Q s ha hb h
 unfold dEq at h
 by_cases hs : eqOk a b = true
 ·rw [if_pos hs] at h
  obtain ⟨q1, q2, q3⟩ := eqOk_of hs
  exact ⟨_, _, ha.dp s (by rw [← canLay_toPy]; exact q1), hb.dp s (by rw [← canLay_toPy]; exact q2), q1, q2, q3, h _ (.bl _)⟩
 ·rw [if_neg hs] at h; exact h.elim
theorem op2_ne {K : PySem.W.Frag} : Op2 K (rNeW K) dNe := by
 intro F H x y a b Q s ha hb h
 unfold dNe at h
 by_cases hs : eqOk a b = true
 ·rw [if_pos hs] at h
  obtain ⟨q1, q2, q3⟩ := eqOk_of hs
  exact ⟨_, _, ha.dp s (by rw [← canLay_toPy]; exact q1), hb.dp s (by rw [← canLay_toPy]; exact q2), q1, q2, q3, h _ (.bl _)⟩
 ·rw [if_neg hs] at h; exact h.elim
noncomputable def dIs : D → D → Option R := fun a b => match a, b with
 | .non, .non => some (.d (.bl true))
 | _, .non => some (.d (.bl false))
 | .bl x, .bl y => some (.d (.bl (decide (x = y))))
 | _, _ => none
noncomputable def dIsNot : D → D → Option R := fun a b => match a, b with
 | .non, .non => some (.d (.bl false))
 | _, .non => some (.d (.bl true))
 | .bl x, .bl y => some (.d (.bl (!decide (x = y))))
 | _, _ => none
noncomputable def rIsNotAll : R2 := fun x y H Q => (y = .non ∧ Q (.bl (!decide (x = .non))) H) ∨ (∃ a b, x = .bl a ∧ y = .bl b ∧ Q (.bl (!decide (a = b))) H)
theorem opIsNot {X : Cx} : OpR X (compareOp .IsNot) rIsNotAll := op_notN.or op_isnot_bl
theorem Rv.notNon {K : PySem.W.Frag} {F H : Hp} {v : V} {d : D} (h : Rv K F H v d) (hd : d ≠ .non) : v ≠ .non := by
 rcases h with h | ⟨a, vs, xs, rfl, _, _, _⟩
 ·cases h with
  | non => exact (hd rfl).elim
  | bl _ => intro e; cases e
  | int _ => intro e; cases e
  | str _ => intro e; cases e
  | tup _ _ => intro e; cases e
  | lst _ _ => intro e; cases e
  | scr _ => intro e; cases e
  | emp _ => intro e; cases e
  | exc _ _ => intro e; cases e
  | excA _ _ _ _ => intro e; cases e
  | o _ => intro e; cases e
 ·intro e; cases e
theorem op2_isNot {K : PySem.W.Frag} : Op2 K rIsNotAll dIsNot := by
 intro F H x y a b Q s ha hb h
 unfold dIsNot at h
 split at h
 ·refine .inl ⟨hb.non, ?_⟩
  rw [ha.non]
  exact h _ (.bl false)
 ·rename_i hn
  refine .inl ⟨hb.non, ?_⟩
  rw [decide_eq_false (ha.notNon hn)]
  exact h _ (.bl true)
 ·exact .inr ⟨_, _, ha.bl, hb.bl, h _ (.bl _)⟩
 ·exact h.elim
noncomputable def flatD : D → Bool
 | .non => true
 | .bl _ => true
 | .int _ => true
 | .str _ => true
 | _ => false
noncomputable def eqF : D → D → Bool
 | .non, .non => true
 | .bl a, .bl b => a == b
 | .bl a, .int b => (if a then 1 else 0) == b
 | .int a, .bl b => a == (if b then 1 else 0)
 | .int a, .int b => a == b
 | .str a, .str b => a == b
 | _, _ => false
noncomputable def inD (x : D) (xs : List D) : Bool := xs.any fun y => eqF y x
noncomputable def dInB : D → D → Option Bool := fun a b => match b with
 | .tup xs => if flatD a = true ∧ xs.all flatD = true then some (inD a xs) else none
 | .lst xs => if flatD a = true ∧ xs.all flatD = true then some (inD a xs) else none
 | .str z => (match a with
  | .str c => if c.cps.size = 1 then some (decide (c.cps.getD 0 0 ∈ z.cps.toList)) else none
  | _ => none)
 | _ => none
noncomputable def dIn : D → D → Option R := fun a b => (dInB a b).map fun k => .d (.bl k)
theorem da_flat {K : PySem.W.Frag} {F : Hp} {v : V} {d : D} (h : Da K F v d) (hf : flatD d = true) : flatV v = true := by
 cases h with
 | non => rfl
 | bl _ => rfl
 | int _ => rfl
 | str _ => rfl
 | tup _ _ => cases hf
 | lst _ _ => cases hf
 | scr _ => cases hf
 | emp _ => cases hf
 | exc _ _ => cases hf
 | excA _ _ _ _ => cases hf
 | o _ => cases hf
theorem da_eqF {K : PySem.W.Frag} {F : Hp} {v u : V} {d e : D} (h : Da K F v d) (h' : Da K F u e) (hf : flatD d = true) (hf' : flatD e = true) : eqV v u = eqF d e := by
 cases h with
 | non => cases h' <;> first | rfl | cases hf'
 | bl _ => cases h' <;> first | rfl | cases hf'
 | int _ => cases h' <;> first | rfl | cases hf'
 | str _ => cases h' <;> first | rfl | cases hf'
 | tup _ _ => cases hf
 | lst _ _ => cases hf
 | scr _ => cases hf
 | emp _ => cases hf
 | exc _ _ => cases hf
 | excA _ _ _ _ => cases hf
 | o _ => cases hf
theorem daAll_flat {K : PySem.W.Frag} {F : Hp} : ∀ {vs : List V} {ds : List D}, DaAll K F vs ds → ds.all flatD = true → vs.all flatV = true
 | _, _, .nil, _ => rfl
 | _, _, .cons a b, h => by
  rw [List.all_cons, Bool.and_eq_true] at h
  rw [List.all_cons, da_flat a h.1, daAll_flat b h.2]
  rfl
theorem daAll_in {K : PySem.W.Frag} {F : Hp} {x : V} {d : D} (hx : Da K F x d) (hf : flatD d = true) : ∀ {vs : List V} {ds : List D}, DaAll K F vs ds → ds.all flatD = true → inV x vs = inD d ds
 | _, _, .nil, _ => rfl
 | _, _, .cons a b, h => by
  rw [List.all_cons, Bool.and_eq_true] at h
  have ih := daAll_in hx hf b h.2
  unfold inV inD at ih ⊢
  rw [List.any_cons, List.any_cons, ih, da_eqF a hx h.1 hf]
theorem Rv.flat {K : PySem.W.Frag} {F H : Hp} {v : V} {d : D} (h : Rv K F H v d) (hf : flatD d = true) : Da K F v d := h.da (fun _ e => by rw [e] at hf; cases hf)
noncomputable def rInAll (K : PySem.W.Frag) : R2 := fun x y H Q => rIn K false x y H Q ∨ ∃ (c : Nat) (z : Str), x = .str ⟨#[c]⟩ ∧ y = .str z ∧ Q (.bl (decide (c ∈ z.cps.toList))) H
theorem opIn {X : Cx} : OpR X (compareOp .In) (rInAll X.K) := op_in_seq.or op_in_sign
theorem one_sign {c : Str} (h : c.cps.size = 1) : c = ⟨#[c.cps.getD 0 0]⟩ := by
 obtain ⟨⟨l⟩⟩ := c
 match l, h with
 | [x], _ => rfl
theorem in_all {K : PySem.W.Frag} {neg : Bool} {F H : Hp} {x y : V} {a b : D} {Q : VK} {k : Bool} (s : SameX F H) (ha : Rv K F H x a) (hb : Rv K F H y b) (e : dInB a b = some k) (h : ∀ u, Da K F u (.bl (if neg then !k else k)) → Q u H) :
  rIn K neg x y H Q ∨ ∃ (c : Nat) (z : Str), x = .str ⟨#[c]⟩ ∧ y = .str z ∧ Q (.bl (if neg then !decide (c ∈ z.cps.toList) else decide (c ∈ z.cps.toList))) H := by
 unfold dInB at e
 split at e
 ·rename_i xs
  by_cases hc : flatD a = true ∧ xs.all flatD = true
  ·rw [if_pos hc] at e
   cases e
   obtain ⟨p, vs, rfl, h1, h2⟩ := hb.tup s
   have da := ha.flat hc.1
   refine .inl ⟨p, vs, rfl, .inr h1, da_flat da hc.1, daAll_flat h2 hc.2, ?_⟩
   rw [daAll_in da hc.1 h2 hc.2]
   exact h _ (.bl _)
  ·rw [if_neg hc] at e; cases e
 ·rename_i xs
  by_cases hc : flatD a = true ∧ xs.all flatD = true
  ·rw [if_pos hc] at e
   cases e
   obtain ⟨p, vs, rfl, h1, h2⟩ := hb.lst s
   have da := ha.flat hc.1
   refine .inl ⟨p, vs, rfl, .inl (SqL.of h1), da_flat da hc.1, daAll_flat h2 hc.2, ?_⟩
   rw [daAll_in da hc.1 h2 hc.2]
   exact h _ (.bl _)
  ·rw [if_neg hc] at e; cases e
 ·rename_i z
  split at e
  ·rename_i c
   by_cases hc : c.cps.size = 1
   ·rw [if_pos hc] at e
    cases e
    refine .inr ⟨c.cps.getD 0 0, z, ?_, hb.str, h _ (.bl _)⟩
    rw [← one_sign hc]
    exact ha.str
   ·rw [if_neg hc] at e; cases e
  ·cases e
 ·cases e
theorem op2_in {K : PySem.W.Frag} : Op2 K (rInAll K) dIn := by
 intro F H x y a b Q s ha hb h
 unfold dIn at h
 cases e : dInB a b with
 | none => rw [e] at h; exact h.elim
 | some k =>
  rw [e] at h
  exact in_all (neg := false) s ha hb e h
theorem atI_da {K : PySem.W.Frag} {F : Hp} {vs : List V} {ds : List D} {i : Int} {d : D} (h : DaAll K F vs ds) (e : atI ds i = some d) : ∃ v, atI vs i = some v ∧ Da K F v d := by
 unfold atI at e ⊢
 rw [h.length]
 cases q : ixN ds.length i with
 | none => rw [q] at e; cases e
 | some j =>
  rw [q] at e
  exact h.get e
noncomputable def dIx : D → D → Option R := fun a b => match a, b with
 | .tup xs, .int i => (atI xs i).map .d
 | .lst xs, .int i => (atI xs i).map .d
 | .scr ns, .int i => (atI ns i).map fun n => .d (.int n)
 | .str z, .int i => if z.length ≤ lim then (atI z.cps.toList i).map fun c => .d (.str ⟨#[c]⟩) else none
 | _, _ => none
theorem atI_map {α β : Type} (f : α → β) (xs : List α) (i : Int) : atI (xs.map f) i = (atI xs i).map f := by
 unfold atI
 rw [List.length_map]
 cases ixN xs.length i with
 | none => rfl
 | some j => exact List.getElem?_map
theorem op2_ix {K : PySem.W.Frag} : Op2 K (rIx K) dIx := by
 intro F H x y a b Q s ha hb h
 unfold dIx at h
 split at h
 ·rename_i xs i
  cases e : atI xs i with
  | none => rw [e] at h; exact h.elim
  | some d =>
   rw [e] at h
   obtain ⟨p, vs, rfl, h1, h2⟩ := ha.tup s
   obtain ⟨v, h3, h4⟩ := atI_da h2 e
   exact .inr (.inl ⟨p, vs, i, v, rfl, hb.int, h1, h3, h _ h4⟩)
 ·rename_i xs i
  cases e : atI xs i with
  | none => rw [e] at h; exact h.elim
  | some d =>
   rw [e] at h
   obtain ⟨p, vs, rfl, h1, h2⟩ := ha.lst s
   obtain ⟨v, h3, h4⟩ := atI_da h2 e
   exact .inl ⟨p, vs, i, v, rfl, hb.int, SqL.of h1, h3, h _ h4⟩
 ·rename_i ns i
  cases e : atI ns i with
  | none => rw [e] at h; exact h.elim
  | some n =>
   rw [e] at h
   obtain ⟨p, rfl, h1⟩ := ha.scr s
   exact .inl ⟨p, _, i, .int n, rfl, hb.int, h1, by rw [atI_map, e]; rfl, h _ (.int n)⟩
 ·rename_i z i
  by_cases hl : z.length ≤ lim
  ·rw [if_pos hl] at h
   cases e : atI z.cps.toList i with
   | none => rw [e] at h; exact h.elim
   | some c =>
    rw [e] at h
    exact .inr (.inr ⟨z, i, c, ha.str, hb.int, limLe hl, e, h _ (.str _)⟩)
  ·rw [if_neg hl] at h; exact h.elim
 ·exact h.elim
noncomputable def cutD {α : Type} (xs : List α) (lo hi : Option Int) : List α := (xs.drop (HT.sIx xs.length 0 lo)).take (HT.sIx xs.length xs.length hi - HT.sIx xs.length 0 lo)
theorem cut_da {K : PySem.W.Frag} {F : Hp} {vs : List V} {ds : List D} (h : DaAll K F vs ds) (lo hi : Option Int) : DaAll K F (cutV vs lo hi) (cutD ds lo hi) := by
 unfold cutV cutD
 rw [h.length]
 exact (h.drop _).take _
theorem cutV_ints (ns : List Int) (lo hi : Option Int) : cutV (ns.map V.int) lo hi = (cutD ns lo hi).map V.int := by
 unfold cutV cutD
 rw [List.length_map, List.map_take, List.map_drop]
noncomputable def dSl : D → Option Int → Option Int → Option R := fun a lo hi => match a with
 | .tup xs => some (.t (cutD xs lo hi))
 | .lst xs => some (.l (cutD xs lo hi))
 | .scr ns => some (.l ((cutD ns lo hi).map D.int))
 | .str z => if z.length ≤ lim then some (.d (.str (cutS z lo hi))) else none
 | _ => none
noncomputable def rSlAll (K : PySem.W.Frag) : V → Option Int → Option Int → Hp → VK → Prop := fun x lo hi H Q => rSlA K x lo hi H Q ∨ rSlL K x lo hi H Q ∨ rSlS x lo hi H Q
theorem slAll {X : Cx} : SlR X (rSlAll X.K) := sl_tupA.or (sl_list.or sl_str)
theorem ops_sl {K : PySem.W.Frag} : OpS K (rSlAll K) dSl := by
 intro F H x a lo hi Q s ha h
 unfold dSl at h
 split at h
 ·rename_i xs
  obtain ⟨p, vs, rfl, h1, h2⟩ := ha.tup s
  refine .inl ⟨p, vs, rfl, h1, fun e => ?_, fun _ p hp => h.2 p _ hp (cut_da h2 lo hi)⟩
  have q : cutD xs lo hi = xs := by
   unfold cutD
   rw [← h2.length, e.1, e.2, List.drop_zero, Nat.sub_zero, h2.length, List.take_length]
  rw [q] at h
  exact h.1 _ (ha.da (fun _ e => by cases e))
 ·obtain ⟨p, vs, rfl, h1, h2⟩ := ha.lst s
  exact .inr (.inl ⟨p, vs, rfl, SqL.of h1, fun p hp => h p _ hp (cut_da h2 lo hi)⟩)
 ·rename_i ns
  obtain ⟨p, rfl, h1⟩ := ha.scr s
  refine .inr (.inl ⟨p, _, rfl, h1, fun p hp => h p _ hp ?_⟩)
  rw [cutV_ints]
  exact DaAll.ints _
 ·rename_i z
  by_cases hl : z.length ≤ lim
  ·rw [if_pos hl] at h
   exact .inr (.inr ⟨z, ha.str, limLe hl, h _ (.str _)⟩)
  ·rw [if_neg hl] at h; exact h.elim
 ·exact h.elim
end G
namespace G
open PySem L2
noncomputable def intsOf : List D → Option (List Int)
 | [] => some []
 | .int i :: r => (intsOf r).map (i :: ·)
 | _ :: _ => none
theorem da_ints {K : PySem.W.Frag} {F : Hp} : ∀ {vs : List V} {ds : List D} {ns : List Int}, DaAll K F vs ds → intsOf ds = some ns → vs = ns.map V.int
 | _, _, _, .nil, e => by cases e; rfl
 | _, _, ns, .cons a b, e => by
  cases a with
  | int i =>
   rename_i ds
   unfold intsOf at e
   cases q : intsOf ds with
   | none => rw [q] at e; cases e
   | some ms =>
    rw [q] at e
    cases e
    rw [da_ints b q]
    rfl
  | _ => cases e
noncomputable def maxL : List Int → Int
 | [] => 0
 | [x] => x
 | x :: r => if maxL r > x then maxL r else x
noncomputable def minL : List Int → Int
 | [] => 0
 | [x] => x
 | x :: r => if minL r < x then minL r else x
theorem maxL_is : ∀ {ns : List Int}, ns ≠ [] → maxL ns ∈ ns ∧ ∀ y ∈ ns, y ≤ maxL ns
 | [], h => (h rfl).elim
 | [x], _ => ⟨List.mem_singleton.mpr rfl, fun y hy => by rw [List.mem_singleton.mp hy]; exact Int.le_refl _⟩
 | x :: y :: r, _ => by
  obtain ⟨h1, h2⟩ := maxL_is (ns := y :: r) (by intro e; cases e)
  show (if maxL (y :: r) > x then maxL (y :: r) else x) ∈ _ ∧ ∀ u ∈ _, u ≤ (if maxL (y :: r) > x then maxL (y :: r) else x)
  by_cases hc : maxL (y :: r) > x
  ·rw [if_pos hc]
   exact ⟨List.mem_cons_of_mem _ h1, fun u hu => by
    rcases List.mem_cons.mp hu with rfl | hu
    ·exact Int.le_of_lt hc
    ·exact h2 u hu⟩
  ·rw [if_neg hc]
   exact ⟨List.mem_cons_self, fun u hu => by
    rcases List.mem_cons.mp hu with rfl | hu
    ·exact Int.le_refl _
    ·exact Int.le_trans (h2 u hu) (Int.not_lt.mp hc)⟩
theorem minL_is : ∀ {ns : List Int}, ns ≠ [] → minL ns ∈ ns ∧ ∀ y ∈ ns, minL ns ≤ y
 | [], h => (h rfl).elim
 | [x], _ => ⟨List.mem_singleton.mpr rfl, fun y hy => by rw [List.mem_singleton.mp hy]; exact Int.le_refl _⟩
 | x :: y :: r, _ => by
  obtain ⟨h1, h2⟩ := minL_is (ns := y :: r) (by intro e; cases e)
  show (if minL (y :: r) < x then minL (y :: r) else x) ∈ _ ∧ ∀ u ∈ _, (if minL (y :: r) < x then minL (y :: r) else x) ≤ u
  by_cases hc : minL (y :: r) < x
  ·rw [if_pos hc]
   exact ⟨List.mem_cons_of_mem _ h1, fun u hu => by
    rcases List.mem_cons.mp hu with rfl | hu
    ·exact Int.le_of_lt hc
    ·exact h2 u hu⟩
  ·rw [if_neg hc]
   exact ⟨List.mem_cons_self, fun u hu => by
    rcases List.mem_cons.mp hu with rfl | hu
    ·exact Int.le_refl _
    ·exact Int.le_trans (Int.not_lt.mp hc) (h2 u hu)⟩
noncomputable def fLen : List D → Option R := fun as => match as with
 | [.tup xs] => some (.d (.int xs.length))
 | [.lst xs] => some (.d (.int xs.length))
 | [.scr xs] => some (.d (.int xs.length))
 | [.str z] => if z.length ≤ lim then some (.d (.int z.length)) else none
 | _ => none
noncomputable def fMax : List D → Option R := fun as => match as with
 | [.int i, .int j] => some (.d (.int (if j > i then j else i)))
 | [.lst xs] => (match intsOf xs with
  | some (n :: ns) => some (.d (.int (maxL (n :: ns))))
  | _ => none)
 | _ => none
noncomputable def fMin : List D → Option R := fun as => match as with
 | [.int i, .int j] => some (.d (.int (if j < i then j else i)))
 | [.lst xs] => (match intsOf xs with
  | some (n :: ns) => some (.d (.int (minL (n :: ns))))
  | _ => none)
 | _ => none
noncomputable def fInt : List D → Option R := fun as => match as with
 | [.int i] => some (.d (.int i))
 | [.bl k] => some (.d (.int (if k then 1 else 0)))
 | _ => none
noncomputable def fStr : List D → Option R := fun as => match as with
 | [.int i] => if i.natAbs.log2 < 1920 then some (.d (.str (toString i))) else none
 | _ => none
noncomputable def fList : List D → Option R := fun as => match as with
 | [.tup xs] => some (.l xs)
 | [.lst xs] => some (.l xs)
 | [.scr ns] => some (.l (ns.map D.int))
 | _ => none
noncomputable def fTuple : List D → Option R := fun as => match as with
 | [.tup xs] => some (.t xs)
 | [.lst xs] => some (.t xs)
 | _ => none
section
variable {K : PySem.W.Frag}
noncomputable def rLenAll (K : PySem.W.Frag) : List V → Hp → VK → Prop := fun xs H Q => (∃ p ys, xs = [.ref p] ∧ (SqL K H p ys ∨ SqT K H p ys) ∧ Q (.int ys.length) H) ∨ ∃ z, xs = [.str z] ∧ z.length ≤ sizeLine ∧ Q (.int z.length) H
theorem lenAll {X : Cx} : CallR X (.builtin "len") (rLenAll X.K) := call_len_seq.or call_len_str
theorem p1 {P : V → D → Prop} {xs : List V} {a : D} (h : Paired P xs [a]) : ∃ x, xs = [x] ∧ P x a := by
 cases h with
 | cons r t => cases t; exact ⟨_, rfl, r⟩
theorem p2 {P : V → D → Prop} {xs : List V} {a b : D} (h : Paired P xs [a, b]) : ∃ x y, xs = [x, y] ∧ P x a ∧ P y b := by
 cases h with
 | cons r t =>
  obtain ⟨y, rfl, q⟩ := p1 t
  exact ⟨_, _, rfl, r, q⟩
theorem opn_len : OpN K (rLenAll K) fLen := by
 intro F H xs as Q s hp h
 unfold fLen at h
 split at h
 ·obtain ⟨x, rfl, r⟩ := p1 hp
  obtain ⟨a, vs, rfl, h1, h2⟩ := r.tup s
  exact .inl ⟨a, vs, rfl, .inr h1, by rw [h2.length]; exact h _ (.int _)⟩
 ·obtain ⟨x, rfl, r⟩ := p1 hp
  obtain ⟨a, vs, rfl, h1, h2⟩ := r.lst s
  exact .inl ⟨a, vs, rfl, .inl (SqL.of h1), by rw [h2.length]; exact h _ (.int _)⟩
 ·obtain ⟨x, rfl, r⟩ := p1 hp
  obtain ⟨a, rfl, h1⟩ := r.scr s
  exact .inl ⟨a, _, rfl, .inl h1, by rw [List.length_map]; exact h _ (.int _)⟩
 ·rename_i z
  obtain ⟨x, rfl, r⟩ := p1 hp
  by_cases hl : z.length ≤ lim
  ·rw [if_pos hl] at h
   exact .inr ⟨z, by rw [r.str], limLe hl, h _ (.int _)⟩
  ·rw [if_neg hl] at h; exact h.elim
 ·exact h.elim
noncomputable def rMaxAll (K : PySem.W.Frag) : List V → Hp → VK → Prop := fun xs H Q => (∃ i j, xs = [.int i, .int j] ∧ Q (.int (if j > i then j else i)) H) ∨ rMax K xs H Q
noncomputable def rMinAll (K : PySem.W.Frag) : List V → Hp → VK → Prop := fun xs H Q => (∃ i j, xs = [.int i, .int j] ∧ Q (.int (if j < i then j else i)) H) ∨ rMin K xs H Q
theorem maxAll {X : Cx} (hc : X.calm = true) : CallR X (.builtin "max") (rMaxAll X.K) := (call_max2 hc).or (cr_max hc)
theorem minAll {X : Cx} (hc : X.calm = true) : CallR X (.builtin "min") (rMinAll X.K) := (call_min2 hc).or (cr_min hc)
theorem opn_max : OpN K (rMaxAll K) fMax := by
 intro F H xs as Q s hp h
 unfold fMax at h
 split at h
 ·obtain ⟨x, y, rfl, r1, r2⟩ := p2 hp
  exact .inl ⟨_, _, by rw [r1.int, r2.int], h _ (.int _)⟩
 ·rename_i ds
  obtain ⟨x, rfl, r⟩ := p1 hp
  obtain ⟨a, vs, rfl, h1, h2⟩ := r.lst s
  split at h
  ·rename_i n ns e
   have q := da_ints h2 e
   subst q
   refine .inr ⟨a, n :: ns, rfl, SqL.of h1, Nat.succ_pos _, fun m hm hy => ?_⟩
   obtain ⟨g1, g2⟩ := maxL_is (ns := n :: ns) (by intro e; cases e)
   have em : m = maxL (n :: ns) := Int.le_antisymm (g2 m hm) (hy _ g1)
   rw [em]
   exact h _ (.int _)
  ·exact h.elim
 ·exact h.elim
theorem opn_min : OpN K (rMinAll K) fMin := by
 intro F H xs as Q s hp h
 unfold fMin at h
 split at h
 ·obtain ⟨x, y, rfl, r1, r2⟩ := p2 hp
  exact .inl ⟨_, _, by rw [r1.int, r2.int], h _ (.int _)⟩
 ·rename_i ds
  obtain ⟨x, rfl, r⟩ := p1 hp
  obtain ⟨a, vs, rfl, h1, h2⟩ := r.lst s
  split at h
  ·rename_i n ns e
   have q := da_ints h2 e
   subst q
   refine .inr ⟨a, n :: ns, rfl, SqL.of h1, Nat.succ_pos _, fun m hm hy => ?_⟩
   obtain ⟨g1, g2⟩ := minL_is (ns := n :: ns) (by intro e; cases e)
   have em : m = minL (n :: ns) := Int.le_antisymm (hy _ g1) (g2 m hm)
   rw [em]
   exact h _ (.int _)
  ·exact h.elim
 ·exact h.elim
noncomputable def rInt1 : List V → Hp → VK → Prop := fun xs H Q => (∃ i, xs = [.int i] ∧ Q (.int i) H) ∨ ∃ k, xs = [.bl k] ∧ Q (.int (if k then 1 else 0)) H
theorem opn_int : OpN K rInt1 fInt := by
 intro F H xs as Q s hp h
 unfold fInt at h
 split at h
 ·obtain ⟨x, rfl, r⟩ := p1 hp
  exact .inl ⟨_, by rw [r.int], h _ (.int _)⟩
 ·obtain ⟨x, rfl, r⟩ := p1 hp
  exact .inr ⟨_, by rw [r.bl], h _ (.int _)⟩
 ·exact h.elim
noncomputable def rStr1 : List V → Hp → VK → Prop := fun xs H Q => ∃ i, xs = [.int i] ∧ i.natAbs.log2 < 1920 ∧ Q (.str (toString i)) H
theorem opn_str : OpN K rStr1 fStr := by
 intro F H xs as Q s hp h
 unfold fStr at h
 split at h
 ·rename_i i
  obtain ⟨x, rfl, r⟩ := p1 hp
  by_cases hl : i.natAbs.log2 < 1920
  ·rw [if_pos hl] at h
   exact ⟨i, by rw [r.int], hl, h _ (.str _)⟩
  ·rw [if_neg hl] at h; exact h.elim
 ·exact h.elim
noncomputable def rListOf (K : PySem.W.Frag) : List V → Hp → VK → Prop := fun xs H Q => ∃ p ys, xs = [.ref p] ∧ (SqL K H p ys ∨ SqT K H p ys) ∧ ∀ l, H l = none → Q (.ref l) (upd H l (.lst ys))
theorem opn_list : OpN K (rListOf K) fList := by
 intro F H xs as Q s hp h
 unfold fList at h
 split at h
 ·obtain ⟨x, rfl, r⟩ := p1 hp
  obtain ⟨a, vs, rfl, h1, h2⟩ := r.tup s
  exact ⟨a, vs, rfl, .inr h1, fun l hl => h l vs hl h2⟩
 ·obtain ⟨x, rfl, r⟩ := p1 hp
  obtain ⟨a, vs, rfl, h1, h2⟩ := r.lst s
  exact ⟨a, vs, rfl, .inl (SqL.of h1), fun l hl => h l vs hl h2⟩
 ·obtain ⟨x, rfl, r⟩ := p1 hp
  obtain ⟨a, rfl, h1⟩ := r.scr s
  exact ⟨a, _, rfl, .inl h1, fun l hl => h l _ hl (DaAll.ints _)⟩
 ·exact h.elim
noncomputable def rTupleOf (K : PySem.W.Frag) : List V → Hp → VK → Prop := fun xs H Q => ∃ p ys, xs = [.ref p] ∧ ((SqL K H p ys ∧ ∀ l, H l = none → Q (.ref l) (upd H l (.tup ys))) ∨ (SqT K H p ys ∧ Q (.ref p) H))
theorem opn_tuple : OpN K (rTupleOf K) fTuple := by
 intro F H xs as Q s hp h
 unfold fTuple at h
 split at h
 ·obtain ⟨x, rfl, r⟩ := p1 hp
  obtain ⟨a, vs, rfl, h1, h2⟩ := r.tup s
  exact ⟨a, vs, rfl, .inr ⟨h1, h.1 _ (r.da (fun _ e => by cases e))⟩⟩
 ·obtain ⟨x, rfl, r⟩ := p1 hp
  obtain ⟨a, vs, rfl, h1, h2⟩ := r.lst s
  exact ⟨a, vs, rfl, .inl ⟨SqL.of h1, fun l hl => h.2 l vs hl h2⟩⟩
 ·exact h.elim
end
noncomputable def tyD : D → String
 | .non => "NoneType"
 | .bl _ => "bool"
 | .int _ => "int"
 | .str _ => "str"
 | .tup _ => "tuple"
 | .lst _ => "list"
 | .scr _ => "list"
 | .emp => "dict"
 | .exc _ _ => "object"
 | .o _ => "object"
noncomputable def notScr : D → Bool
 | .scr _ => false
 | .exc _ _ => false
 | .o _ => false
 | _ => true
noncomputable def dIsi (T : String) : D → Option R := fun a => (kitB (tyD a) T).map fun b => .d (.bl b)
theorem Rv.ty {K : PySem.W.Frag} {F H : Hp} {v : V} {d : D} (s : SameX F H) (h : Rv K F H v d) (hs : notScr d = true) : TyX K H v (.type (tyD d)) := by
 cases d with
 | non => rw [h.non]; exact .base .non
 | bl b => rw [h.bl]; exact .base (.bl b)
 | int i => rw [h.int]; exact .base (.int i)
 | str x => rw [h.str]; exact .base (.str x)
 | tup xs =>
  obtain ⟨a, vs, rfl, h1, h2⟩ := h.tup s
  rcases h1 with (h1 | ⟨o, h1⟩) | ⟨o, its, n, h1, h2, _⟩
  ·exact .base (.tup h1)
  ·exact .fTuple h1
  ·exact .kTuple h1 h2
 | lst xs =>
  obtain ⟨a, vs, rfl, h1, h2⟩ := h.lst s
  exact .base (.lst h1)
 | scr ns => cases hs
 | exc _ _ => cases hs
 | o _ => cases hs
 | emp =>
  obtain ⟨a, rfl, h1⟩ := h.emp s
  exact .base (.dK h1)
end G
namespace G
open PySem L2
section
variable {ι : Type} {M : MI} {xr : Str → Option Value} {K : PySem.W.Frag} {X : ι → Cx} {W : WX} {a b : Expr} {f f' : Sm M S} {pos : Pos}
structure Pl (K : PySem.W.Frag) (X : ι → Cx) (N : List Str) (mg : Str → Option Value) : Prop where
  k : ∀ j, (X j).K = K
  c : ∀ j, (X j).calm = true
  n : ∀ j, (X j).N = N
  nd : N.Nodup
  g : ∀ j, (X j).mg = mg
  u : ∀ j, (X j).A.units + 300 < cLine
variable {N : List Str} {mg : Str → Option Value}
theorem Pl.nds (p : Pl K X N mg) : ∀ j, (X j).N.Nodup := fun j => by rw [p.n j]; exact p.nd
theorem Pl.blk (p : Pl K X N mg) (scope : Scope) : Pl K (Blk X scope) N mg := ⟨fun q => p.k q.1, fun q => p.c q.1, fun q => p.n q.1, p.nd, fun q => p.g q.1, fun q => p.u q.1⟩
theorem de_add (p : Pl K X N mg) (ha : DE M xr K X W a f) (hb : DE M xr K X W b f') : DE M xr K X W (.BinOp a .Add b pos) (eBin dAdd f f') := de_bin (fun j => by rw [← p.k j]; exact opAdd) op2_add ha hb
theorem de_sub (ha : DE M xr K X W a f) (hb : DE M xr K X W b f') : DE M xr K X W (.BinOp a .Sub b pos) (eBin dSub f f') := de_bin (fun j => op_sub) (op2_I0 fun _ _ _ => .int _) ha hb
theorem de_mul (ha : DE M xr K X W a f) (hb : DE M xr K X W b f') : DE M xr K X W (.BinOp a .Mult b pos) (eBin dMul f f') := de_bin (fun j => op_mul) (op2_I (fun i j h => show (-(2 ^ 64) < i ∧ i < 2 ^ 64) ∨ (-(2 ^ 64) < j ∧ j < 2 ^ 64) from of_decide_eq_true h) fun _ _ _ => .int _) ha hb
theorem de_fdiv (ha : DE M xr K X W a f) (hb : DE M xr K X W b f') : DE M xr K X W (.BinOp a .FloorDiv b pos) (eBin dFdiv f f') := de_bin (fun j => op_fdiv) (op2_I (fun i j h => show 0 < j ∧ j < 1073741824 from of_decide_eq_true h) fun _ _ _ => .int _) ha hb
theorem de_mod (ha : DE M xr K X W a f) (hb : DE M xr K X W b f') : DE M xr K X W (.BinOp a .Mod b pos) (eBin dMod f f') := de_bin (fun j => op_mod) (op2_I (fun _ _ h => of_decide_eq_true h) fun _ _ _ => .int _) ha hb
theorem de_pow (ha : DE M xr K X W a f) (hb : DE M xr K X W b f') : DE M xr K X W (.BinOp a .Pow b pos) (eBin dPow f f') := de_bin (fun j => op_pow) (op2_I (fun i j h => show 0 ≤ j ∧ j ≤ 1000000 ∧ i.natAbs < 2 ^ 64 from of_decide_eq_true h) fun _ _ _ => .int _) ha hb
theorem op1_neg : Op1 K (rU fun i => .int (-i)) dNeg := by
 intro F H x a Q s ha h
 cases a with
 | int i => exact ⟨i, ha.int, h _ (.int _)⟩
 | _ => exact h.elim
theorem de_neg (ha : DE M xr K X W a f) : DE M xr K X W (.UnaryOp .USub a pos) (eUn dNeg f) := de_un (fun j => un_neg) op1_neg ha
inductive Cp (K : PySem.W.Frag) (X : ι → Cx) : CmpOp → (D → D → Option R) → Prop
  | mk {op : CmpOp} {g : D → D → Option R} (r : R2) (ho : ∀ j, OpR (X j) (compareOp op) r) (hd : Op2 K r g) : Cp K X op g
theorem Cp.de {op : CmpOp} {g : D → D → Option R} (c : Cp K X op g) (ha : DE M xr K X W a f) (hb : DE M xr K X W b f') (hm : behindInMarks op b = false) : DE M xr K X W (.Compare a [op] [b] pos) (eBin g f f') := by
 cases c with
 | mk r ho hd => exact de_cmp ho hd ha hb hm
theorem Cp.dt {op : CmpOp} {g : D → D → Option R} (c : Cp K X op g) (ha : DE M xr K X W a f) (hb : DE M xr K X W b f') (hm : behindInMarks op b = false) : DT M xr K X W (.Compare a [op] [b] pos) (tOf (eBin g f f')) := by
 cases c with
 | mk r ho hd => exact dt_cmp ho hd ha hb hm
theorem cp_lt : Cp K X .Lt dLt := ⟨_, fun j => op_lt, op2_I0 fun _ _ _ => .bl _⟩
theorem cp_gt : Cp K X .Gt dGt := ⟨_, fun j => op_gt, op2_I0 fun _ _ _ => .bl _⟩
theorem cp_ge : Cp K X .GtE dGe := ⟨_, fun j => op_ge, op2_I0 fun _ _ _ => .bl _⟩
theorem cp_eq (p : Pl K X N mg) : Cp K X .Eq dEq := ⟨rEqW K, fun j => by rw [← p.k j]; exact op_eqW (p.u j), op2_eq⟩
theorem cp_ne (p : Pl K X N mg) : Cp K X .NotEq dNe := ⟨rNeW K, fun j => by rw [← p.k j]; exact op_neW (p.u j), op2_ne⟩
theorem cp_isNot : Cp K X .IsNot dIsNot := ⟨_, fun j => opIsNot, op2_isNot⟩
theorem cp_in (p : Pl K X N mg) : Cp K X .In dIn := ⟨rInAll K, fun j => by rw [← p.k j]; exact opIn, op2_in⟩
noncomputable def eChain (g g' : D → D → Option R) (f f' f'' : Sm M S) (z : Z M.T) : Rs S (Z M.T) := (opd f z).bind fun s z1 => (opd f' z1).bind fun s' z2 => (fin ((rd z2 s).bind fun x => (rd z2 s').bind fun y => g x y) z2).bind fun r z3 => match r with
 | .d (.bl true) => (opd f'' z3).bind fun s'' z4 => fin ((rd z4 s').bind fun x => (rd z4 s'').bind fun y => g' x y) z4
 | .d (.bl false) => .ok (.d (.bl false)) z3
 | _ => .bad
theorem de_ixA (p : Pl K X N mg) (ha : DE M xr K X W a f) (hb : DE M xr K X W b f') (hs : PlainIx b := by exact fun _ _ => rfl) : DE M xr K X W (.Subscript a b pos) (eBin dIx f f') := de_ix (fun j => by rw [← p.k j]; exact ix_seq) op2_ix ha hb hs
theorem de_sl {lo hi : Option Expr} {fl fh : Sm M (Option Int)} {p2 : Pos} (p : Pl K X N mg) (h : DE M xr K X W a f) (hl : DO M xr K X W lo fl) (hh : DO M xr K X W hi fh) : DE M xr K X W (.Subscript a (.Slice lo hi none p2) pos) (eSl dSl f fl fh) := de_slice (fun j => by rw [← p.k j]; exact slAll) ops_sl h hl hh
inductive Fb (K : PySem.W.Frag) (X : ι → Cx) : Str → (List D → Option R) → Prop
  | fn {x : Str} {g : List D → Option R} (id : String) (r : List V → Hp → VK → Prop) (hc : ∀ j, CallR (X j) (.builtin id) r) (hd : OpN K r g) (hv : bootBuiltins x = some (.builtin id)) (hn : x ≠ "__name__") (hb : (x == ("__debug__" : Str)) = false) : Fb K X x g
  | ty {x : Str} {g : List D → Option R} (T : String) (r : List V → Hp → VK → Prop) (hc : ∀ j, CallR (X j) (.type T) r) (hd : OpN K r g) (hv : bootBuiltins x = some (.type T)) (hn : x ≠ "__name__") (hb : (x == ("__debug__" : Str)) = false) : Fb K X x g
theorem Fb.de {x : Str} {g : List D → Option R} (c : Fb K X x g) {e : Expr} {es : List Expr} {h : Sm M (List S)} {pp : Pos} (p : Pl K X N mg) (hm : mg x = none) (ha : DA M xr K X W (e :: es) h) (hg : ∀ j, Gl (X j) x := by intro _; rfl)
  (he : ∀ j, starEach (e :: es) (X j).env = (false, eval e (X j).env) :: starEach es (X j).env := by intro _; rfl) (hpl : ∀ j, (backTo pos (starEach es (X j).env)).any (·.1) = false := by intro _; rfl) : DE M xr K X W (.Call (.Name x pp) (e :: es) [] pos) (eFn g h) := by
 cases c with
 | fn id r hc hd hv hn hb => exact de_callB hc hd hg (fun j => by rw [p.g j]; exact hm) hv ha hn hb he hpl
 | ty T r hc hd hv hn hb => exact de_callTy hc hd hg (fun j => by rw [p.g j]; exact hm) hv ha hn hb he hpl
theorem fb_len (p : Pl K X N mg) : Fb K X "len" fLen := .fn "len" (rLenAll K) (fun j => by rw [← p.k j]; exact lenAll) opn_len boot_len (by decide) (by decide)
theorem fb_max (p : Pl K X N mg) : Fb K X "max" fMax := .fn "max" (rMaxAll K) (fun j => by rw [← p.k j]; exact maxAll (p.c j)) opn_max PyProof.Rows.boot_max (by decide) (by decide)
theorem fb_min (p : Pl K X N mg) : Fb K X "min" fMin := .fn "min" (rMinAll K) (fun j => by rw [← p.k j]; exact minAll (p.c j)) opn_min PyProof.Rows.boot_min (by decide) (by decide)
theorem fb_int : Fb K X "int" fInt := .ty "int" rInt1 (fun j => call_int1) opn_int PyProof.Rows.boot_int (by decide) (by decide)
theorem fb_str : Fb K X "str" fStr := .ty "str" rStr1 (fun j => call_str_int) opn_str PyProof.Rows.boot_str (by decide) (by decide)
theorem fb_list (p : Pl K X N mg) : Fb K X "list" fList := .ty "list" (rListOf K) (fun j => by rw [← p.k j]; exact call_list_of) opn_list PyProof.Rows.boot_list (by decide) (by decide)
theorem fb_tuple (p : Pl K X N mg) : Fb K X "tuple" fTuple := .ty "tuple" (rTupleOf K) (fun j => by rw [← p.k j]; exact call_tuple_of) opn_tuple PyProof.Rows.boot_tuple (by decide) (by decide)
noncomputable def dIsiN (T : String) : D → Option R := fun x => if notScr x = true then dIsi T x else none
noncomputable def dTru : D → Option Bool := fun a => match a with
 | .non => some false
 | .bl b => some b
 | .int i => some (i != 0)
 | .str z => if z.length ≤ lim then some ((z.length : Int) != 0) else none
 | .tup xs => some (!xs.isEmpty)
 | .lst xs => some (!xs.isEmpty)
 | .scr xs => some (!xs.isEmpty)
 | .emp => none
 | .exc _ _ => none
 | .o _ => none
noncomputable def iAny (K : PySem.W.Frag) (tl : TE) : TI := fun σ H R => tl σ H fun x H1 => (∃ a, x = .ref a ∧ (∃ xs, SqL K H1 a xs) ∧ R (Itl K a) H1) ∨ (∃ a, x = .ref a ∧ (∃ xs, SqT K H1 a xs) ∧ R (Itt K a) H1) ∨ ∃ y, x = .str y ∧ R (Its y) H1
theorem pi_any {Y : Cx} {tg l : Expr} {tl : TE} (hl : PE Y l tl) : PI Y tg l (iAny Y.K tl) := by
 refine ⟨fun pins s σ H R I h => ?_⟩
 refine thn (hl.run pins s σ H _ I h) fun v s1 ⟨x, H1, I1, r1, q1⟩ => ?_
 rcases q1 with ⟨a, rfl, ⟨xs, hq⟩, q⟩ | ⟨a, rfl, ⟨xs, hq⟩, q⟩ | ⟨y, rfl, q⟩
 ·cases r1
  obtain ⟨its, rv, p, hz⟩ := I1.list hq
  exact wpAny_pyIter_list p.isList (pi_one (tk := s1.toks) I1 _ (turn_list a _) ⟨_, Heap.get?_push_size _ rfl, rfl, rfl⟩ q)
 ·cases r1
  obtain ⟨its, rv, p, hz⟩ := I1.tuple hq
  exact wpAny_pyIter_tuple (show s1.heap.IsTuple a its.toArray from p) (pi_one (tk := s1.toks) I1 _ (turn_tuple a _) ⟨_, Heap.get?_push_size _ rfl, rfl, rfl⟩ q)
 ·obtain ⟨t, rfl⟩ := r1
  cases ha : y.cps.all (· < 128)
  ·exact wpAny_pyIter_wide ha (pi_one (tk := s1.toks) I1 _ (turn_str _ y t "str_iterator" (.inr rfl)) ⟨_, Heap.get?_push_size _ rfl, rfl, rfl⟩ q)
  ·exact wpAny_pyIter_ascii ha (pi_one (tk := s1.toks) I1 _ (turn_str _ y t "str_ascii_iterator" (.inl rfl)) ⟨_, Heap.get?_push_size _ rfl, rfl, rfl⟩ q)
noncomputable def itemsD : D → Option (List D)
 | .lst xs => some xs
 | .tup xs => some xs
 | .scr ns => some (ns.map D.int)
 | .str z => some (z.cps.toList.map fun c => .str ⟨#[c]⟩)
 | _ => none
noncomputable def iAnyM (f : Sm M S) (z : Z M.T) : Rs (List D) (Z M.T) := (escf f z).bind fun s z1 => match s with
 | .d x => Rs.opt (itemsD x) z1
 | _ => .bad
theorem yd_old {F : Hp} {ds : List D} {i : Nat} {H : Hp} {v : V} {d : D} (hd : ds[i]? = some d) (da : Da K F v d) : YD K F ds i H v H := ⟨d, hd, fun F1 s1 s2 _ => ⟨F1, Same.refl _, s2, fun b o e => ⟨e, rfl⟩, fun _ _ e => e, da.mono s1⟩⟩
theorem di_any {tg l : Expr} {g : Sm M S} (p : Pl K X N mg) (h : DE M xr K X W l g) : DI M xr K X W tg l (iAnyM g) := by
 obtain ⟨t, pe, c⟩ := h
 refine ⟨iAny K t, fun j => by rw [← p.k j]; exact pi_any (pe j), fun G σ H F z Q hK hx ok hh => ?_⟩
 refine cmp_esc c G σ H F z _ hK hx ok (hit_bind hh fun s z1 v H1 F1 _ sm ok1 ev h1 => ?_)
 subst hK
 cases s with
 | d x =>
  have ev' : Da G.K F1 v x := ev
  cases x with
  | lst xs =>
   cases ev' with
   | lst q r =>
    rename_i a vs
    refine .inl ⟨a, rfl, ⟨vs, SqL.of (ok1.sub.lst q)⟩, h1 _ H1 F1 (Same.refl _) ok1 ?_⟩
    have w := (walk_list (K := G.K) (a := a) (xs := vs)).mono (G' := fun H => SameX F1 H) (Y' := YD G.K F1 xs) (fun H s => SqL.of (s.lst q)) (fun i H x H' hi _ ⟨e1, e2⟩ => by
     obtain ⟨d, hd, da⟩ := r.getV e2
     rw [e1]
     exact yd_old hd da)
    rw [r.length] at w
    exact w
  | tup xs =>
   cases ev' with
   | tup q r =>
    rename_i a vs
    refine .inr (.inl ⟨a, rfl, ⟨vs, ok1.sub.tup q⟩, h1 _ H1 F1 (Same.refl _) ok1 ?_⟩)
    have w := (walk_tup (K := G.K) (a := a) (xs := vs)).mono (G' := fun H => SameX F1 H) (Y' := YD G.K F1 xs) (fun H s => s.tup q) (fun i H x H' hi _ ⟨e1, e2⟩ => by
     obtain ⟨d, hd, da⟩ := r.getV e2
     rw [e1]
     exact yd_old hd da)
    rw [r.length] at w
    exact w
  | scr ns =>
   cases ev' with
   | scr q =>
    rename_i a
    refine .inl ⟨a, rfl, ⟨_, ok1.sub.seq q⟩, h1 _ H1 F1 (Same.refl _) ok1 ?_⟩
    have w := (walk_list (K := G.K) (a := a) (xs := ns.map V.int)).mono (G' := fun H => SameX F1 H) (Y' := YD G.K F1 (ns.map D.int)) (fun H s => s.seq q) (fun i H x H' hi _ ⟨e1, e2⟩ => by
     obtain ⟨d, hd, da⟩ := (DaAll.ints (K := G.K) (F := F1) ns).getV e2
     rw [e1]
     exact yd_old hd da)
    rw [List.length_map] at w
    show Walk _ (ns.map D.int).length _ _
    rw [List.length_map]
    exact w
  | str y =>
   cases ev'
   refine .inr (.inr ⟨y, rfl, h1 _ H1 F1 (Same.refl _) ok1 ?_⟩)
   have w := (walk_str (z := y)).mono (G' := fun H => SameX F1 H) (Y' := YD G.K F1 (y.cps.toList.map fun c => D.str ⟨#[c]⟩)) (fun H s => trivial) (fun i H x H' hi _ ⟨e1, c, e2, e3⟩ => by
    rw [e1, e3]
    exact yd_old (by rw [List.getElem?_map, Array.getElem?_toList, e2]; rfl) (.str _))
   show Walk _ (y.cps.toList.map fun c => D.str ⟨#[c]⟩).length _ _
   rw [List.length_map, Array.length_toList]
   exact w
  | _ => exact h1.elim
 | _ => exact h1.elim
noncomputable def rangeD (lo : Int) (n : Nat) : List D := (List.range n).map fun (i : Nat) => D.int (lo + (i : Int))
noncomputable def iRg1M (g : Sm M (List S)) (z : Z M.T) : Rs (List D) (Z M.T) := (g z).bind fun ss z1 => match ss with
 | [.d (.int j)] => if -(2 ^ 62) ≤ j ∧ j < 2 ^ 62 then .ok (rangeD 0 j.toNat) z1 else .bad
 | _ => .bad
theorem wk_range {F : Hp} (lo : Int) (n : Nat) : Wk K F (Itr lo n) (rangeD lo n) := by
 have w := (walk_range (lo := lo) (n := n)).mono (G' := fun H => SameX F H) (Y' := YD K F (rangeD lo n)) (fun H s => trivial) (fun i H x H' hi _ ⟨e1, e2⟩ => by
  rw [e1, e2]
  refine yd_old (d := .int (lo + (i : Int))) ?_ (.int _)
  unfold rangeD
  rw [List.getElem?_map, List.getElem?_range hi]
  rfl)
 unfold Wk
 have e : (rangeD lo n).length = n := by
  unfold rangeD
  rw [List.length_map, List.length_range]
 rw [e]
 exact w
theorem di_range1 {tg e : Expr} {g : Sm M (List S)} {pp : Pos} (p : Pl K X N mg) (hm : mg "range" = none) (ha : DA M xr K X W [e] g) (hg : ∀ j, Gl (X j) "range" := by intro _; rfl) (hs : ∀ j, starEach [e] (X j).env = [(false, eval e (X j).env)] := by intro _; rfl) : DI M xr K X W tg (.Call (.Name "range" pp) [e] [] pos) (iRg1M g) := by
 obtain ⟨t, pa, c⟩ := ha
 refine ⟨_, fun j => pi_range1 (hg j) (by rw [p.g j]; exact hm) (pa j) (hs j), fun G σ H F z Q hK hx ok hh => ?_⟩
 refine c G σ H F z _ hK hx ok (hit_bind hh fun ss z1 vs H1 F1 _ sm ok1 ea h1 => ?_)
 unfold RelA at ea
 match ss, ea, h1 with
 | [.d (.int j)], ea, h1 =>
  by_cases hj : -(2 ^ 62) ≤ j ∧ j < 2 ^ 62
  ·simp only [if_pos hj] at h1
   cases ea with
   | cons r t =>
    cases t
    cases (show Da G.K F1 _ (.int j) from r)
    exact ⟨j, rfl, hj.1, hj.2, h1 _ H1 F1 (Same.refl _) ok1 (wk_range 0 j.toNat)⟩
  ·simp only [if_neg hj] at h1
   exact h1.elim
 | [], _, h1 => exact h1.elim
 | [.l _], _, h1 => exact h1.elim
 | [.v _], _, h1 => exact h1.elim
 | [.m _], _, h1 => exact h1.elim
 | [.d .non], _, h1 => exact h1.elim
 | [.d (.bl _)], _, h1 => exact h1.elim
 | [.d (.str _)], _, h1 => exact h1.elim
 | [.d (.tup _)], _, h1 => exact h1.elim
 | [.d (.lst _)], _, h1 => exact h1.elim
 | [.d (.scr _)], _, h1 => exact h1.elim
 | [.d .emp], _, h1 => exact h1.elim
 | [.d (.exc _ _)], _, h1 => exact h1.elim
 | [.d (.o _)], _, h1 => exact h1.elim
 | .d (.int _) :: _ :: _, _, h1 => exact h1.elim
 | .d .non :: _ :: _, _, h1 => exact h1.elim
 | .d (.bl _) :: _ :: _, _, h1 => exact h1.elim
 | .d (.str _) :: _ :: _, _, h1 => exact h1.elim
 | .d (.tup _) :: _ :: _, _, h1 => exact h1.elim
 | .d (.lst _) :: _ :: _, _, h1 => exact h1.elim
 | .d (.scr _) :: _ :: _, _, h1 => exact h1.elim
 | .d .emp :: _ :: _, _, h1 => exact h1.elim
 | .d (.exc _ _) :: _ :: _, _, h1 => exact h1.elim
 | .d (.o _) :: _ :: _, _, h1 => exact h1.elim
 | .l _ :: _ :: _, _, h1 => exact h1.elim
 | .v _ :: _ :: _, _, h1 => exact h1.elim
 | .m _ :: _ :: _, _, h1 => exact h1.elim
end
end G
namespace G
open PySem L2
structure Mach where
  cells : List Int
  at_ : Nat
  left : List Int
noncomputable def mkvs (c lf : Addr) (k : Int) : List (Key × V) := [(Sum.inr ("cells" : Str), .ref c), (Sum.inr ("at" : Str), .int k), (Sum.inr ("left" : Str), .ref lf)]
theorem freeX {F H : Hp} (s : SameX F H) (t : ∀ a ps, F a = some (.tbl ps) → H a ≠ none) {p : Addr} (h : H p = none) : F p = none := by
 cases q : F p with
 | none => rfl
 | some o =>
  by_cases n : ∃ ps, o = .tbl ps
  ·obtain ⟨ps, rfl⟩ := n
   exact (t p ps q h).elim
  ·have := s p o q (fun ps e => n ⟨ps, e⟩)
   rw [h] at this
   cases this
noncomputable def noMark (F : Hp) : Prop := ∀ a ps, F a ≠ some (.tbl ps)
noncomputable def TbsOk (T : List (Addr × Str)) (F H : Hp) : Prop := ∀ p ∈ T, ∃ ps : Array Value, H p.1 = some (.tbl ps) ∧ TriplesOk ps.toList ∧ ∀ (pos : Pos) (cv : Value), codeAmong pos ps.toList = some cv → ∃ c, cv = .ref c ∧ F c = some (LamX.CodeO c p.2)
theorem TbsOk.mono {T : List (Addr × Str)} {F F' H H' : Hp} (h : TbsOk T F H) (hF : Same F F') (hH : ∀ p ∈ T, H' p.1 = H p.1) : TbsOk T F' H' := fun p hp => by
 obtain ⟨ps, h1, h2, h3⟩ := h p hp
 refine ⟨ps, (hH p hp).trans h1, h2, fun pos cv e => ?_⟩
 obtain ⟨c, e1, e2⟩ := h3 pos cv e
 exact ⟨c, e1, hF _ _ e2⟩
theorem TbsOk.has {T : List (Addr × Str)} {F H : Hp} (h : TbsOk T F H) {a : Addr} (ha : a ∈ T.map (·.1)) : ∃ ps, H a = some (.tbl ps) := by
 obtain ⟨p, hp, rfl⟩ := List.mem_map.mp ha
 obtain ⟨ps, h1, _⟩ := h p hp
 exact ⟨ps, h1⟩
noncomputable abbrev MT (T : List (Addr × Str)) : MI where
 T := Mach
 ok := fun _ F H ms t => (T ≠ [] → noMark F) ∧ TbsOk T F H ∧ ∃ m lf c, ms = m :: lf :: T.map (·.1) ∧ m ≠ lf ∧ H m = some (.dK (mkvs c lf t.at_)) ∧ H lf = some (.lst (t.left.map V.int)) ∧ F c = some (.lst (t.cells.map V.int)) ∧ t.left.length = t.cells.length
 mono := fun {K F F' H H' ms t} hF ht hm h => by
  obtain ⟨nm, tb, m, lf, c, rfl, hn, h1, h2, h3, h4⟩ := h
  exact ⟨fun hT a ps e => nm hT a ps (ht a ps e).1, tb.mono hF (fun p hp => hm _ (List.mem_cons_of_mem _ (List.mem_cons_of_mem _ (List.mem_map_of_mem hp)))), m, lf, c, rfl, hn, (hm m (by simp)).trans h1, (hm lf (by simp)).trans h2, hF _ _ h3, h4⟩
noncomputable abbrev M1 : MI := MT []
end G
namespace G
open PySem L2
noncomputable def leftF (c : Int) : Int := c * (if decide ((10 : Int) ^ 18 ≤ c) then 1 else 0)
noncomputable def leftOf (ns : List Int) : List Int := ns.map leftF
noncomputable def begunN : List Str := ["_law_script", "_law_cells", "_law_cell"]
noncomputable def spLaw (K : PySem.W.Frag) : Sp := fun vs H Q _ => ∃ (a : Addr) (ns : List Int), vs = [.ref a] ∧ SqL K H a (ns.map V.int) ∧ ns.length ≤ 63 ∧ (∀ z ∈ ns, Builtin.Int.intBits z ≤ 1048576) ∧ ∀ H', Q (.bl true) H'
noncomputable def z0 (n : Nat) (ns : List Int) : Z Mach := { rho := some (.d (.scr ns)) :: some (.m 0) :: List.replicate n none, m := ⟨ns, 0, leftOf ns⟩ }
end G
namespace G
open PySem L2
structure Pc {ι : Type} (P : Program) (w : World) (K : PySem.W.Frag) (mg : Str → Option Value) (base : Heap) (N : List Str) (W : WX) (lv : Nat) (X : ι → Cx) : Prop extends Pl K X N mg where
  pr : ∀ j, (X j).prog = P
  pw : ∀ j, (X j).w = w
  pb : ∀ j, (X j).base = base
  room : ∀ j, RmG (lv + 8) (X j).A
  pass : ∀ j σ, PassesAt (L2.CX P w) (X j) σ (WE W σ)
  gd : ∀ j, (X j).A.guards = some []
section
variable {ι : Type} {M : MI} {P : Program} {w : World} {K : PySem.W.Frag} {mg : Str → Option Value} {base : Heap} {N : List Str} {W : WX} {n : Nat} {X : ι → Cx} {xr : Str → Option Value}
theorem pass0W {Y : Cx} (σ : St) : PassesAt (L2.CX P w) Y σ (WE W0 σ) := fun _ _ _ _ _ _ h => by
 obtain ⟨_, _, _, _, _, _, _, _, _, _, _, _, z⟩ := h
 exact z.elim
theorem Pc.blk (p : Pc P w K mg base N W n X) (scope : Scope) : Pc P w K mg base N W0 n (Blk X scope) :=
 ⟨p.toPl.blk scope, fun q => p.pr q.1, fun q => p.pw q.1, fun q => p.pb q.1, fun q => p.room q.1, fun q σ => pass0W σ, fun q => p.gd q.1⟩
theorem pc_def {qual : Str} {st : Stmt} {f : Addr} {ps : List Str} {cdv : Value} {A : Around} {outer : List Env} {s : Shared} {H : Hp} {E : XK} (Sc : FnScope N ps (defScope st)) (hr : RmG (n + 8) (A.deeper (PyProof.Rows.envOfC qual (defScope st) s.heap.objs.size f cdv))) (hgu : A.guards = some []) :
  Pc P w K mg base N (fun cls d _ H => E cls d H) n (fun _ : Unit => cxOf (L2.CX P w) P w K mg base N qual (defScope st) f cdv A outer s H E) :=
 ⟨⟨fun _ => rfl, fun _ => rfl, fun _ => rfl, Sc.nd, fun _ => rfl, fun _ => by have := hr.un; show (A.deeper _).units + 300 < cLine; omega⟩, fun _ => rfl, fun _ => rfl, fun _ => rfl, fun _ => hr, fun _ σ => passAt (takes_of rfl rfl rfl rfl) σ, fun _ => hgu⟩
theorem own_def {qual : Str} {st : Stmt} {f : Addr} {cdv : Value} {A : Around} {outer : List Env} {s : Shared} {H : Hp} {E : XK} :
  ∀ j : Unit, PassesOwn (model ((fun _ : Unit => cxOf (L2.CX P w) P w K mg base N qual (defScope st) f cdv A outer s H E) j).prog ((fun _ : Unit => cxOf (L2.CX P w) P w K mg base N qual (defScope st) f cdv A outer s H E) j).w) ((fun _ : Unit => cxOf (L2.CX P w) P w K mg base N qual (defScope st) f cdv A outer s H E) j).A ((fun _ : Unit => cxOf (L2.CX P w) P w K mg base N qual (defScope st) f cdv A outer s H E) j).env ((fun _ : Unit => cxOf (L2.CX P w) P w K mg base N qual (defScope st) f cdv A outer s H E) j).xe := fun _ => passes_of rfl
noncomputable def FnAt (M : MI) (P : Program) (w : World) (K : PySem.W.Frag) (mg : Str → Option Value) (base : Heap) (xr : Str → Option Value) (n : Nat) (x : Str) (ps : List Str) (dvs : List V) (c : List S → M.T → Rs S M.T) : Prop :=
 ∃ f fd, FnG P w K mg base (L2.CX P w) (n + 8) f fd ps (spM M K xr ps.length c) ∧ Binds K fd ps [] ∧ (∃ ds, Vals dvs ds ∧ Binds K fd ps ds) ∧ PySem.W.keepIn K (.ref f) = true ∧ mg x = some (.ref f)
theorem de_fn {x : Str} {ps : List Str} {dvs : List V} {e : Expr} {es : List Expr} {g : Sm M (List S)} {c : List S → M.T → Rs S M.T} {pp pos : Pos} (p : Pc P w K mg base N W n X) (h : FnAt M P w K mg base xr n x ps dvs c) (ha : DA M xr K X W (e :: es) g) (hn : ∀ z ss z1, g z = .ok ss z1 → ss.length = ps.length) (hg : ∀ j, Gl (X j) x := by intro _; rfl)
  (hdb : (x == ("__debug__" : Str)) = false := by decide) (he : ∀ j, starEach (e :: es) (X j).env = (false, eval e (X j).env) :: starEach es (X j).env := by intro _; rfl) (hpl : ∀ j, (backTo pos (starEach es (X j).env)).any (·.1) = false := by intro _; rfl) :
  DE M xr K X W (.Call (.Name x pp) (e :: es) [] pos) (eCall c g) := by
 obtain ⟨f, fd, hF, hb, _, hk, hm⟩ := h
 exact de_call (CX := L2.CX P w) (f := f) (fd := fd) (ps := ps) (k := n + 8) (fun j => by rw [p.pr j, p.pw j, p.k j, p.g j, p.pb j]; exact hF) p.room p.gd hg (fun j => by rw [p.g j]; exact hm) (fun j => by rw [p.k j]; exact hk) (fun j => by rw [p.k j]; exact hb) p.pass ha hn hdb he hpl
theorem de_fn0 {x : Str} {dvs : List V} {c : List S → M.T → Rs S M.T} {pp pos : Pos} (p : Pc P w K mg base N W n X) (h : FnAt M P w K mg base xr n x [] dvs c) (hg : ∀ j, Gl (X j) x := by intro _; rfl) (hdb : (x == ("__debug__" : Str)) = false := by decide) :
  DE M xr K X W (.Call (.Name x pp) [] [] pos) (eCall c aNil) := by
 obtain ⟨f, fd, hF, hb, _, hk, hm⟩ := h
 exact de_call0 (CX := L2.CX P w) (f := f) (fd := fd) (ps := []) (k := n + 8) (fun j => by rw [p.pr j, p.pw j, p.k j, p.g j, p.pb j]; exact hF) p.room p.gd hg (fun j => by rw [p.g j]; exact hm) (fun j => by rw [p.k j]; exact hk) (fun j => by rw [p.k j]; exact hb) p.pass hdb
noncomputable def FnIn (K : PySem.W.Frag) (mg : Str → Option Value) (x : Str) (st : Stmt) (ps : List Str) (dvs : List V) : Prop := ∃ f fd, FunD K x x (defArgs st) (defBody st) (defScope st) dvs [] f fd ∧ Binds K fd ps [] ∧ (∃ ds, Vals dvs ds ∧ Binds K fd ps ds) ∧ mg x = some (.ref f)
theorem fnAt_zero {x : Str} {st : Stmt} {ps : List Str} {dvs : List V} (h : FnIn K mg x st ps dvs) : FnAt M P w K mg base xr 0 x ps dvs (fun _ _ => .bad) := by
 obtain ⟨f, fd, hF, hb, hd, hm⟩ := h
 have no : ∀ vs H Q E, ¬ spM M K xr ps.length (fun _ _ => .bad) vs H Q E := fun vs H Q E h => by
  obtain ⟨_, _, _, _, _, _, _, _, _, _, z⟩ := h
  exact z
 exact ⟨f, fd, ⟨fun vs H Q E h => absurd h (no vs H Q E), fun A outer s H args us vs Q E _ _ _ _ _ h => absurd h (no vs H Q E)⟩, hb, hd, hF.kp, hm⟩
theorem fnAt_succ {x : Str} {st : Stmt} {ps : List Str} {dvs : List V} {b : Sm M Out} (h : FnIn K mg x st ps dvs) (Sc : FnScope N ps (defScope st))
  (hb : ∀ (f : Addr) (cdv : Value) (A : Around) (outer : List Env) (s : Shared) (H : Hp) (E : XK), RmG (n + 8) (A.deeper (PyProof.Rows.envOfC x (defScope st) s.heap.objs.size f cdv)) → A.guards = some [] →
   DSs M xr K (fun _ : Unit => cxOf (L2.CX P w) P w K mg base N x (defScope st) f cdv A outer s H E) (fun cls d _ H => E cls d H) (defBody st) b) : FnAt M P w K mg base xr (n + 1) x ps dvs (fnM N.length b) := by
 obtain ⟨f, fd, hF, hbd, hd, hm⟩ := h
 exact ⟨f, fd, okM hF Sc (hb f), hbd, hd, hF.kp, hm⟩
end
section
variable {ι : Type} {M : MI} {xr : Str → Option Value} {K : PySem.W.Frag} {X : ι → Cx} {W : WX} {N : List Str} {mg : Str → Option Value}
end
theorem daAll_strs {K : PySem.W.Frag} {F : Hp} : ∀ ss : List Str, DaAll K F (ss.map V.str) (ss.map D.str)
 | [] => .nil
 | s :: r => .cons (.str s) (daAll_strs r)
theorem funD_mk {K : PySem.W.Frag} {x : Str} {st : Stmt} {f : Addr} {oc : Value} {od an : Option Addr} {osl : Array (Option Value)} {kV doc pm cdv ct : Value} (l : K.lookup f = some ⟨oc, od, .func (PySem.W.fnOf x x (defArgs st) (defBody st) (defScope st) .none kV doc pm an cdv ct), osl⟩) (c : PySem.W.codeIn K cdv x = true) (k : PySem.W.keepIn K (.ref f) = true) :
  FunD K x x (defArgs st) (defBody st) (defScope st) [] [] f (PySem.W.fnOf x x (defArgs st) (defBody st) (defScope st) .none kV doc pm an cdv ct) := ⟨⟨oc, od, .none, kV, doc, pm, an, cdv, ct, osl, rfl, l, c, .inl ⟨rfl, rfl⟩, .inl rfl⟩, k⟩
theorem fnIn_mk {K : PySem.W.Frag} {h : Heap} {mg : Str → Option Value} {x : Str} {st : Stmt} {ps : List Str} {f : Addr} {oc : Value} {od an : Option Addr} {osl : Array (Option Value)} {kV doc pm cdv ct : Value} (X : K.In h) (G : h.Ns mainGlobals mg) (a : PySem.W.nsIn K mainGlobals x = some (some (.ref f)))
  (l : K.lookup f = some ⟨oc, od, .func (PySem.W.fnOf x x (defArgs st) (defBody st) (defScope st) .none kV doc pm an cdv ct), osl⟩) (c : PySem.W.codeIn K cdv x = true) (k : PySem.W.keepIn K (.ref f) = true)
  (hb : ∀ (kV doc pm : Value) (an : Option Addr) (cdv ct : Value) (us : List Value), us.length = ps.length → bindArgs (PySem.W.fnOf x x (defArgs st) (defBody st) (defScope st) .none kV doc pm an cdv ct) ⟨us, []⟩ = pure (ps.zip us)) : FnIn K mg x st ps [] :=
 ⟨f, _, funD_mk (st := st) l c k, (fun_mk (st := st) l c k).binds hb, ⟨[], .nil, (fun_mk (st := st) l c k).binds hb⟩, PySem.W.mg_of X G a⟩
end G
namespace G
open PySem L2
section
variable {ι : Type} {M : MI} {xr : Str → Option Value} {K : PySem.W.Frag} {X : ι → Cx} {W : WX}
end
noncomputable def shw (d : D) : Str := (toPy d).shown
noncomputable def showOk (d : D) : Bool := lay d && ((toPy d).showable && (decide (dep d ≤ 290) && decide ((shw d).length ≤ 15000000)))
section
variable {ι : Type} {P : Program} {w : World} {K : PySem.W.Frag} {mg : Str → Option Value} {base : Heap} {N : List Str} {W : WX} {n : Nat} {X : ι → Cx}
end
end G
namespace G
open PySem L2
section
variable {ι : Type} {M : MI} {xr : Str → Option Value} {K : PySem.W.Frag} {X : ι → Cx} {W : WX} {N : List Str} {mg : Str → Option Value} {pos : Pos}
end
end G
namespace G
open PySem L2
theorem okG {P : Program} {w : World} {K : PySem.W.Frag} {mg : Str → Option Value} {base : Heap} {x qual : Str} {st : Stmt} {f : Addr} {fd : FuncData} {dvs : List V} {N ps : List Str} {k : Nat} {sp : Sp} (F : FunD K x qual (defArgs st) (defBody st) (defScope st) dvs [] f fd) (Sc : FnScope N ps (defScope st)) (len : ∀ vs H Q E, sp vs H Q E → vs.length = ps.length)
  (hb : ∀ (cdv : Value) (A : Around) (outer : List Env) (s : Shared) (H : Hp) (vs : List V) (Q : VK) (E : XK), RmG k (A.deeper (PyProof.Rows.envOfC qual (defScope st) s.heap.objs.size f cdv)) → A.guards = some [] → sp vs H Q E →
   ∃ t, PSs (cxOf (L2.CX P w) P w K mg base N qual (defScope st) f cdv A outer s H E) (defBody st) t ∧ t { nx := fun _ H' => Q .non H', rt := Q } (start N vs) H) : FnG P w K mg base (L2.CX P w) (k + 1) f fd ps sp := by
 obtain ⟨oc, od, dV, kV, doc, pm, an, cdv, ct, osl, rfl, lk, hcd, _, _⟩ := F.ex
 exact fnG lk hcd Sc len (fun A outer s H vs Q E hr hg h => hb cdv A outer s H vs Q E hr hg h)
end G
namespace G
open PySem L2
section
variable {ι : Type} {M : MI} {xr : Str → Option Value} {K : PySem.W.Frag} {X : ι → Cx} {W : WX}
noncomputable def sPar (i j : Nat) (g : Sm M (List S)) (z : Z M.T) : Rs Out (Z M.T) := (g z).bind fun ss z1 => match ss with
 | [.d x, .d y] => .ok .nx { z1 with rho := (z1.rho.set i (some (.d x))).set j (some (.d y)) }
 | _ => .bad
theorem ds_par {i j : Nat} {x y : Str} {a b : Expr} {g : Sm M (List S)} {px py pt pos : Pos} {kt k2 pt2} (hc : ∀ q, (X q).calm = true) (hN : ∀ q, (X q).N.Nodup) (hi : ∀ q, (X q).N[i]? = some x) (hj : ∀ q, (X q).N[j]? = some y) (hij : i ≠ j) (hx : ∀ q, (X q).env.scope.names.lookup x = some .local) (hy : ∀ q, (X q).env.scope.names.lookup y = some .local) (ha : DA M xr K X W [a, b] g)
  (hw : ∀ q, swappedStores [.Tuple [.Name x px, .Name y py] kt pt] (.Tuple [a, b] k2 pt2) (X q).env = pure (some [x, y]) := by intro _; rfl) (hs : ∀ q, swapsWithSole [.Tuple [.Name x px, .Name y py] kt pt] (.Tuple [a, b] k2 pt2) pos.line (X q).env = pure false := by intro _; rfl) :
  DS M xr K X W (.Assign [.Tuple [.Name x px, .Name y py] kt pt] (.Tuple [a, b] k2 pt2) pos) (sPar i j g) := by
 obtain ⟨t, p, c⟩ := ha
 refine ⟨_, fun q => ps_par (hc q) (hN q) (hi q) (hj q) hij (hx q) (hy q) (p q) (hw q) (hs q), fun G σ H F z D hK hx ok hh => ?_⟩
 refine c G σ H F z _ hK hx ok (hits_bind hh fun ss z1 vs H1 F1 _ sm ok1 ea h2 => ?_)
 match ss, vs, ea, h2 with
 | [.d x, .d y], _, .cons a (.cons b .nil), h2 =>
  refine ⟨_, _, rfl, h2 _ H1 F1 (Same.refl _) ?_⟩
  have ok2 := ok1.set (i := i) (s := .d x) (show Da G.K F1 _ x from a) (fun _ e => by cases e)
  exact ok2.set (i := j) (s := .d y) (show Da G.K F1 _ y from b) (fun _ e => by cases e)
 | [], _, _, h2 => exact h2.elim
 | [.d _], _, _, h2 => exact h2.elim
 | .l _ :: _, _, _, h2 => exact h2.elim
 | .v _ :: _, _, _, h2 => exact h2.elim
 | .m _ :: _, _, _, h2 => exact h2.elim
 | .d _ :: .l _ :: _, _, _, h2 => exact h2.elim
 | .d _ :: .v _ :: _, _, _, h2 => exact h2.elim
 | .d _ :: .m _ :: _, _, _, h2 => exact h2.elim
 | .d _ :: .d _ :: _ :: _, _, _, h2 => exact h2.elim
end
end G
namespace G
open PySem L2 PySem.Spec PyProof.Rows
section
variable {Y : Cx} {ps : List (Addr × Obj)} {τ : L2.St} {H : Hp} {t : Shared}
end
end G
namespace G
open PySem L2
structure XF (K : PySem.W.Frag) (mg : Str → Option Value) (x : Str) (C : Addr) : Prop where
  ns : PySem.W.nsIn K mainGlobals x = some (some (.ref C))
  gl : mg x = some (.ref C)
  ex : PySem.W.excIn K C [.type "ValueError", .type "Exception", .type "BaseException", .type "object"] "ValueError.__new__" = true
  kp : PySem.W.keepIn K (.ref C) = true
  sb : PySem.W.subIn K (.ref C) (.type "BaseException") = some true
  ty : PySem.W.typeIn K (.ref C) = some (.type "type")
theorem XF.xr {K : PySem.W.Frag} {mg : Str → Option Value} {x : Str} {C : Addr} (h : XF K mg x C) : xrK K x = some (.ref C) := by
 unfold xrK
 rw [h.ns]
section
variable {ι : Type} {M : MI} {P : Program} {w : World} {K : PySem.W.Frag} {mg : Str → Option Value} {base : Heap} {N : List Str} {W : WX} {n : Nat} {X : ι → Cx}
end
end G
namespace G
open PySem L2
section
variable {ι : Type} {M : MI} {xr : Str → Option Value} {K : PySem.W.Frag} {mg : Str → Option Value} {N : List Str} {W : WX} {X : ι → Cx}
theorem Rv.exc {F H : Hp} {v : V} {c : Str} (s : SameX F H) (h : Rv K F H v (.exc c [])) : ∃ a C, v = .ref a ∧ H a = some (XO (.ref C) none a) ∧ xrK K c = some (.ref C) := by
 rcases h with h | ⟨a, vs, xs, _, e, _⟩
 ·cases h with
  | exc q r => exact ⟨_, _, rfl, s.ext q, r⟩
 ·cases e
end
end G
namespace PySem
namespace BadX
open PySem.W PySem.Calls PyProof.Rows PySem.HandSPX
noncomputable def iA (p1 p2 : Pos) : Arguments := { posonlyargs := [], args := [{ arg := "self", annotation := none, pos := p1 }, { arg := "at", annotation := none, pos := p2 }], vararg := none, kwonlyargs := [], kw_defaults := [], kwarg := none, defaults := [] }
noncomputable def iB (q1 q2 q3 q4 : Pos) : List Stmt := [.Assign [.Attribute (.Name "self" q1) "at" q2] (.Name "at" q3) q4]
noncomputable def iS : Scope := { kind := .function, names := [(PySem.Str.ofString "self", .local), (PySem.Str.ofString "at", .local)], isGenerator := false, isCoroutine := false, more := [] }
structure LowTxt (K : Frag) (mg : Str → Option Value) (cn qn : Str) (C fI : Addr) : Prop where
  gC : mg cn = some (.ref C)
  cls : ∃ nm q N bs bm sn sub ab col dd k0 k1 k2 k3 k5, K.lookup C = some (excClassObj nm q C N bs bm true sn sub ab col dd k0 k1 k2 k3 k5 "ValueError.__new__") ∧ refsVE bm = true
  sa : findIn K (.ref C) "__setattr__" = some (some (.builtin "object.__setattr__"))
  ga : findIn K (.ref C) "__getattribute__" = some (some (.builtin "BaseException.__getattribute__"))
  gg : findIn K (.ref C) "__getattr__" = some none
  noN : findIn K (.ref C) "at" = some none
  iC : findIn K (.ref C) "__init__" = some (some (.ref fI))
  tC : typeIn K (.ref fI) = some (.type "function")
  kC : keepIn K (.ref C) = true
  exC : subIn K (.ref C) (.type "BaseException") = some true
  tyC : typeIn K (.ref C) = some (.type "type")
  hdC : hasDictIn K C = true
  te : exmOne K (.ref C) (.ref C) = some true
  fn : ∃ (oc : Value) (od : Option Addr) (doc pm : Value) (an : Option Addr) (cdv ct : Value) (osl : Array (Option Value)) (p1 p2 q1 q2 q3 q4 : Pos),
    K.lookup fI = some ⟨oc, od, .func (fnOf "__init__" qn (iA p1 p2) (iB q1 q2 q3 q4) iS .none .none doc pm an cdv ct), osl⟩ ∧ codeIn K cdv qn = true
structure InitEnd (h h' : Heap) (x C dx t1 : Addr) (v : Value) : Prop where
  keep : ∀ b o, b ≠ x → h.get? b = some o → h'.get? b = some o
  obj : h'.get? x = some { cls := .ref C, dict := some dx, data := .fields #[.ref t1, .none, .none, .none, .bool false, .none] }
  dbig : h.objs.size ≤ dx
  dne : dx ≠ x
  ns : h'.Ns1 dx (fun y => if y = "at" then some v else none)
structure OwnMade (h h' : Heap) (e C d : Addr) (v : Value) : Prop where
  keep : ∀ b o, h.get? b = some o → h'.get? b = some o
  new : h.objs.size ≤ e
  obj : ∃ oe vs, h'.get? e = some oe ∧ oe.cls = .ref C ∧ oe.dict = some d ∧ oe.data = .fields vs ∧ vs[1]? = some .none
  dbig : h.objs.size ≤ d
  dne : d ≠ e
  ns : h'.Ns1 d (fun y => if y = "at" then some v else none)
section
variable {prog : Program} {w : World} {A : Around} {E : Value → Shared → Prop} {R : Result → Shared → Prop} {s : Shared} {K : Frag} {mg : Str → Option Value} {C fI : Addr} {cn qn : Str}
end
end BadX
end PySem
namespace L2
open PySem PySem.Spec PyProof.Rows
section
variable {X : Cx} {C fI : Addr} {cn qn : Str}
end
end L2
namespace G
open PySem PySem.Spec PyProof.Rows L2
section
variable {prog : Program} {w : World} {A : Around} {E : Value → Shared → Prop} {s : Shared} {K : PySem.W.Frag} {x D : Addr} {ox : Obj} {od : Option Obj}
end
end G
namespace G
open PySem L2
noncomputable def Kept (H : Hp) (a C : Addr) : Prop := ∃ d, H a = some (XO (.ref C) d a) ∧ (d = none ∨ ∃ dd v, d = some dd ∧ H dd = some (.xd [(("at" : Str), v)]))
theorem Rv.kept {K : PySem.W.Frag} {F H : Hp} {v : V} {c : Str} {xs : List D} (s : SameX F H) (h : Rv K F H v (.exc c xs)) : ∃ a C, v = .ref a ∧ Kept H a C ∧ xrK K c = some (.ref C) := by
 rcases h with h | ⟨a, vs, xs, _, e, _⟩
 ·cases h with
  | exc q r => exact ⟨_, _, rfl, ⟨none, s.ext q, .inl rfl⟩, r⟩
  | excA q q2 t r => exact ⟨_, _, rfl, ⟨_, s.ext q, .inr ⟨_, _, rfl, s _ _ q2 (fun n e => by cases e)⟩⟩, r⟩
 ·cases e
section
variable {ι : Type} {M : MI} {xr : Str → Option Value} {K : PySem.W.Frag} {mg : Str → Option Value} {N : List Str} {W : WX} {X : ι → Cx}
end
section
variable {ι : Type} {M : MI} {P : Program} {w : World} {K : PySem.W.Frag} {mg : Str → Option Value} {base : Heap} {N : List Str} {W : WX} {n : Nat} {X : ι → Cx}
end
section
variable {ι : Type} {M : MI} {xr : Str → Option Value} {K : PySem.W.Frag} {mg : Str → Option Value} {N : List Str} {W : WX} {X : ι → Cx}
end
end G
namespace G
open PySem L2
noncomputable abbrev M0 : MI where
 T := Unit
 ok := fun _ _ _ ms _ => ms = []
 mono := fun _ _ _ h => h
noncomputable abbrev M2 : MI where
 T := Int
 ok := fun _ _ H ms t => ∃ a, ms = [a] ∧ H a = some (.lst [.int t])
 mono := fun {K F F' H H' ms t} hF _ hm h => by
  obtain ⟨a, rfl, h1⟩ := h
  exact ⟨a, rfl, (hm a (by simp)).trans h1⟩
section
variable {ι : Type} {xr : Str → Option Value} {K : PySem.W.Frag} {X : ι → Cx} {W : WX} {N : List Str} {mg : Str → Option Value}
end
end G
namespace G
open PySem L2 PySem.Spec PyProof.Rows
theorem meets_enum1 {v : Value} {o : Obj} {H : Heap → Prop} (B : Begins v o H) :
  Meets (Builtin.«enumerate.__new__» ⟨[.type "enumerate", v], []⟩) (fun _ R s => H s.heap ∧
   R (.ok (.ret (.ref (s.heap.push o).objs.size))) { s with heap := (s.heap.push o).push { cls := .type "enumerate", data := .fields #[.none, .bool false, .ref s.heap.objs.size, rawInt 0, .none, .none] } }) :=
 .of_wp fun prog w A R s hh => by
  obtain ⟨hp, gs, dr, tk, os⟩ := s
  obtain ⟨h1, hr⟩ := hh
  have hsub := sub_enumerate
  have itr : ∀ {A' : Around} {E : Value → Shared → Prop} {Q : Value → Shared → Prop}, Q (.ref hp.objs.size) ⟨hp.push o, gs, dr, tk, os⟩ → wpAny (model prog w) A' (pyIter v) Q E ⟨hp, gs, dr, tk, os⟩ :=
   fun q => B.iter prog w _ _ ⟨hp, gs, dr, tk, os⟩ _ h1 q
  wp_walk using itr
  refine wpAny_stack_any fun st => wpAny_pure ?_
  split
  ·rename_i c _ _ _ _ _
   cases (c == Value.type "enumerate")
   ·wp_walk using itr
    exact ⟨_, rfl, hr⟩
   ·wp_walk using itr
    exact ⟨_, rfl, hr⟩
  ·wp_walk using itr
   exact ⟨_, rfl, hr⟩
theorem enum1_begins {prog : Program} {w : World} {A : Around} {E : Value → Shared → Prop} {s : Shared} {v : Value} {o : Obj} {H : Heap → Prop} {Q : Value → Shared → Prop} (B : Begins v o H) (h1 : H s.heap)
  (hq : ∀ h', IsEnum h' (s.heap.objs.size + 1) s.heap.objs.size 0 .none → h'.get? s.heap.objs.size = some o → h'.objs.size = s.heap.objs.size + 2 → (∀ b u, s.heap.get? b = some u → h'.get? b = some u) → Q (.ref (s.heap.objs.size + 1)) { s with heap := h' }) :
  wpAny (model prog w) A (call (.type "enumerate") [v]) Q E s := by
 refine callType_new F.called_enumerate (by decide) (F.typeCall_enumerate_1 _) (F.newCall_enumerate_1 _) (fun obj => F.args_object_init_2 obj _) F.entry_enumerate_new (meets_enum1 B) ⟨h1, ?_⟩
 have z1 : (s.heap.push o).objs.size = s.heap.objs.size + 1 := Heap.size_push ..
 show _ ∧ _
 rw [z1]
 have ie : IsEnum ((s.heap.push o).push { cls := .type "enumerate", data := .fields #[.none, .bool false, .ref s.heap.objs.size, rawInt 0, .none, .none] }) (s.heap.objs.size + 1) s.heap.objs.size 0 .none := by
  have q := Heap.get?_push_size (s.heap.push o) (o := { cls := .type "enumerate", data := .fields #[.none, .bool false, .ref s.heap.objs.size, rawInt 0, .none, .none] }) rfl
  rw [z1] at q
  exact q
 exact ⟨⟨_, ie, rfl⟩, hq _ ie (Heap.get?_push_of_some _ (Heap.get?_push_size _ B.free)) (by rw [Heap.size_push, z1]) fun b u x => Heap.get?_push_of_some _ (Heap.get?_push_of_some _ x)⟩
noncomputable def IteT (K : PySem.W.Frag) (a : Addr) : It :=
 ⟨fun i H => ∃ (ys : List V) (y : V), SqT K H a ys ∧ ys[i]? = some y, fun i H v H' => ∃ T y, v = .ref T ∧ H T = none ∧ H' = upd H T (.tup [.int (i : Nat), y]) ∧ ∀ ys, SqT K H a ys → ys[i]? = some y, fun i H => ∃ ys : List V, SqT K H a ys ∧ ys.length = i⟩
theorem turn_enumT {P : Program} {w : World} {K : PySem.W.Frag} {elts : List Expr} {kk : Nat} {tpos : Pos} (a e it : Addr) :
  Turn P w K (.Tuple elts kk tpos) (IteT K a) [e, it] e (fun i h => (∃ old, IsEnum h e it ((i : Nat) : Int) old) ∧ h.IsTupleIter it a i ∧ e ≠ it) where
 mem := by simp
 obj := fun i h st b hb => by
  obtain ⟨⟨old, he⟩, ⟨o, ho, hc, hd⟩, _⟩ := st
  rcases (show b = e ∨ b = it by simpa using hb) with z | z
  ·rw [z]; exact ⟨_, he, fun v q => nomatch q⟩
  ·rw [z]; exact ⟨o, ho, fun v q => by rw [hd] at q; cases q⟩
 keep := fun i h h' st k => by
  obtain ⟨⟨old, he⟩, hi, hne⟩ := st
  exact ⟨⟨old, k e (by simp) _ he⟩, hi.at fun o q => k it (by simp) o q, hne⟩
 item := by
  intro X hP hw hK hc i pins s σ H E I hf st hg
  subst hP hw hK
  obtain ⟨⟨old, he⟩, hit, hne⟩ := st
  obtain ⟨ys, y, hq, hy⟩ := hg
  obtain ⟨its, rv, tp, hz⟩ := I.tuple hq
  have hil : i < its.toArray.size := by
   have := (List.getElem?_eq_some_iff.mp hy).1
   rw [List.size_toArray, ← rv.length]
   exact this
  have lte : e < s.heap.objs.size := Heap.lt_size he
  have lti : it < s.heap.objs.size := by obtain ⟨_, q, _⟩ := hit; exact Heap.lt_size q
  have ane : a ≠ e := fun z => by
   obtain ⟨o, g1, g2, _⟩ := tp
   rw [z, he] at g1
   cases g1
   exact absurd g2 (by simp)
  have ani : a ≠ it := fun z => by
   obtain ⟨o, g1, g2, _⟩ := tp
   obtain ⟨o', g3, g4, _⟩ := hit
   rw [z, g3] at g1
   cases g1
   rw [g4] at g2
   exact absurd g2 (by simp)
  refine wpAny_pyNext_enum_itemD (Draws.tuple (A := X.A.in1) (show X.A.handled = none from I.ok.hd hc) it a ani its.toArray) he ⟨hit, tp⟩ hil hne (by simp [hne, Ne.symm ane]) fun x h' tk hx ho hst hT hsz hk => ?_
  refine ⟨_, rfl, wpAny_letOwnedTupleGo_enum (s := { s with heap := h', toks := tk + 1 }) ho fun h2 he' sb => ?_⟩
  have hT2 : h2.get? s.heap.objs.size = some { cls := .type "tuple", data := .seq #[.int i tk, x] } := (sb.2 _ (Nat.ne_of_gt lte)).trans hT
  obtain ⟨u, hu, ru⟩ := rv.get hy
  have eu : x = u := by
   have hx' : its.toArray[i]? = some x := hx
   have : its.toArray[i]? = some u := by simpa using hu
   rw [hx'] at this
   exact Option.some.inj this
  subst eu
  have new : ObjOk X.prog X.w (upd H s.heap.objs.size (.tup [.int (i : Nat), y])) h2 s.heap.objs.size (.tup [.int (i : Nat), y]) :=
   ⟨by show 2 ≤ sizeLine; rw [sizeLine_eq]; decide, [.int i tk, x], .cons ⟨_, rfl⟩ (.cons ru .nil), ⟨_, hT2, rfl, _, rfl⟩⟩
  have I1 : Inv X pins σ (upd H s.heap.objs.size (.tup [.int (i : Nat), y])) { s with heap := h2, toks := tk + 1 } :=
   I.turnedNew (ch := [e, it]) (fun b ob hb q => (sb.2 b (fun z => hb (by simp [z]))).trans (hk b ob (fun z => hb (by simp [z])) (fun z => hb (by simp [z])) q)) hf (Nat.le_refl _) new
  refine ⟨.ref s.heap.objs.size, _, I1, rfl, ⟨_, y, rfl, I.hok.fresh (Nat.le_refl _), rfl, fun zs hy2 => by rw [I.tuple_inj hy2 hq]; exact hy⟩, ⟨⟨x, ?_⟩, hst.1.at fun o q => (sb.2 it (Ne.symm hne)).trans q, hne⟩, fun b hb => ?_⟩
  ·have e1 : ((i + 1 : Nat) : Int) = (i : Int) + 1 := by omega
   rw [e1]
   exact he'
  ·have lb : b < s.heap.objs.size := by
    rcases (show b = e ∨ b = it by simpa using hb) with z | z
    ·rw [z]; exact lte
    ·rw [z]; exact lti
   rw [upd_ne (Nat.ne_of_lt lb)]
   exact (hf b hb).1
 done := by
  intro X hP hw hK hc i pins s σ H E I hf st hg
  subst hP hw hK
  obtain ⟨⟨old, he⟩, hit, hne⟩ := st
  obtain ⟨ys, hq, hy⟩ := hg
  obtain ⟨its, rv, tp, hz⟩ := I.tuple hq
  obtain ⟨f0, f1, f2, f3, f4, f5⟩ := hf it (by simp)
  have ani : a ≠ it := fun z => by
   obtain ⟨o, g1, g2, _⟩ := tp
   obtain ⟨o', g3, g4, _⟩ := hit
   rw [z, g3] at g1
   cases g1
   rw [g4] at g2
   exact absurd g2 (by simp)
  have en : its.toArray.size = i := by rw [List.size_toArray, ← rv.length]; exact hy
  refine wpAny_pyNext_enum_endD (Draws.tuple (A := X.A.in1) (show X.A.handled = none from I.ok.hd hc) it a ani its.toArray) he (by rw [en]; exact ⟨hit, tp⟩) fun h' eb => ⟨rfl, I.turned (t' := s.toks) (fun b o hb q => eb b o hb q) f0 f1 f3 f4 f5⟩
 self := fun A i s Q E st h => by
  obtain ⟨⟨_, he⟩, _⟩ := st
  exact wpAny_pyIter_enum he h
noncomputable def iEnumA (K : PySem.W.Frag) (te : TE) : TI := fun σ H R => te σ H fun v H1 => (∃ a ys, v = .ref a ∧ SqL K H1 a ys ∧ R (Ite K a) H1) ∨ (∃ a ys, v = .ref a ∧ SqT K H1 a ys ∧ R (IteT K a) H1)
theorem pi_enumA {X : Cx} {e : Expr} {te : TE} {p pos tpos : Pos} {elts : List Expr} {kk : Nat} (hg : Gl X "enumerate") (hm : X.mg "enumerate" = none) (he : PE X e te) (hs : starEach [e] X.env = (false, eval e X.env) :: starEach [] X.env := by rfl) :
  PI X (.Tuple elts kk tpos) (.Call (.Name "enumerate" p) [e] [] pos) (iEnumA X.K te) := by
 refine ⟨fun pins s σ H R I h => ?_⟩
 refine Call_ (ld_blt I hg hm boot_enumerate (PyProof.Rows.callWith_type1 (args_cons (thn (he.run pins s σ H _ I h) fun u s1 ⟨v, H1, I1, r1, q1⟩ => args_nil ?_) hs) hs))
 have new : ∀ b, (b = s1.heap.objs.size + 1 ∨ b = s1.heap.objs.size) → FpOk X pins H1 b := fun b e' => by
  have hle : s1.heap.objs.size ≤ b := by
   rcases e' with z | z
   ·rw [z]; exact Nat.le_add_right _ _
   ·rw [z]; exact Nat.le_refl _
  exact I1.fpOk hle (I1.hok.fresh hle)
 rcases q1 with ⟨a, ys, rfl, hq, q⟩ | ⟨a, ys, rfl, hq, q⟩
 ·cases (show u = Value.ref a from r1)
  obtain ⟨its, rv, pl, hz⟩ := I1.list hq
  refine call_enumerate_list pl.isList fun h' ie hit hsz hk => wpAny_pyIter_enum ie ?_
  have I2 : Inv X pins σ H1 { s1 with heap := h' } := I1.kept (t' := s1.toks) hk
  exact ⟨s1.heap.objs.size + 1, [s1.heap.objs.size + 1, s1.heap.objs.size], _, _, H1, rfl, I2, turn_enum a (s1.heap.objs.size + 1) s1.heap.objs.size, ⟨⟨.none, ie⟩, hit, Nat.succ_ne_self _⟩, fun b hb => new b (by simpa using hb), q⟩
 ·cases (show u = Value.ref a from r1)
  obtain ⟨its, rv, tp, hz⟩ := I1.tuple hq
  refine enum1_begins (begins_tuple a its.toArray) tp fun h' ie hit hsz hk => wpAny_pyIter_enum ie ?_
  have I2 : Inv X pins σ H1 { s1 with heap := h' } := I1.kept (t' := s1.toks) hk
  exact ⟨s1.heap.objs.size + 1, [s1.heap.objs.size + 1, s1.heap.objs.size], _, _, H1, rfl, I2, turn_enumT a (s1.heap.objs.size + 1) s1.heap.objs.size, ⟨⟨.none, ie⟩, ⟨_, hit, rfl, rfl⟩, Nat.succ_ne_self _⟩, fun b hb => new b (by simpa using hb), q⟩
section
variable {ι : Type} {M : MI} {xr : Str → Option Value} {K : PySem.W.Frag} {X : ι → Cx} {W : WX} {N : List Str} {mg : Str → Option Value} {pos : Pos}
noncomputable def enumD (ds : List D) : List D := (List.range ds.length).map fun (i : Nat) => D.tup [.int (i : Int), ds.getD i .non]
noncomputable def iEnM (f : Sm M S) (z : Z M.T) : Rs (List D) (Z M.T) := (escf f z).bind fun s z1 => match s with
 | .d (.lst ds) => .ok (enumD ds) z1
 | .d (.tup ds) => .ok (enumD ds) z1
 | _ => .bad
theorem enumD_len (ds : List D) : (enumD ds).length = ds.length := by unfold enumD; simp
theorem enumD_at {ds : List D} {i : Nat} {d : D} (h : ds[i]? = some d) : (enumD ds)[i]? = some (.tup [.int (i : Int), d]) := by
 have hi : i < ds.length := (List.getElem?_eq_some_iff.mp h).1
 unfold enumD
 rw [List.getElem?_map, List.getElem?_range hi, Option.map_some, List.getD_eq_getElem?_getD, h]
 rfl
theorem yd_pair {F H H' : Hp} {vs : List V} {ds : List D} {i : Nat} {v y : V} {T : Addr} (r : DaAll K F vs ds) (hi : vs[i]? = some y) (e1 : v = .ref T) (e2 : H T = none) (e3 : H' = upd H T (.tup [.int (i : Nat), y])) : YD K F (enumD ds) i H v H' := by
 subst e1 e3
 obtain ⟨d, hd, da⟩ := r.getV hi
 refine ⟨_, enumD_at hd, fun F1 s1 s2 st => ⟨upd F1 T (.tup [.int (i : Nat), y]), same_upd (freeX s2 st e2), same_upd2 s2, fun b o e => ?_, fun a ps e => (tgk_newF (o := .tup [.int (i : Nat), y]) (H := H) (u := .tup []) (freeX s2 st e2) tupNT a ps e).1, .tup (SqT.of upd_same) (.cons (.int _) (.cons ((da.mono s1).mono (same_upd (freeX s2 st e2))) .nil))⟩⟩
 have nb := ne_of_none e e2
 exact ⟨by rw [upd_ne nb]; exact e, upd_ne nb⟩
theorem walk_enumT {a : Addr} {ys : List V} : Walk (IteT K a) ys.length (fun H => SqT K H a ys) (YPair (fun i => some (.int (i : Nat))) (fun i => ys[i]?)) := by
 refine ⟨fun i _ hi q => ⟨ys, ys[i], q, by simp [hi]⟩, fun _ q => ⟨ys, q, rfl⟩, fun i H v H' _ q y => ?_⟩
 obtain ⟨T, x, h1, h2, h3, h4⟩ := y
 exact ⟨T, .int (i : Nat), x, h1, h2, h3, rfl, h4 ys q⟩
theorem di_enum {elts : List Expr} {kk : Nat} {tpos pp : Pos} {e : Expr} {g : Sm M S} (p : Pl K X N mg) (hm : mg "enumerate" = none) (h : DE M xr K X W e g) (hg : ∀ j, Gl (X j) "enumerate" := by intro _; rfl) (hs : ∀ j, starEach [e] (X j).env = (false, eval e (X j).env) :: starEach [] (X j).env := by intro _; rfl) :
  DI M xr K X W (.Tuple elts kk tpos) (.Call (.Name "enumerate" pp) [e] [] pos) (iEnM g) := by
 obtain ⟨t, pe, c⟩ := h
 refine ⟨iEnumA K t, fun j => by rw [← p.k j]; exact pi_enumA (hg j) (by rw [p.g j]; exact hm) (pe j) (hs j), fun G σ H F z Q hK hx ok hh => ?_⟩
 refine cmp_esc c G σ H F z _ hK hx ok (hit_bind hh fun s z1 v H1 F1 _ sm ok1 ev h1 => ?_)
 subst hK
 clear hh
 match s, ev, h1 with
 | .d (.lst ds), ev, h1 =>
  have ev' : Da G.K F1 v (.lst ds) := ev
  clear ev
  cases ev' with
  | lst q r =>
   rename_i a vs
   refine .inl ⟨a, vs, rfl, SqL.of (ok1.sub.lst q), h1 _ H1 F1 (Same.refl _) ok1 ?_⟩
   have wk := (walk_enum (K := G.K) (a := a) (xs := vs)).mono (G' := fun H => SameX F1 H) (Y' := YD G.K F1 (enumD ds)) (fun H s => SqL.of (s.lst q)) (fun i H x H' hi _ ⟨T, x1, y1, e1, e2, e3, e4, e5⟩ => by
    cases e4
    exact yd_pair r e5 e1 e2 e3)
   rw [r.length, ← enumD_len ds] at wk
   exact wk
 | .d (.tup ds), ev, h1 =>
  have ev' : Da G.K F1 v (.tup ds) := ev
  clear ev
  cases ev' with
  | tup q r =>
   rename_i a vs
   refine .inr ⟨a, vs, rfl, ok1.sub.tup q, h1 _ H1 F1 (Same.refl _) ok1 ?_⟩
   have wk := (walk_enumT (K := G.K) (a := a) (ys := vs)).mono (G' := fun H => SameX F1 H) (Y' := YD G.K F1 (enumD ds)) (fun H s => s.tup q) (fun i H x H' hi _ ⟨T, x1, y1, e1, e2, e3, e4, e5⟩ => by
    cases e4
    exact yd_pair r e5 e1 e2 e3)
   rw [r.length, ← enumD_len ds] at wk
   exact wk
 | .d .non, _, h1 => exact h1.elim
 | .d (.bl _), _, h1 => exact h1.elim
 | .d (.int _), _, h1 => exact h1.elim
 | .d (.str _), _, h1 => exact h1.elim
 | .d (.scr _), _, h1 => exact h1.elim
 | .d .emp, _, h1 => exact h1.elim
 | .d (.exc _ _), _, h1 => exact h1.elim
 | .d (.o _), _, h1 => exact h1.elim
 | .l _, _, h1 => exact h1.elim
 | .v _, _, h1 => exact h1.elim
 | .m _, _, h1 => exact h1.elim
end
end G
namespace G
open PySem L2 PySem.Spec PyProof.Rows HT
section
variable {prog : Program} {w : World} {A : Around} {E : Value → Shared → Prop} {s : Shared}
theorem places_rev (n : Nat) : Builtin.Slice.slicePlaces ((n : Int) - 1) (-1) (-1) = n := by
 unfold Builtin.Slice.slicePlaces
 have h1 : ¬ ((-1 : Int) > 0) := by decide
 simp only [h1, if_false]
 split
 ·have e : (- (-1 : Int)) = 1 := by decide
  rw [e, Int.ediv_one]
  omega
 ·omega
theorem applied_rev {sl : Addr} {vs : Value} {n : Nat} {Q : Int × Int × Nat → Shared → Prop} (hs : s.heap.IsSliceOf sl .none .none vs) (ps : IsPart vs (some (-1))) (h : Q ((n : Int) - 1, -1, n) s) :
  wpAny (model prog w) A (Builtin.Slice.sliceApplied (.ref sl) (pure (n : Int))) Q E s := by
 obtain ⟨ob, hob, hcb, hdb⟩ := id hs
 unfold Builtin.Slice.sliceApplied Builtin.Slice.sliceFields
 refine wpAny_bind (wpAny_bind (wpAny_field hob hdb (x := .none) rfl (wpAny_bind (wpAny_field hob hdb (x := .none) rfl (wpAny_bind (wpAny_field hob hdb (x := vs) rfl (wpAny_pure ?_)))))))
 refine wpAny_bind (slicePart_ ps ?_)
 show wpAny _ _ (if ((-1 : Int) == 0) = true then _ else _) _ _ s
 rw [if_neg (by decide)]
 refine wpAny_bind (slicePart_none (wpAny_bind (slicePart_none (wpAny_bind (wpAny_pure ?_)))))
 show wpAny _ _ (pure ((n : Int) - 1, (-1 : Int), Builtin.Slice.slicePlaces ((n : Int) - 1) (-1) (-1))) _ _ s
 rw [places_rev]
 exact wpAny_pure h
theorem fm_congr {α β : Type} {f g : α → Option β} : ∀ {l : List α}, (∀ x ∈ l, f x = g x) → l.filterMap f = l.filterMap g
 | [], _ => rfl
 | x :: r, h => by
  rw [List.filterMap_cons, List.filterMap_cons, h x List.mem_cons_self, fm_congr fun y hy => h y (List.mem_cons_of_mem _ hy)]
theorem pick_rev (xs : Array Value) : ((List.range xs.size).filterMap fun (m : Nat) => xs[((xs.size : Int) - 1 + (m : Int) * (-1)).toNat]?).toArray = xs.toList.reverse.toArray := by
 have e : (List.range xs.size).filterMap (fun (m : Nat) => xs[((xs.size : Int) - 1 + (m : Int) * (-1)).toNat]?) = (List.range xs.size).filterMap fun m => xs[xs.size - 1 - m]? := by
  refine fm_congr fun m hm => ?_
  have : m < xs.size := List.mem_range.mp hm
  have e : ((xs.size : Int) - 1 + (m : Int) * (-1)).toNat = xs.size - 1 - m := by omega
  rw [e]
 have e2 : (List.range xs.size).filterMap (fun m => xs[xs.size - 1 - m]?) = ((List.range xs.size).map fun k => xs.size - 1 - k).filterMap (xs[·]?) := by rw [List.filterMap_map]; rfl
 rw [e, e2, PySem.W.krv_range, List.filterMap_reverse, PySem.W.krv_all]
theorem getItem_rev {t sl : Addr} {items : Array Value} {vs : Value} {Q : Value → Shared → Prop} (ht : IsTup s.heap t items) (hs : s.heap.IsSliceOf sl .none .none vs) (ps : IsPart vs (some (-1)))
  (h : Q (.ref s.heap.objs.size) { s with heap := s.heap.push { cls := .type "tuple", data := .seq items.toList.reverse.toArray } }) (hsz : items.size ≤ sizeLine) : wpAny (model prog w) A (getItem (.ref t) (.ref sl)) Q E s := by
 have fits : sizeOk (.seq items.toList.reverse.toArray) := by
  show items.toList.reverse.toArray.size ≤ sizeLine
  rw [List.size_toArray, List.length_reverse, Array.length_toList]
  exact hsz
 obtain ⟨ob, hob, hcb, hdb⟩ := id hs
 have tyS : s.TypeIs (.ref sl) "slice" := ⟨ob, hob, hcb⟩
 unfold getItem
 try with_reducible refine wpAny_holding ?_
 first | refine wpAny_bind (wpAny_pure ?_) | skip
 refine wpAny_bind (wpAny_sequenceKey ht.typeIs (by decide) ?_)
 refine wpAny_bind (wpAny_callSpecial?_slot (name := Str.ofString "__getitem__") ht.typeIs PyProof.Rows.slot_tuple_getitem (wpAny_call_entry PyProof.Rows.slot_tuple_getitem ht.typeIs entry_tuple_getitem ?_ (args_tuple_getitem _ _)))
 show wpAny _ _ (Builtin.Tuple.tupleItemsOf (.ref t) >>= _) _ _ s
 refine wpAny_bind (tupleItemsOf_ ht ?_)
 refine wpAny_bind (wpAny_typeOf tyS ?_)
 rw [if_pos (by decide)]
 refine wpAny_bind (applied_rev hs ps ?_)
 have no : ¬ ((((items.size : Int) - 1) == 0 && (-1 : Int) == 1 && items.size == items.size) = true) := by simp
 show wpAny _ _ (if (((items.size : Int) - 1) == 0 && (-1 : Int) == 1 && items.size == items.size) = true then _ else _) _ _ s
 rw [if_neg no, pick_rev]
 first
  | exact wpAny_bind (m := Builtin.Tuple.tupleExact _) (wpAny_newObj_type (wpAny_pure ⟨_, rfl, wpAny_pure h⟩) fits)
  | exact wpAny_bind (m := Builtin.Tuple.tupleExact _) (wpAny_newObj_type (wpAny_bind (wpAny_pure (wpAny_pure ⟨_, rfl, wpAny_pure h⟩))) fits)
  | exact wpAny_bind (wpAny_bind (m := Builtin.Tuple.tupleExact _) (wpAny_newObj_type (wpAny_pure (wpAny_pure ⟨_, rfl, wpAny_pure h⟩)) fits))
  | exact wpAny_bind (wpAny_bind (m := Builtin.Tuple.tupleExact _) (wpAny_newObj_type (wpAny_pure ⟨_, rfl, wpAny_pure h⟩) fits))
end
noncomputable def tRevA (K : PySem.W.Frag) (te : TE) : TE := fun σ H Q => te σ H fun x H1 => (∃ a ys, x = .ref a ∧ SqL K H1 a ys ∧ ∀ q, H1 q = none → Q (.ref q) (upd H1 q (.lst ys.reverse))) ∨ (∃ a ys, x = .ref a ∧ SqT K H1 a ys ∧ ∀ q, H1 q = none → Q (.ref q) (upd H1 q (.tup ys.reverse)))
theorem pe_revA {X : Cx} {e : Expr} {te : TE} {k : Nat} {p1 p2 p3 pos : Pos} (he : PE X e te) : PE X (.Subscript e (.Slice none none (some (.UnaryOp .USub (.Constant (.int 1) k p1) p2)) p3) pos) (tRevA X.K te) := by
 refine ⟨fun pins s σ H Q I h => ?_⟩
 refine Subscript_ (thn (he.run pins s σ H _ I h) fun v s1 ⟨x, H1, I1, r1, q1⟩ => ?_)
 have hst : PO X (some (.UnaryOp .USub (.Constant (.int 1) k p1) p2)) (tPart (tUn (rU fun i => .int (-i)) (tC (.int 1)))) := po_some (pe_un un_neg pe_int)
 refine wpAny_Slice (thn (po_none.run pins s1 σ H1 (fun o H2 => o = none ∧ H2 = H1) I1 ⟨rfl, rfl⟩) fun vl s2 ⟨l, H2, I2, pl, el, e2⟩ => ?_)
 subst el e2
 refine thn (po_none.run pins s2 σ H2 (fun o H3 => o = none ∧ H3 = H2) I2 ⟨rfl, rfl⟩) fun vu s3 ⟨u, H3, I3, pu, eu, e3⟩ => ?_
 subst eu e3
 refine thn (hst.run pins s3 σ H3 (fun o H4 => o = some (-1) ∧ H4 = H3) I3 ⟨1, rfl, -1, rfl, rfl, rfl⟩) fun vs s4 ⟨o, H4, I4, ps, eo, e4⟩ => ?_
 subst eo e4
 have I5 : Inv X pins σ H4 { s4 with heap := s4.heap.push { cls := .type "slice", data := .fields #[vl, vu, vs] } } := I4.kept (t' := s4.toks) fun b ob q => Heap.get?_push_of_some _ q
 rcases q1 with ⟨a, ys, ex, hx, q⟩ | ⟨a, ys, ex, hx, q⟩
 ·subst ex
  cases r1
  obtain ⟨its, r, ht, hz⟩ := I5.list hx
  have hlen := r.length
  show wpAny (model X.prog X.w) X.A (subscriptTail e (.Slice none none (some (.UnaryOp .USub (.Constant (.int 1) k p1) p2)) p3) (.ref a) (.ref s4.heap.objs.size)) (EP X pins σ Q) X.xe _
  refine tail_any (ops := [.ref a, .ref s4.heap.objs.size]) ht.isList.typeIs (PySem.slot_list_getitem.lookup) ?_ (by with_unfolding_all rfl)
  refine wpAny_getItem_list_slice ht.isList (Heap.IsSliceOf.new _ vl vu vs) pl pu ps (by decide) ?_ (by rw [List.size_toArray]; omega)
  rw [PySem.W.krv_pick]
  exact ⟨.ref _, _, I5.laid (t' := s4.toks) (o := .lst ys.reverse) (fun b ob q => Heap.get?_push_of_some _ q) (Nat.le_refl _) ⟨by rw [List.length_reverse]; exact hz, _, 0, r.reverse, Heap.get?_push_size _ rfl⟩, rfl, q _ (I5.hok.fresh (Nat.le_refl _))⟩
 ·subst ex
  cases r1
  obtain ⟨its, r, ht, hz⟩ := I5.tuple hx
  have hlen := r.length
  cases pl
  cases pu
  show wpAny (model X.prog X.w) X.A (subscriptTail e (.Slice none none (some (.UnaryOp .USub (.Constant (.int 1) k p1) p2)) p3) (.ref a) (.ref s4.heap.objs.size)) (EP X pins σ Q) X.xe _
  refine tail_any (ops := [.ref a, .ref s4.heap.objs.size]) ht.typeIs (PyProof.Rows.slot_tuple_getitem.lookup) ?_ (by with_unfolding_all rfl)
  refine getItem_rev ht (Heap.IsSliceOf.new _ .none .none vs) ps ?_ (by rw [List.size_toArray]; omega)
  exact ⟨.ref _, _, I5.laid (t' := s4.toks) (o := .tup ys.reverse) (fun b ob q => Heap.get?_push_of_some _ q) (Nat.le_refl _) ⟨by rw [List.length_reverse]; exact hz, _, r.reverse, IsTup.new _ _⟩, rfl, q _ (I5.hok.fresh (Nat.le_refl _))⟩
noncomputable def dRev : D → Option R := fun d => match d with
 | .tup xs => some (.t xs.reverse)
 | .lst xs => some (.l xs.reverse)
 | _ => none
section
variable {ι : Type} {M : MI} {xr : Str → Option Value} {K : PySem.W.Frag} {X : ι → Cx} {W : WX} {N : List Str} {mg : Str → Option Value} {pos : Pos}
theorem de_rev {e : Expr} {g : Sm M S} {k : Nat} {p1 p2 p3 pos : Pos} (p : Pl K X N mg) (h : DE M xr K X W e g) : DE M xr K X W (.Subscript e (.Slice none none (some (.UnaryOp .USub (.Constant (.int 1) k p1) p2)) p3) pos) (eUn dRev g) := by
 obtain ⟨t, pe, c⟩ := h
 refine ⟨tRevA K t, fun j => by rw [← p.k j]; exact pe_revA (pe j), fun G σ H F z Q hK hx ok hh => ?_⟩
 refine cmp_opd c G σ H F z _ hK hx ok (hit_bind hh fun s z1 v H1 F1 _ sm1 ok1 e1 h1 => ?_)
 have q := fin_hit ok1 h1
 cases er : rd z1 s with
 | none => rw [er] at q; exact q.elim
 | some x =>
  rw [er] at q
  have q' : Hit0 G.K F1 H1 (dRev x) Q := q
  have rv := EO.rv ok1 e1 er
  subst hK
  unfold dRev at q'
  split at q'
  ·obtain ⟨a, vs, rfl, a1, a2⟩ := rv.tup ok1.sub
   exact .inr ⟨a, vs, rfl, a1, fun p hp => q'.2 p _ hp a2.reverse⟩
  ·obtain ⟨a, vs, rfl, a1, a2⟩ := rv.lst ok1.sub
   exact .inl ⟨a, vs, rfl, SqL.of a1, fun p hp => q' p _ hp a2.reverse⟩
  ·exact q'.elim
end
end G
namespace G
open PySem L2
section
variable {ι : Type} {M : MI} {xr : Str → Option Value} {K : PySem.W.Frag} {X : ι → Cx} {W : WX} {a b : Expr} {f f' : Sm M S} {pos : Pos}
end
end G
namespace G
open PySem L2
end G
namespace G
open PySem L2
end G
namespace G
open PySem L2
inductive Th where
  | var (k : Int)
  | call (f : Str) (as : List Th)
  | rel (r : Str) (as : List Th)
  | same (a b : Th)
  | no
  | and (a b : Th)
  | or (a b : Th)
  | imp (a b : Th)
  | all (s : Str) (a : Th)
  | some (s : Str) (a : Th)
mutual
noncomputable def size : Th → Nat
 | .var _ => 1
 | .call _ as => 1 + sizes as
 | .rel _ as => 1 + sizes as
 | .same a b => 1 + (size a + size b)
 | .no => 1
 | .and a b => 1 + (size a + size b)
 | .or a b => 1 + (size a + size b)
 | .imp a b => 1 + (size a + size b)
 | .all _ a => 1 + size a
 | .some _ a => 1 + size a
noncomputable def sizes : List Th → Nat
 | [] => 0
 | t :: r => size t + sizes r
end
mutual
noncomputable def depth : Th → Nat
 | .var _ => 1
 | .call _ as => 1 + depths as
 | .rel _ as => 1 + depths as
 | .same a b => 1 + max (depth a) (depth b)
 | .no => 1
 | .and a b => 1 + max (depth a) (depth b)
 | .or a b => 1 + max (depth a) (depth b)
 | .imp a b => 1 + max (depth a) (depth b)
 | .all _ a => 1 + depth a
 | .some _ a => 1 + depth a
noncomputable def depths : List Th → Nat
 | [] => 0
 | t :: r => max (depth t) (depths r)
end
end G
namespace G
open PySem L2
end G
namespace G
theorem lm0 : (0 ≤ lim) = True := eq_true (by decide)
theorem lm1 : (0 + 1 ≤ lim) = True := eq_true (by decide)
theorem lm2 : (0 + 1 + 1 ≤ lim) = True := eq_true (by decide)
theorem lm3 : (0 + 1 + 1 + 1 ≤ lim) = True := eq_true (by decide)
theorem lm4 : (0 + 1 + 1 + 1 + 1 ≤ lim) = True := eq_true (by decide)
theorem lm5 : (0 + 1 + 1 + 1 + 1 + 1 ≤ lim) = True := eq_true (by decide)
theorem lm6 : (0 + 1 + 1 + 1 + 1 + 1 + 1 ≤ lim) = True := eq_true (by decide)
theorem lm7 : (0 + 1 + 1 + 1 + 1 + 1 + 1 + 1 ≤ lim) = True := eq_true (by decide)
theorem lm8 : (0 + 1 + 1 + 1 + 1 + 1 + 1 + 1 + 1 ≤ lim) = True := eq_true (by decide)
theorem lm9 : (0 + 1 + 1 + 1 + 1 + 1 + 1 + 1 + 1 + 1 ≤ lim) = True := eq_true (by decide)
theorem lm10 : (0 + 1 + 1 + 1 + 1 + 1 + 1 + 1 + 1 + 1 + 1 ≤ lim) = True := eq_true (by decide)
theorem lm11 : (0 + 1 + 1 + 1 + 1 + 1 + 1 + 1 + 1 + 1 + 1 + 1 ≤ lim) = True := eq_true (by decide)
theorem lm12 : (0 + 1 + 1 + 1 + 1 + 1 + 1 + 1 + 1 + 1 + 1 + 1 + 1 ≤ lim) = True := eq_true (by decide)
end G
namespace G
open PySem L2
theorem lc_mapE {M : MI} {i : Nat} {e : Sm M S} {α : Type} (en : α → D) {g : α → D} {z : Z M.T} (hz : wipeZ z [i] = z) : ∀ (ts : List α) (acc : List D), acc.length + ts.length ≤ lim →
  (∀ t ∈ ts, ∃ z1, escf e { z with rho := z.rho.set i (some (.d (en t))) } = .ok (.d (g t)) z1 ∧ wipeZ z1 [i] = z) → lcL (kName i) (fun z => .ok true z) e [i] (ts.map en) acc z = .ok (acc ++ ts.map g) z
 | [], acc, _, _ => by simp [lcL]
 | d :: r, acc, hl, h => by
  obtain ⟨z1, h1, h2⟩ := h d List.mem_cons_self
  rw [List.length_cons] at hl
  rw [List.map_cons]
  unfold lcL
  simp only [kName, nox, Rs.bind_ok, if_true, h1]
  rw [if_pos (by omega), h2, lc_mapE en hz r (acc ++ [g d]) (by rw [List.length_append, List.length_singleton]; omega) (fun d hd => h d (List.mem_cons_of_mem _ hd))]
  simp
theorem eqD_int (i j : Int) : eqD (.int i) (.int j) = (i == j) := by simp [eqD, toPy, PyData.eqv]
theorem eqD_str (i j : Str) : eqD (.str i) (.str j) = (i == j) := by simp [eqD, toPy, PyData.eqv]
end G
namespace G
open PySem L2
theorem noOwn_one {rho : List (Option S)} {i : Nat} (h : rho.set i none = rho) : noOwn rho [i] = true := by
 unfold noOwn
 rw [List.all_cons, List.all_nil, Bool.and_true, ← h, List.getElem?_set]
 simp only [if_true]
 split
 ·rename_i h; split at h <;> cases h
 ·rfl
theorem rest_one {rho : List (Option S)} {i : Nat} (h : rho.set i none = rho) : restR rho rho [i] = rho := by
 unfold restR restR
 have e : rho[i]?.getD none = none := by
  rw [← h, List.getElem?_set]
  simp only [if_true]
  split <;> rfl
 rw [e, h]
theorem elc_map {M : MI} {i : Nat} {its : Sm M (List D)} {e : Sm M S} {α : Type} (en : α → D) {g : α → D} {ts : List α} {z z0 : Z M.T} (h0 : its z0 = .ok (ts.map en) z) (hi : z.rho.set i none = z.rho) (hl : ts.length ≤ lim)
  (h : ∀ t ∈ ts, escf e { z with rho := z.rho.set i (some (.d (en t))) } = .ok (.d (g t)) { z with rho := z.rho.set i (some (.d (en t))) }) : eLc its (kName i) (fun z => .ok true z) e [i] z0 = .ok (.l (ts.map g)) z := by
 have hw : wipeZ z [i] = z := by unfold wipeZ wipeR wipeR; rw [hi]
 unfold eLc
 rw [h0, Rs.bind_ok, if_pos (noOwn_one hi), hw, lc_mapE en hw ts [] (by rw [List.length_nil]; omega) (fun t ht => ⟨_, h t ht, by unfold wipeZ wipeR wipeR; simp only [List.set_set, hi]⟩), Rs.bind_ok, rest_one hi]
 rfl
end G
namespace G
open PySem L2
theorem atI0 {α : Type} (x : α) (r : List α) : atI (x :: r) 0 = some x := by
 unfold atI ixN
 simp
theorem atI1 {α : Type} (x y : α) (r : List α) : atI (x :: y :: r) 1 = some y := by
 unfold atI ixN
 have h : (1 : Int) < ((r.length + 1 + 1 : Nat) : Int) := by omega
 simp only [List.length_cons]
 rw [if_pos h]
 rfl
theorem atI2 {α : Type} (x y w : α) (r : List α) : atI (x :: y :: w :: r) 2 = some w := by
 unfold atI ixN
 have h : (2 : Int) < ((r.length + 1 + 1 + 1 : Nat) : Int) := by omega
 simp only [List.length_cons]
 rw [if_pos h]
 rfl
end G
namespace G
open PySem L2
theorem rg_lim {j : Int} (h0 : 0 ≤ j) (h1 : j ≤ 1000000) : -(2 ^ 62) ≤ j ∧ j < 2 ^ 62 := by
 have e : (2 : Int) ^ 62 = 4611686018427387904 := by decide +kernel
 rw [e]
 omega
theorem range_len (n : Nat) : (rangeD 0 n).length = n := by unfold rangeD; rw [List.length_map, List.length_range]
end G
namespace G
open PySem L2
theorem dSub_i (i j : Int) : dSub (.int i) (.int j) = some (.d (.int (i - j))) := rfl
theorem dLt_i (i j : Int) : dLt (.int i) (.int j) = some (.d (.bl (decide (i < j)))) := rfl
theorem dLe_i (i j : Int) : dLe (.int i) (.int j) = some (.d (.bl (decide (i ≤ j)))) := rfl
theorem dGt_i (i j : Int) : dGt (.int i) (.int j) = some (.d (.bl (decide (j < i)))) := rfl
theorem dGe_i (i j : Int) : dGe (.int i) (.int j) = some (.d (.bl (decide (j ≤ i)))) := rfl
theorem dAdd_i (i j : Int) : dAdd (.int i) (.int j) = some (.d (.int (i + j))) := rfl
theorem dEq_i (i j : Int) : dEq (.int i) (.int j) = some (.d (.bl (decide (i = j)))) := by
 unfold dEq
 rw [if_pos (by rfl), eqD_int]
 rfl
end G
namespace G
open PySem L2
theorem seq_nx {M : MI} {f g : Sm M Out} {z z1 : Z M.T} (h : f z = .ok .nx z1) : sSeq f g z = g z1 := by
 simp only [sSeq, sKk_nx, sKk_rt, sKk_bk, sKk_ct, h, Rs.bind_ok]
theorem seq_rt {M : MI} {f g : Sm M Out} {z z1 : Z M.T} {s : S} (h : f z = .ok (.rt s) z1) : sSeq f g z = .ok (.rt s) z1 := by
 simp only [sSeq, sKk_nx, sKk_rt, sKk_bk, sKk_ct, h, Rs.bind_ok]
end G
namespace G
open PySem L2
theorem dAdd_s {x y : Str} (h : x.length + y.length ≤ lim) : dAdd (.str x) (.str y) = some (.d (.str (x ++ y))) := by
 unfold dAdd
 exact if_pos h
noncomputable def okS (w : Str) : Prop := ∀ c ∈ w.cps.toList, c < 0x110000
theorem okS_app {x y : Str} (a : okS x) (b : okS y) : okS (x ++ y) := by
 intro c hc
 have e : (x ++ y).cps.toList = x.cps.toList ++ y.cps.toList := by
  show (x.cps ++ y.cps).toList = _
  simp
 rw [e] at hc
 rcases List.mem_append.mp hc with h | h
 ·exact a c h
 ·exact b c h
theorem len_app (x y : Str) : (x ++ y).length = x.length + y.length := by
 show (x.cps ++ y.cps).size = x.cps.size + y.cps.size
 simp
theorem atI_mem {α : Type} {xs : List α} {i : Int} (h : 0 ≤ i) (h2 : i < xs.length) : ∃ x ∈ xs, atI xs i = some x := by
 unfold atI ixN
 rw [if_pos h, if_pos h2]
 have hl : i.toNat < xs.length := by omega
 exact ⟨xs[i.toNat], List.getElem_mem hl, by rw [Option.bind_some, List.getElem?_eq_getElem hl]⟩
theorem dIx_s {z : Str} {i : Int} (hz : z.length ≤ lim) (ho : okS z) (h : 0 ≤ i) (h2 : i < z.length) : ∃ c, dIx (.str z) (.int i) = some (.d (.str ⟨#[c]⟩)) ∧ c < 0x110000 := by
 obtain ⟨c, hc, e⟩ := atI_mem (xs := z.cps.toList) h (by rw [Array.length_toList]; exact h2)
 refine ⟨c, ?_, ho c hc⟩
 unfold dIx
 refine (if_pos hz).trans ?_
 rw [e]
 rfl
theorem okS_one {c : Nat} (h : c < 0x110000) : okS ⟨#[c]⟩ := by
 intro d hd
 rcases List.mem_singleton.mp hd with rfl
 exact h
end G
namespace G
open PySem L2
theorem tag_inj {n m : Nat} (h : tag n = tag m) : n = m := by
 unfold tag at h
 injection h with h
 have h2 : [rawInt (n : Nat)] = [rawInt (m : Nat)] := congrArg Array.toList h
 injection h2 with h3
 unfold rawInt at h3
 injection h3 with h4
 exact Int.ofNat.inj h4
inductive MO where
  | lst (xs : List D)
  | dK (ps : List (Key × D))
  /-- an instance of a class, its attributes -/
  | ins (c : Str) (fs : List (Str × D))
  /-- a dict that is locked: what stands at its address is told -/
  | fz (od : Obj) (kvs : List (Key × V)) (ps : List (Key × D))
inductive DaF (K : PySem.W.Frag) (F : Hp) : List (Str × V) → List (Str × D) → Prop
  | nil : DaF K F [] []
  | cons {k : Str} {v : V} {d : D} {r : List (Str × V)} {r' : List (Str × D)} : Da K F v d → DaF K F r r' → DaF K F ((k, v) :: r) ((k, d) :: r')
theorem DaF.mono {K : PySem.W.Frag} {F F' : Hp} (h : Same F F') : ∀ {a b}, DaF K F a b → DaF K F' a b
 | _, _, .nil => .nil
 | _, _, .cons q r => .cons (q.mono h) (DaF.mono h r)
inductive DaK (K : PySem.W.Frag) (F : Hp) : List (Key × V) → List (Key × D) → Prop
  | nil : DaK K F [] []
  | cons {k : Key} {v : V} {d : D} {r : List (Key × V)} {r' : List (Key × D)} : Da K F v d → DaK K F r r' → DaK K F ((k, v) :: r) ((k, d) :: r')
theorem DaK.mono {K : PySem.W.Frag} {F F' : Hp} (h : Same F F') : ∀ {a b}, DaK K F a b → DaK K F' a b
 | _, _, .nil => .nil
 | _, _, .cons q r => .cons (q.mono h) (DaK.mono h r)
theorem DaK.length {K : PySem.W.Frag} {F : Hp} : ∀ {a b}, DaK K F a b → a.length = b.length
 | _, _, .nil => rfl
 | _, _, .cons _ r => congrArg (· + 1) (DaK.length r)
noncomputable def valD (ps : List (Key × D)) (k : Key) : Option D := match ps with
 | [] => none
 | p :: r => if p.1 = k then some p.2 else valD r k
noncomputable def putD (ps : List (Key × D)) (k : Key) (d : D) : List (Key × D) :=
 if (ps.any fun kv => decide (kv.1 = k)) = true then ps.map (fun kv => if kv.1 = k then (kv.1, d) else kv) else ps ++ [(k, d)]
theorem DaK.val {K : PySem.W.Frag} {F : Hp} (k : Key) : ∀ {a b}, DaK K F a b → (valD b k = none ∧ valV a k = none) ∨ ∃ v d, valD b k = some d ∧ valV a k = some v ∧ Da K F v d
 | _, _, .nil => .inl ⟨rfl, rfl⟩
 | _, _, .cons (k := k') q r => by
  by_cases e : k' = k
  ·exact .inr ⟨_, _, by rw [valD, if_pos e], valV_pos e, q⟩
  ·rw [valD, if_neg e, valV_neg e]
   exact DaK.val k r
theorem DaK.any {K : PySem.W.Frag} {F : Hp} (k : Key) : ∀ {a b}, DaK K F a b → (a.any fun kv => decide (kv.1 = k)) = (b.any fun kv => decide (kv.1 = k))
 | _, _, .nil => rfl
 | _, _, .cons q r => by rw [List.any_cons, List.any_cons, DaK.any k r]
theorem DaK.app {K : PySem.W.Frag} {F : Hp} : ∀ {a b a' b'}, DaK K F a b → DaK K F a' b' → DaK K F (a ++ a') (b ++ b')
 | _, _, _, _, .nil, h => h
 | _, _, _, _, .cons q r, h => .cons q (DaK.app r h)
theorem DaK.map {K : PySem.W.Frag} {F : Hp} (k : Key) {v : V} {d : D} (hv : Da K F v d) : ∀ {a b}, DaK K F a b → DaK K F (a.map fun kv => if kv.1 = k then (kv.1, v) else kv) (b.map fun kv => if kv.1 = k then (kv.1, d) else kv)
 | _, _, .nil => .nil
 | _, _, .cons (k := k') q r => by
  rw [List.map_cons, List.map_cons]
  by_cases e : k' = k
  ·rw [if_pos e, if_pos e]; exact .cons hv (DaK.map k hv r)
  ·rw [if_neg e, if_neg e]; exact .cons q (DaK.map k hv r)
theorem DaK.put {K : PySem.W.Frag} {F : Hp} (k : Key) {v : V} {d : D} (hv : Da K F v d) {a b} (h : DaK K F a b) : DaK K F (putK a k v) (putD b k d) := by
 unfold putK putD
 rw [h.any k]
 split
 ·exact h.map k hv
 ·exact h.app (.cons hv .nil)
noncomputable def Holds (K : PySem.W.Frag) (F H : Hp) (a : Addr) : MO → Prop
 | .lst xs => ∃ vs, H a = some (.lst vs) ∧ DaAll K F vs xs
 | .dK ps => ∃ kvs, H a = some (.dK kvs) ∧ DaK K F kvs ps
 | .ins c fs => ∃ C dx vs, xrK K c = some (.ref C) ∧ H a = some (.ins C dx vs) ∧ DaF K F vs fs
 | .fz od kvs ps => H a = some (.frz od (.dK kvs)) ∧ DaK K F kvs ps
theorem Holds.mono {K : PySem.W.Frag} {F F' H H' : Hp} {a : Addr} {o : MO} (s : Same F F') (e : H' a = H a) (h : Holds K F H a o) : Holds K F' H' a o := by
 cases o with
 | lst xs =>
  obtain ⟨vs, h1, h2⟩ := h
  exact ⟨vs, e.trans h1, h2.mono s⟩
 | dK ps =>
  obtain ⟨vs, h1, h2⟩ := h
  exact ⟨vs, e.trans h1, h2.mono s⟩
 | ins c fs =>
  obtain ⟨C, dx, vs, h0, h1, h2⟩ := h
  exact ⟨C, dx, vs, h0, e.trans h1, h2.mono s⟩
 | fz od kvs ps =>
  obtain ⟨h1, h2⟩ := h
  exact ⟨e.trans h1, h2.mono s⟩
theorem Holds.some {K : PySem.W.Frag} {F H : Hp} {a : Addr} {o : MO} (h : Holds K F H a o) : H a ≠ none := by
 cases o with
 | lst xs =>
  obtain ⟨vs, h1, h2⟩ := h
  rw [h1]; intro z; cases z
 | dK ps =>
  obtain ⟨vs, h1, h2⟩ := h
  rw [h1]; intro z; cases z
 | ins c fs =>
  obtain ⟨C, dx, vs, h0, h1, h2⟩ := h
  rw [h1]; intro z; cases z
 | fz od kvs ps =>
  obtain ⟨h1, h2⟩ := h
  rw [h1]; intro z; cases z
noncomputable abbrev MX : MI where
 T := List MO
 ok := fun K F H ms t => ms = [] ∧ (∀ n o, t[n]? = some o → ∃ a, F a = some (tag n) ∧ Holds K F H a o) ∧ (∀ a ps, F a = some (.tbl ps) → ∃ n, n < t.length ∧ HO.tbl ps = tag n) ∧ ∀ a b n, F a = some (tag n) → F b = some (tag n) → a = b
 mono := fun {K F F' H H' ms t} hF ht hm h => by
  obtain ⟨h0, h1, h2, h3⟩ := h
  refine ⟨h0, fun n o e => ?_, fun a ps e => h2 a ps (ht a ps e).1, fun a b n e1 e2 => h3 a b n (ht a _ e1).1 (ht b _ e2).1⟩
  obtain ⟨a, ha, hh⟩ := h1 n o e
  exact ⟨a, hF _ _ ha, hh.mono hF (ht a _ (hF _ _ ha)).2⟩
section
variable {G : Gx} {W : WX} {σ : St} {H H' F F' : Hp} {z : Z (List MO)}
theorem Ok.noms (ok : Ok MX G σ H F z) : G.ms = [] := ok.mach.1
theorem Ok.alloc (ok : Ok MX G σ H F z) {p : Addr} (hp : H p = none) {ho : HO} {o : MO} (hh : Holds G.K (upd F p (tag z.m.length)) (upd H p ho) p o) : Ok MX G σ (upd H p ho) (upd F p (tag z.m.length)) { z with m := z.m ++ [o] } where
 sub := fun b u q n => by
  by_cases e : b = p
  ·subst e
   rw [upd_same] at q
   exact (n _ (Option.some.inj q).symm).elim
  ·rw [upd_ne e] at q ⊢
   exact ok.sub b u q n
 len := ok.len
 slot := fun i s e => by
  obtain ⟨v, h1, h2⟩ := ok.slot i s e
  refine ⟨v, h1, ?_⟩
  have sm := same_upd (o := tag z.m.length) (ok.freshF hp)
  cases s with
  | d x => exact Da.mono sm h2
  | l xs =>
   obtain ⟨a, vs, rfl, h3, h4, h5, h6, h7⟩ := h2
   have nb := ne_of_none h3 hp
   exact ⟨a, vs, rfl, (upd_ne nb).trans h3, h4.mono sm, (upd_ne nb).trans h5, h6, h7⟩
  | v _ => exact h2
  | m j => exact h2
 dist := ok.dist
 mach := by
  have fp := ok.freshF hp
  obtain ⟨h0, h1, h2, h3⟩ := ok.mach
  have old : ∀ a n, upd F p (tag z.m.length) a = some (tag n) → (a = p ∧ n = z.m.length) ∨ (a ≠ p ∧ F a = some (tag n) ∧ n < z.m.length) := fun a n e => by
   by_cases q : a = p
   ·subst q
    rw [upd_same] at e
    exact .inl ⟨rfl, (tag_inj (Option.some.inj e)).symm⟩
   ·rw [upd_ne q] at e
    obtain ⟨k, hk, ek⟩ := h2 a _ e
    rw [tag_inj (show tag n = tag k from ek)]
    exact .inr ⟨q, by rw [← tag_inj (show tag n = tag k from ek)]; exact e, hk⟩
  refine ⟨h0, fun n u e => ?_, fun a ps e => ?_, fun a b n e1 e2 => ?_⟩
  ·have e' : (z.m ++ [o])[n]? = some u := e
   by_cases q : n < z.m.length
   ·rw [List.getElem?_append_left q] at e'
    obtain ⟨a, ha, hu⟩ := h1 n u e'
    have nb := ne_of_none ha fp
    exact ⟨a, (upd_ne nb).trans ha, hu.mono (same_upd fp) (upd_ne nb)⟩
   ·have en : n = z.m.length := by
     have := (List.getElem?_eq_some_iff.mp e').1
     rw [List.length_append, List.length_singleton] at this
     omega
    subst en
    rw [List.getElem?_append_right (Nat.le_refl _), Nat.sub_self] at e'
    cases e'
    exact ⟨p, upd_same, hh⟩
  ·by_cases q : a = p
   ·subst q
    rw [upd_same] at e
    exact ⟨z.m.length, by show _ < (z.m ++ [o]).length; rw [List.length_append, List.length_singleton]; omega, (Option.some.inj e).symm⟩
   ·rw [upd_ne q] at e
    obtain ⟨k, hk, ek⟩ := h2 a ps e
    exact ⟨k, by show _ < (z.m ++ [o]).length; rw [List.length_append]; omega, ek⟩
  ·rcases old a n e1 with ⟨rfl, en⟩ | ⟨_, q1, ln⟩
   ·rcases old b n e2 with ⟨rfl, _⟩ | ⟨_, _, ln⟩
    ·rfl
    ·omega
   ·rcases old b n e2 with ⟨rfl, en⟩ | ⟨_, q2, _⟩
    ·omega
    ·exact h3 a b n q1 q2
 msF := fun a ha => by rw [ok.noms] at ha; cases ha
 msP := fun a ha => by rw [ok.noms] at ha; cases ha
 msH := fun a ha => by rw [ok.noms] at ha; cases ha
 fr := fun b u q => by
  obtain ⟨h1, h2⟩ := ok.fr b u q
  have nb := ne_of_none h1 hp
  exact ⟨(upd_ne nb).trans h1, (upd_ne nb).trans h2⟩
 tg := fun a ps e => by
  by_cases q : a = p
  ·subst q
   exact ⟨(by rw [upd_same]; intro y; cases y), ok.freshP hp⟩
  ·rw [upd_ne q] at e ⊢
   exact ok.tg a ps e
theorem Ok.putO (ok : Ok MX G σ H F z) {a : Addr} {n : Nat} (ha : F a = some (tag n)) {ho : HO} {o : MO} (hh : Holds G.K F (upd H a ho) a o) : Ok MX G σ (upd H a ho) F { z with m := z.m.set n o } where
 sub := fun b u q nt => by
  have nb : b ≠ a := fun e => by
   rw [e, ha] at q
   exact nt _ (Option.some.inj q).symm
  rw [upd_ne nb]
  exact ok.sub b u q nt
 len := ok.len
 slot := fun i s e => by
  obtain ⟨v, h1, h2⟩ := ok.slot i s e
  refine ⟨v, h1, ?_⟩
  cases s with
  | d x => exact h2
  | l xs =>
   obtain ⟨b, vs, rfl, h3, h4, h5, h6, h7⟩ := h2
   have nb : b ≠ a := fun e => by rw [e, ha] at h5; cases h5
   exact ⟨b, vs, rfl, (upd_ne nb).trans h3, h4, h5, h6, h7⟩
  | v _ => exact h2
  | m j => exact h2
 dist := ok.dist
 mach := by
  obtain ⟨h0, h1, h2, h3⟩ := ok.mach
  refine ⟨h0, fun k u e => ?_, fun b ps e => ?_, h3⟩
  ·have e' : (z.m.set n o)[k]? = some u := e
   by_cases q : k = n
   ·subst q
    have hl : k < z.m.length := by
     have := (List.getElem?_eq_some_iff.mp e').1
     rw [List.length_set] at this
     exact this
    rw [List.getElem?_set_self hl] at e'
    cases e'
    exact ⟨a, ha, hh⟩
   ·rw [List.getElem?_set_ne (Ne.symm q)] at e'
    obtain ⟨b, hb, hu⟩ := h1 k u e'
    have nb : b ≠ a := fun e => by
     rw [e, ha] at hb
     exact q (tag_inj (Option.some.inj hb)).symm
    exact ⟨b, hb, hu.mono (Same.refl _) (upd_ne nb)⟩
  ·obtain ⟨k, hk, ek⟩ := h2 b ps e
   exact ⟨k, by show _ < (z.m.set n o).length; rw [List.length_set]; exact hk, ek⟩
 msF := fun a ha => by rw [ok.noms] at ha; cases ha
 msP := fun a ha => by rw [ok.noms] at ha; cases ha
 msH := fun a ha => by rw [ok.noms] at ha; cases ha
 fr := fun b u q => by
  obtain ⟨h1, h2⟩ := ok.fr b u q
  have nb : b ≠ a := fun e => by rw [e, (ok.tg a _ ha).2] at q; cases q
  exact ⟨(upd_ne nb).trans h1, h2⟩
 tg := fun b ps e => by
  refine ⟨?_, (ok.tg b ps e).2⟩
  by_cases q : b = a
  ·subst q
   rw [upd_same]; intro y; cases y
  ·rw [upd_ne q]; exact (ok.tg b ps e).1
theorem Ok.objAt (ok : Ok MX G σ H F z) {v : V} {n : Nat} {o : MO} (h : Da G.K F v (.o n)) (e : z.m[n]? = some o) : ∃ a, v = .ref a ∧ F a = some (tag n) ∧ Holds G.K F H a o := by
 cases h with
 | o q =>
  obtain ⟨h0, h1, h2, h3⟩ := ok.mach
  obtain ⟨b, hb, hh⟩ := h1 n o e
  rename_i a
  cases h3 a b n q hb
  exact ⟨a, rfl, q, hh⟩
end
noncomputable def keyD : D → Option Key
 | .int i => some (.inl i)
 | .str x => some (.inr x)
 | _ => none
theorem keyD_v {K : PySem.W.Frag} {F H : Hp} {v : V} {d : D} {k : Key} (h : Rv K F H v d) (e : keyD d = some k) : v = kV k := by
 cases d with
 | int i => cases e; exact h.int
 | str x => cases e; exact h.str
 | _ => cases e
section
variable {ι : Type} {xr : Str → Option Value} {K : PySem.W.Frag} {X : ι → Cx} {W : WX} {N : List Str} {mg : Str → Option Value}
noncomputable def eNewD (z : Z MX.T) : Rs S (Z MX.T) := .ok (.d (.o z.m.length)) { z with m := z.m ++ [.dK []] }
theorem de_newD {pos : Pos} : DE MX xr K X W (.Dict [] [] pos) eNewD := by
 refine ⟨_, fun j => pe_dnewK, fun G σ H F z Q hK hx ok hh => fun p hp => ?_⟩
 exact hh (.ref p) (upd H p (.dK [])) (upd F p (tag z.m.length)) (same_upd (ok.freshF hp)) (ok.alloc hp ⟨[], upd_same, .nil⟩) (Da.o upd_same)
noncomputable def dictAt (z : Z (List MO)) (s : S) : Option (Nat × List (Key × D)) := match rd z s with
 | some (.o n) => (match z.m[n]? with
  | some (.dK ps) => some (n, ps)
  | _ => none)
 | _ => none
theorem dictAt_rv {G : Gx} {σ : St} {H F : Hp} {z : Z (List MO)} (ok : Ok MX G σ H F z) {v : V} {s : S} {n : Nat} {ps : List (Key × D)} (e : EO G σ F v s) (h : dictAt z s = some (n, ps)) : ∃ a kvs, v = .ref a ∧ F a = some (tag n) ∧ z.m[n]? = some (.dK ps) ∧ H a = some (.dK kvs) ∧ DaK G.K F kvs ps := by
 unfold dictAt at h
 split at h
 ·rename_i k er
  split at h
  ·rename_i qs em
   cases h
   have r := (EO.rv ok e er).da (fun _ q => by cases q)
   obtain ⟨a, rfl, h1, kvs, h2, h3⟩ := ok.objAt r em
   exact ⟨a, kvs, rfl, h1, em, h2, h3⟩
  ·cases h
 ·cases h
noncomputable def eDGet1 (f g : Sm MX S) (z : Z MX.T) : Rs S (Z MX.T) := (opd f z).bind fun s z1 => match dictAt z1 s with
 | some _ => (opd g z1).bind fun s' z2 => (match dictAt z2 s, (rd z2 s').bind keyD with
  | some (_, ps), some k => .ok (.d ((valD ps k).getD .non)) z2
  | _, _ => .bad)
 | none => .bad
theorem getD_da {K : PySem.W.Frag} {F : Hp} {kvs : List (Key × V)} {ps : List (Key × D)} (h : DaK K F kvs ps) (k : Key) {w : V} {x : D} (hw : Da K F w x) : Da K F ((valV kvs k).getD w) ((valD ps k).getD x) := by
 rcases h.val k with ⟨e1, e2⟩ | ⟨v, d, e1, e2, e3⟩
 ·rw [e1, e2]; exact hw
 ·rw [e1, e2]; exact e3
theorem de_dget1 {o e : Expr} {f g : Sm MX S} {apos cpos : Pos} (p : Pl K X N mg) (ho : DE MX xr K X W o f) (he : DE MX xr K X W e g) (m : ∀ j, L2.M1 (X j) o "get" apos e cpos) : DE MX xr K X W (.Call (.Attribute o "get" apos) [e] [] cpos) (eDGet1 f g) := by
 obtain ⟨t1, p1, c1⟩ := ho
 obtain ⟨t2, p2, c2⟩ := he
 refine ⟨_, fun j => pe_dget1 (by have := p.u j; omega) (p1 j) (p2 j) (m j), fun G σ H F z Q hK hx ok hh => ?_⟩
 refine cmp_opd c1 G σ H F z _ hK hx ok (hit_bind hh fun s z1 v H1 F1 _ sm1 ok1 ev h1 => ?_)
 cases e1 : dictAt z1 s with
 | none => rw [e1] at h1; exact h1.elim
 | some q =>
  obtain ⟨n, ps⟩ := q
  rw [e1] at h1
  obtain ⟨a, kvs, rfl, ha, em, hH, hk⟩ := dictAt_rv ok1 ev e1
  refine ⟨a, rfl, .inl ⟨kvs, .inl hH⟩, ?_⟩
  refine cmp_opd c2 G σ H1 F1 z1 _ hK hx ok1 (hit_bind h1 fun s' z2 v' H2 F2 _ sm2 ok2 ev2 h2 => ?_)
  cases e2 : dictAt z2 s with
  | none => simp only [e2] at h2; exact h2.elim
  | some q =>
   obtain ⟨n', ps'⟩ := q
   cases e3 : (rd z2 s').bind keyD with
   | none => simp only [e2, e3] at h2; exact h2.elim
   | some k =>
    simp only [e2, e3] at h2
    obtain ⟨a', kvs', ea, ha', em', hH', hk'⟩ := dictAt_rv ok2 (EO.mono sm2 ev) e2
    cases ea
    cases er : rd z2 s' with
    | none => rw [er] at e3; cases e3
    | some d =>
     rw [er] at e3
     have hv := keyD_v (EO.rv ok2 ev2 er) e3
     subst hv
     exact ⟨_, DGet.k hH', h2 _ H2 F2 (Same.refl _) ok2 (getD_da hk' k .non)⟩
noncomputable def eDGet2 (f g h : Sm MX S) (z : Z MX.T) : Rs S (Z MX.T) := (opd f z).bind fun s z1 => match dictAt z1 s with
 | some _ => (opd g z1).bind fun s' z2 => (escf h z2).bind fun s'' z3 => (match dictAt z3 s, (rd z3 s').bind keyD, s'' with
  | some (_, ps), some k, .d x => .ok (.d ((valD ps k).getD x)) z3
  | _, _, _ => .bad)
 | none => .bad
theorem de_dget2 {o e e' : Expr} {f g h : Sm MX S} {apos cpos : Pos} (p : Pl K X N mg) (ho : DE MX xr K X W o f) (he : DE MX xr K X W e g) (he' : DE MX xr K X W e' h) (m : ∀ j, L2.M2 (X j) o "get" apos e e' cpos) : DE MX xr K X W (.Call (.Attribute o "get" apos) [e, e'] [] cpos) (eDGet2 f g h) := by
 obtain ⟨t1, p1, c1⟩ := ho
 obtain ⟨t2, p2, c2⟩ := he
 obtain ⟨t3, p3, c3⟩ := he'
 refine ⟨_, fun j => pe_dget2 (by have := p.u j; omega) (p1 j) (p2 j) (p3 j) (m j), fun G σ H F z Q hK hx ok hh => ?_⟩
 refine cmp_opd c1 G σ H F z _ hK hx ok (hit_bind hh fun s z1 v H1 F1 _ sm1 ok1 ev h1 => ?_)
 cases e1 : dictAt z1 s with
 | none => rw [e1] at h1; exact h1.elim
 | some q =>
  obtain ⟨n, ps⟩ := q
  rw [e1] at h1
  obtain ⟨a, kvs, rfl, ha, em, hH, hk⟩ := dictAt_rv ok1 ev e1
  refine ⟨a, rfl, .inl ⟨kvs, .inl hH⟩, ?_⟩
  refine cmp_opd c2 G σ H1 F1 z1 _ hK hx ok1 (hit_bind h1 fun s' z2 v' H2 F2 _ sm2 ok2 ev2 h2 => ?_)
  refine cmp_esc c3 G σ H2 F2 z2 _ hK hx ok2 (hit_bind h2 fun s'' z3 v'' H3 F3 _ sm3 ok3 ev3 h3 => ?_)
  cases e2 : dictAt z3 s with
  | none => simp only [e2] at h3; exact h3.elim
  | some q =>
   obtain ⟨n', ps'⟩ := q
   cases e3 : (rd z3 s').bind keyD with
   | none => simp only [e2, e3] at h3; exact h3.elim
   | some k =>
    cases s'' with
    | d x =>
     simp only [e2, e3] at h3
     obtain ⟨a', kvs', ea, ha', em', hH', hk'⟩ := dictAt_rv ok3 (EO.mono sm3 (EO.mono sm2 ev)) e2
     cases ea
     cases er : rd z3 s' with
     | none => rw [er] at e3; cases e3
     | some d =>
      rw [er] at e3
      have hv := keyD_v (EO.rv ok3 (EO.mono sm3 ev2) er) e3
      subst hv
      exact ⟨_, DGet.k hH', h3 _ H3 F3 (Same.refl _) ok3 (getD_da hk' k ev3)⟩
    | l _ => simp only [e2, e3] at h3; exact h3.elim
    | v _ => simp only [e2, e3] at h3; exact h3.elim
    | m _ => simp only [e2, e3] at h3; exact h3.elim
noncomputable def sDPutM (fv fd fk : Sm MX S) (z : Z MX.T) : Rs Out (Z MX.T) := (escf fv z).bind fun s z1 => (opd fd z1).bind fun s' z2 => (opd fk z2).bind fun s'' z3 => match s, dictAt z3 s', (rd z3 s'').bind keyD with
 | .d x, some (n, ps), some k => if ps.length < lim then .ok .nx { z3 with m := z3.m.set n (.dK (putD ps k x)) } else .bad
 | _, _, _ => .bad
theorem ds_dput {o i value : Expr} {fv fd fk : Sm MX S} {pos pos' : Pos} (p : Pl K X N mg) (hv : DE MX xr K X W value fv) (ho : DE MX xr K X W o fd) (hi : DE MX xr K X W i fk) (hs : ∀ j, swapsWith value (some (.Subscript o i pos')) pos.line (X j).env = pure false := by intro _; rfl) : DS MX xr K X W (.Assign [.Subscript o i pos'] value pos) (sDPutM fv fd fk) := by
 obtain ⟨t1, p1, c1⟩ := hv
 obtain ⟨t2, p2, c2⟩ := ho
 obtain ⟨t3, p3, c3⟩ := hi
 refine ⟨_, fun j => ps_dput (by have := p.u j; omega) (p2 j) (p3 j) (p1 j) (hs j), fun G σ H F z D hK hx ok hh => ?_⟩
 refine cmp_esc c1 G σ H F z _ hK hx ok (hits_bind hh fun s z1 v H1 F1 _ sm1 ok1 ev h1 => ?_)
 refine cmp_opd c2 G σ H1 F1 z1 _ hK hx ok1 (hits_bind h1 fun s' z2 v' H2 F2 _ sm2 ok2 ev2 h2 => ?_)
 refine cmp_opd c3 G σ H2 F2 z2 _ hK hx ok2 (hits_bind h2 fun s'' z3 v'' H3 F3 _ sm3 ok3 ev3 h3 => ?_)
 cases s with
 | d x =>
  cases e2 : dictAt z3 s' with
  | none => simp only [e2] at h3; exact h3.elim
  | some q =>
   obtain ⟨n, ps⟩ := q
   cases e3 : (rd z3 s'').bind keyD with
   | none => simp only [e2, e3] at h3; exact h3.elim
   | some k =>
    simp only [e2, e3] at h3
    by_cases hl : ps.length < lim
    ·rw [if_pos hl] at h3
     obtain ⟨a, kvs, rfl, ha, em, hH, hk⟩ := dictAt_rv ok3 (EO.mono sm3 ev2) e2
     cases er : rd z3 s'' with
     | none => rw [er] at e3; cases e3
     | some d =>
      rw [er] at e3
      have hv := keyD_v (EO.rv ok3 ev3 er) e3
      subst hv
      have dv : Da G.K F3 v x := Da.mono sm3 (Da.mono sm2 ev)
      exact ⟨a, _, rfl, DPut.k hH (by rw [hk.length]; exact Nat.lt_trans hl lim_line), h3 σ _ F3 (Same.refl _) (ok3.putO ha ⟨_, upd_same, hk.put k dv⟩)⟩
    ·rw [if_neg hl] at h3; exact h3.elim
 | l _ => exact h3.elim
 | v _ => exact h3.elim
 | m _ => exact h3.elim
noncomputable def listAt (z : Z (List MO)) (s : S) : Option (Nat × List D) := match rd z s with
 | some (.o n) => (match z.m[n]? with
  | some (.lst xs) => some (n, xs)
  | _ => none)
 | _ => none
theorem listAt_rv {G : Gx} {σ : St} {H F : Hp} {z : Z (List MO)} (ok : Ok MX G σ H F z) {v : V} {s : S} {n : Nat} {xs : List D} (e : EO G σ F v s) (h : listAt z s = some (n, xs)) : ∃ a vs, v = .ref a ∧ F a = some (tag n) ∧ z.m[n]? = some (.lst xs) ∧ H a = some (.lst vs) ∧ DaAll G.K F vs xs := by
 unfold listAt at h
 split at h
 ·rename_i k er
  split at h
  ·rename_i qs em
   cases h
   have r := (EO.rv ok e er).da (fun _ q => by cases q)
   obtain ⟨a, rfl, h1, vs, h2, h3⟩ := ok.objAt r em
   exact ⟨a, vs, rfl, h1, em, h2, h3⟩
  ·cases h
 ·cases h
theorem DaAll.at {K : PySem.W.Frag} {F : Hp} {vs : List V} {ds : List D} (h : DaAll K F vs ds) {i : Int} {d : D} (e : atI ds i = some d) : ∃ v, atI vs i = some v ∧ Da K F v d := by
 unfold atI at e ⊢
 rw [h.length]
 cases q : ixN ds.length i with
 | none => rw [q] at e; cases e
 | some j =>
  rw [q] at e
  exact h.get e
noncomputable def eIxO (f g : Sm MX S) (z : Z MX.T) : Rs S (Z MX.T) := (opd f z).bind fun s z1 => (opd g z1).bind fun s' z2 => match listAt z2 s, rd z2 s' with
 | some (_, xs), some (.int i) => (match atI xs i with
  | some d => .ok (.d d) z2
  | none => .bad)
 | _, _ => .bad
theorem de_ixO {a b : Expr} {f g : Sm MX S} {pos : Pos} (p : Pl K X N mg) (ha : DE MX xr K X W a f) (hb : DE MX xr K X W b g) (hs : PlainIx b := by exact fun _ _ => rfl) : DE MX xr K X W (.Subscript a b pos) (eIxO f g) := by
 obtain ⟨t1, p1, c1⟩ := ha
 obtain ⟨t2, p2, c2⟩ := hb
 refine ⟨tOp (rIxL K) t1 t2, fun j => by rw [← p.k j]; exact pe_ix ix_list (p1 j) (p2 j) hs, fun G σ H F z Q hK hx ok hh => ?_⟩
 refine cmp_opd c1 G σ H F z _ hK hx ok (hit_bind hh fun s z1 v H1 F1 _ sm1 ok1 ev h1 => ?_)
 refine cmp_opd c2 G σ H1 F1 z1 _ hK hx ok1 (hit_bind h1 fun s' z2 v' H2 F2 _ sm2 ok2 ev2 h2 => ?_)
 cases e2 : listAt z2 s with
 | none => simp only [e2] at h2; exact h2.elim
 | some q =>
  obtain ⟨n, xs⟩ := q
  cases er : rd z2 s' with
  | none => simp only [e2, er] at h2; exact h2.elim
  | some d =>
   cases d with
   | int i =>
    simp only [e2, er] at h2
    cases ea : atI xs i with
    | none => rw [ea] at h2; exact h2.elim
    | some d =>
     rw [ea] at h2
     obtain ⟨a, vs, rfl, ha, em, hH, hd⟩ := listAt_rv ok2 (EO.mono sm2 ev) e2
     have hv := (EO.rv ok2 ev2 er).int
     subst hv
     obtain ⟨w, e3, da⟩ := hd.at ea
     exact ⟨a, vs, i, w, rfl, rfl, SqL.of hH, e3, h2 w H2 F2 (Same.refl _) ok2 da⟩
   | _ => simp only [e2, er] at h2; exact h2.elim
noncomputable def sLPutM (fv fd fk : Sm MX S) (z : Z MX.T) : Rs Out (Z MX.T) := (escf fv z).bind fun s z1 => (opd fd z1).bind fun s' z2 => (opd fk z2).bind fun s'' z3 => match s, listAt z3 s', rd z3 s'' with
 | .d x, some (n, xs), some (.int i) => (match ixN xs.length i with
  | some j => .ok .nx { z3 with m := z3.m.set n (.lst (xs.set j x)) }
  | none => .bad)
 | _, _, _ => .bad
theorem ds_lput {o i value : Expr} {fv fd fk : Sm MX S} {pos pos' : Pos} (p : Pl K X N mg) (hv : DE MX xr K X W value fv) (ho : DE MX xr K X W o fd) (hi : DE MX xr K X W i fk)
  (hs : ∀ q, swapsWithSole [.Subscript o i pos'] value pos.line (X q).env = pure false := by intro _; rfl) (hw : ∀ q, swappedStores [.Subscript o i pos'] value (X q).env = pure none := by intro _; rfl)
  (h1 : ∀ q, (assignEach [.Subscript o i pos'] (X q).env).map (·.2) = [assign (.Subscript o i pos') (X q).env] := by intro _; rfl)
  (hg : ∀ q t1 t2, PE (X q) o t1 → PE (X q) i t2 → PG (X q) (.Subscript o i pos') (gSub t1 t2 rSetL) := by exact fun _ _ _ q1 q2 => pg_sub q1 q2 set_list) : DS MX xr K X W (.Assign [.Subscript o i pos'] value pos) (sLPutM fv fd fk) := by
 obtain ⟨t1, p1, c1⟩ := hv
 obtain ⟨t2, p2, c2⟩ := ho
 obtain ⟨t3, p3, c3⟩ := hi
 refine ⟨tAsg t1 (gSub t2 t3 rSetL), fun q => ps_asg (p1 q) (hg q t2 t3 (p2 q) (p3 q)) (hs q) (hw q) (h1 q), fun G σ H F z D hK hx ok hh => ?_⟩
 refine cmp_esc c1 G σ H F z _ hK hx ok (hits_bind hh fun s z1 v H1 F1 _ sm1 ok1 ev h1 => ?_)
 refine cmp_opd c2 G σ H1 F1 z1 _ hK hx ok1 (hits_bind h1 fun s' z2 v' H2 F2 _ sm2 ok2 ev2 h2 => ?_)
 refine cmp_opd c3 G σ H2 F2 z2 _ hK hx ok2 (hits_bind h2 fun s'' z3 v'' H3 F3 _ sm3 ok3 ev3 h3 => ?_)
 cases s with
 | d x =>
  cases e2 : listAt z3 s' with
  | none => simp only [e2] at h3; exact h3.elim
  | some q =>
   obtain ⟨n, xs⟩ := q
   cases er : rd z3 s'' with
   | none => simp only [e2, er] at h3; exact h3.elim
   | some d =>
    cases d with
    | int i =>
     simp only [e2, er] at h3
     cases ej : ixN xs.length i with
     | none => rw [ej] at h3; exact h3.elim
     | some j =>
      rw [ej] at h3
      obtain ⟨a, vs, rfl, ha, em, hH, hd⟩ := listAt_rv ok3 (EO.mono sm3 ev2) e2
      have hv := (EO.rv ok3 ev3 er).int
      subst hv
      have dv : Da G.K F3 v x := Da.mono sm3 (Da.mono sm2 ev)
      exact ⟨a, vs, i, j, rfl, rfl, hH, by rw [hd.length]; exact ej, h3 σ _ F3 (Same.refl _) (ok3.putO ha ⟨_, upd_same, DaAll.set dv j hd⟩)⟩
    | _ => simp only [e2, er] at h3; exact h3.elim
 | l _ => exact h3.elim
 | v _ => exact h3.elim
 | m _ => exact h3.elim
end
end G
namespace G
open PySem L2
section
variable {ι : Type} {M : MI} {xr : Str → Option Value} {K : PySem.W.Frag} {X : ι → Cx} {W : WX} {N : List Str} {mg : Str → Option Value}
noncomputable def zipD : List D → List D → List D
 | x :: r, y :: q => .tup [x, y] :: zipD r q
 | _, _ => []
theorem zipD_len : ∀ xs ys, (zipD xs ys).length = min xs.length ys.length
 | [], ys => by simp [zipD]
 | x :: r, [] => by simp [zipD]
 | x :: r, y :: q => by simp [zipD, zipD_len r q]
theorem zipD_at : ∀ {xs ys : List D} {i : Nat} {x y : D}, xs[i]? = some x → ys[i]? = some y → (zipD xs ys)[i]? = some (.tup [x, y])
 | [], _, i, x, y, h, _ => by simp at h
 | x' :: r, [], i, x, y, _, h => by simp at h
 | x' :: r, y' :: q, 0, x, y, h1, h2 => by simp at h1 h2; subst h1 h2; rfl
 | x' :: r, y' :: q, i + 1, x, y, h1, h2 => by
  rw [List.getElem?_cons_succ] at h1 h2
  rw [zipD, List.getElem?_cons_succ]
  exact zipD_at h1 h2
theorem yd_zip {F H H' : Hp} {vs ws : List V} {ds es : List D} {i : Nat} {v x y : V} {T : Addr} (r : DaAll K F vs ds) (r2 : DaAll K F ws es) (hi : vs[i]? = some x) (hj : ws[i]? = some y) (e1 : v = .ref T) (e2 : H T = none) (e3 : H' = upd H T (.tup [x, y])) : YD K F (zipD ds es) i H v H' := by
 subst e1 e3
 obtain ⟨d, hd, da⟩ := r.getV hi
 obtain ⟨d2, hd2, da2⟩ := r2.getV hj
 refine ⟨_, zipD_at hd hd2, fun F1 s1 s2 st => ⟨upd F1 T (.tup [x, y]), same_upd (freeX s2 st e2), same_upd2 s2, fun b o e => ?_, fun a ps e => (tgk_newF (o := .tup [x, y]) (H := H) (u := .tup []) (freeX s2 st e2) tupNT a ps e).1, .tup (SqT.of upd_same) (.cons ((da.mono s1).mono (same_upd (freeX s2 st e2))) (.cons ((da2.mono s1).mono (same_upd (freeX s2 st e2))) .nil))⟩⟩
 have nb := ne_of_none e e2
 exact ⟨by rw [upd_ne nb]; exact e, upd_ne nb⟩
noncomputable def iZipM (g : Sm M (List S)) (z : Z M.T) : Rs (List D) (Z M.T) := (g z).bind fun ss z1 => match ss with
 | [.d (.lst xs), .d (.lst ys)] => .ok (zipD xs ys) z1
 | _ => .bad
theorem di_zip {elts : List Expr} {kk : Nat} {tpos pp pos : Pos} {e e2 : Expr} {g : Sm M (List S)} (p : Pl K X N mg) (hm : mg "zip" = none) (h : DA M xr K X W [e, e2] g) (hg : ∀ j, Gl (X j) "zip" := by intro _; rfl) (hs : ∀ j, starEach [e, e2] (X j).env = (false, eval e (X j).env) :: starEach [e2] (X j).env := by intro _; rfl) (hpl : ∀ j, (backTo pos (starEach [e2] (X j).env)).any (·.1) = false := by intro _; rfl) :
  DI M xr K X W (.Tuple elts kk tpos) (.Call (.Name "zip" pp) [e, e2] [] pos) (iZipM g) := by
 obtain ⟨t, pa, c⟩ := h
 refine ⟨RZ.iZipA K t, fun j => by rw [← p.k j]; exact RZ.pi_zipA (hg j) (by rw [p.g j]; exact hm) (pa j) (hs j) (hpl j), fun G σ H F z Q hK hx ok hh => ?_⟩
 refine c G σ H F z _ hK hx ok (hit_bind hh fun ss z1 vs H1 F1 _ sm ok1 ea h1 => ?_)
 subst hK
 unfold RelA at ea
 split at h1
 ·cases ea with
  | cons a0 b0 =>
   cases b0 with
   | cons b1 c0 =>
    cases c0
    rename_i xs ys eg va vb
    have a' : Da G.K F1 va (.lst xs) := a0
    have b' : Da G.K F1 vb (.lst ys) := b1
    clear a0 b1
    cases a' with
    | lst q r =>
     cases b' with
     | lst q2 r2 =>
      rename_i a vs b ws
      refine ⟨a, b, vs, ws, rfl, .inl ⟨SqL.of (ok1.sub.lst q), SqL.of (ok1.sub.lst q2), h1 _ H1 F1 (Same.refl _) ok1 ?_⟩⟩
      have wk := (walk_zip (K := G.K) (a := a) (b := b) (xs := vs) (ys := ws) rfl).mono (G' := fun H => SameX F1 H) (Y' := YD G.K F1 (zipD xs ys)) (fun H s => ⟨SqL.of (s.lst q), SqL.of (s.lst q2)⟩) (fun i H x H' hi _ ⟨T, x1, y1, e1, e2, e3, e4, e5⟩ => yd_zip r r2 e4 e5 e1 e2 e3)
      rw [r.length, r2.length, ← zipD_len] at wk
      exact wk
 ·exact h1.elim
end
end G
namespace G
open PySem L2
section
variable {ι : Type} {M : MI} {xr : Str → Option Value} {K : PySem.W.Frag} {X : ι → Cx} {W : WX} {N : List Str} {mg : Str → Option Value}
end
noncomputable def zX (n : Nat) (ns : List Int) : Z (List MO) := { rho := some (.d (.scr ns)) :: List.replicate n none, m := [] }
theorem law_runX {K : PySem.W.Frag} {xr : Str → Option Value} {E : XK} {N : List Str} {t : TS} {f : Sm MX Out} {vs : List V} {H : Hp} {Q : VK} (hN : 1 ≤ N.length)
  (hf : ∀ ns : List Int, ns.length ≤ 63 → (∀ z ∈ ns, Builtin.Int.intBits z ≤ 1048576) → ∃ z', f (zX (N.length - 1) ns) = .ok (.rt (.d (.bl true))) z')
  (c : SR MX K xr (fun cls d _ H => E cls d H) t f) (h : spLaw K vs H Q E) : t { nx := fun _ H' => Q .non H', rt := Q } (L2.start N vs) H := by
 obtain ⟨a, ns, rfl, hs, hl, hbits, hq⟩ := h
 obtain ⟨z', e1⟩ := hf ns hl hbits
 have st : L2.start N [.ref a] = some (.ref a) :: List.replicate (N.length - 1) none := rfl
 rw [st]
 let F : Hp := fun b => if b = a then noT H a else none
 have Fo : ∀ b o, F b = some o → b = a ∧ noT H a = some o := fun b o q => by
  have q' : (if b = a then noT H a else none) = some o := q
  by_cases e : b = a
  ·rw [if_pos e] at q'; exact ⟨e, q'⟩
  ·rw [if_neg e] at q'; cases q'
 have noTag : ∀ b ps, F b ≠ some (.tbl ps) := fun b ps q => (noT_of (Fo b _ q).2).2 ps rfl
 have sF : SameX F H := fun b o q _ => by
  obtain ⟨rfl, q2⟩ := Fo b o q
  exact (noT_of q2).1
 have hsF : SqL K F a (ns.map V.int) := by
  have Fa : ∀ o, H a = some o → (∀ ps, o ≠ .tbl ps) → F a = some o := fun o q n => by
   show (if a = a then noT H a else none) = some o
   rw [if_pos rfl]
   exact noT_at q n
  rcases hs with (q | ⟨o, q⟩) | q
  ·exact .inl (.inl (Fa _ q lstNT))
  ·exact .inl (.inr ⟨o, Fa _ q (fun _ e => by cases e)⟩)
  ·exact .inr q
 have key : ∀ (k : Nat) (s : S), (zX (N.length - 1) ns).rho[k]? = some (some s) → k = 0 ∧ s = .d (.scr ns) := fun k s e => by
  have e' : (some (S.d (.scr ns)) :: List.replicate (N.length - 1) none)[k]? = some (some s) := e
  match k, e' with
  | 0, e' => cases e'; exact ⟨rfl, rfl⟩
  | k + 1, e' =>
   rw [List.getElem?_cons_succ, List.getElem?_replicate] at e'
   split at e' <;> cases e'
 refine c ⟨K, xr, [], fun _ => none, F⟩ _ H F (zX (N.length - 1) ns) _ rfl rfl ⟨sF, by simp [zX], fun k s e => ?_, fun k j xs ys v q1 _ _ _ => ?_, ⟨rfl, fun n o e => ?_, fun b ps e => (noTag b ps e).elim, fun b b' n e => (noTag b _ e).elim⟩, (fun b hb => by cases hb), (fun b hb => by cases hb), (fun b hb => by cases hb), (fun b o q => by cases q), fun b ps e => (noTag b ps e).elim⟩ ?_
 ·obtain ⟨rfl, rfl⟩ := key k s e
  exact ⟨_, rfl, Da.scr hsF⟩
 ·obtain ⟨_, q⟩ := key k _ q1
  cases q
 ·have e' : ([] : List MO)[n]? = some o := e
  simp at e'
 ·rw [e1]
  intro v H2 F2 s2 r
  have hv : v = .bl true := by
   have := r.val
   cases (show Da K F2 v (.bl true) from this)
   rfl
  rw [hv]
  exact hq H2
end G
namespace G
open PySem L2
mutual
noncomputable def ib : D → Bool
 | .int i => decide (i.natAbs < 1000000000000)
 | .tup xs => ibs xs
 | .lst xs => ibs xs
 | .scr ns => ns.all fun i => decide (i.natAbs < 1000000000000)
 | _ => true
noncomputable def ibs : List D → Bool
 | [] => true
 | x :: r => ib x && ibs r
end
noncomputable def wtN (d : D) : Nat := (toPy d).weight
theorem int_ib {i : Int} (h : i.natAbs < 1000000000000) : i.natAbs.log2 < 1920 ∧ (PyData.shown (.int i)).length ≤ 13 := by
  have b := PyData.shown_int_le (i := i) (by have : (10 : Nat) ^ 12 = 1000000000000 := by decide
                                             omega)
  refine ⟨?_, b⟩
  rcases Nat.eq_zero_or_pos i.natAbs with e | e
  · rw [e]; decide
  · have : i.natAbs.log2 < 40 := (Nat.log2_lt (by omega)).mpr (by show i.natAbs < 1099511627776; omega)
    omega
theorem scr_ib : ∀ ns : List Int, (ns.all fun i => decide (i.natAbs < 1000000000000)) = true → PyData.showableAll (ns.map fun i => .int i) = true ∧ PyData.intsShortAll 13 (ns.map fun i => .int i) = true
 | [], _ => ⟨rfl, rfl⟩
 | i :: r, h => by
  rw [List.all_cons, Bool.and_eq_true] at h
  have a := scr_ib r h.2
  have b := int_ib (of_decide_eq_true h.1)
  rw [List.map_cons, PyData.showableAll, PyData.intsShortAll, a.1, a.2, PyData.showable, PyData.intsShort, decide_eq_true b.1, decide_eq_true b.2]
  exact ⟨rfl, rfl⟩
mutual
theorem ib_sh : ∀ d : D, ib d = true → (toPy d).showable = true ∧ (toPy d).intsShort 13 = true
 | .non, _ => by simp [toPy, PyData.showable, PyData.intsShort]
 | .bl b, _ => by simp [toPy, PyData.showable, PyData.intsShort]
 | .int i, h => by
  have b := int_ib (of_decide_eq_true (by rw [ib] at h; exact h))
  rw [toPy, PyData.showable, PyData.intsShort, decide_eq_true b.1, decide_eq_true b.2]
  exact ⟨rfl, rfl⟩
 | .str x, _ => by simp [toPy, PyData.showable, PyData.intsShort]
 | .tup xs, h => by rw [ib] at h; have := ibs_sh xs h; rw [toPy, PyData.showable, PyData.intsShort]; exact this
 | .lst xs, h => by rw [ib] at h; have := ibs_sh xs h; rw [toPy, PyData.showable, PyData.intsShort]; exact this
 | .scr ns, h => by rw [ib] at h; have := scr_ib ns h; rw [toPy, PyData.showable, PyData.intsShort]; exact this
 | .emp, _ => by simp [toPy, PyData.showable, PyData.intsShort]
 | .exc _ _, _ => by simp [toPy, PyData.showable, PyData.intsShort]
 | .o _, _ => by simp [toPy, PyData.showable, PyData.intsShort]
theorem ibs_sh : ∀ ds : List D, ibs ds = true → PyData.showableAll (toPys ds) = true ∧ PyData.intsShortAll 13 (toPys ds) = true
 | [], _ => by rw [toPys]; exact ⟨rfl, rfl⟩
 | d :: r, h => by
  rw [ibs, Bool.and_eq_true] at h
  have a := ib_sh d h.1
  have b := ibs_sh r h.2
  rw [toPys, PyData.showableAll, PyData.intsShortAll, a.1, a.2, b.1, b.2]
  exact ⟨rfl, rfl⟩
end
theorem showOk_of {d : D} (h1 : lay d = true) (h2 : ib d = true) (h3 : dep d ≤ 290) (h4 : wtN d ≤ 900000) : showOk d = true := by
 have s := ib_sh d h2
 have ln := PyData.shown_le 13 (by decide) (toPy d) (PyData.leavesShort_of_canLay0 13 _ (by rw [canLay_toPy]; exact h1) s.2)
 have e : (toPy d).weight = wtN d := rfl
 rw [e] at ln
 have hl : (shw d).length ≤ 15000000 := by
  show (toPy d).shown.length ≤ 15000000
  omega
 unfold showOk
 rw [h1, s.1, decide_eq_true h3, decide_eq_true hl]
 rfl
noncomputable def wtsN (ds : List D) : Nat := PyData.weightAll (toPys ds)
theorem wtN_tup (ds : List D) : wtN (.tup ds) = wtsN ds := by unfold wtN wtsN; rw [toPy, PyData.weight]
theorem wtsN_nil : wtsN [] = 0 := by unfold wtsN; rw [toPys, PyData.weightAll]
theorem wtsN_cons (d : D) (r : List D) : wtsN (d :: r) = wtN d + 1 + wtsN r := by unfold wtsN wtN; rw [toPys, PyData.weightAll]
theorem wtN_str (s : Str) : wtN (.str s) = s.cps.size := by unfold wtN; rw [toPy, PyData.weight]
end G
namespace G
open PySem L2
end G
namespace G
open PySem L2 PySem.Spec PyProof.Rows
noncomputable def putFD (f : Str) (d : D) : List (Str × D) → List (Str × D)
 | [] => [(f, d)]
 | (g, x) :: r => if g = f then (g, d) :: r else (g, x) :: putFD f d r
theorem DaF.put {K : PySem.W.Frag} {F : Hp} (f : Str) {v : V} {d : D} (hv : Da K F v d) : ∀ {a b}, DaF K F a b → DaF K F (putF f v a) (putFD f d b)
 | _, _, .nil => .cons hv .nil
 | _, _, .cons (k := k) q r => by
  unfold putF putFD
  by_cases e : k = f
  ·rw [if_pos e, if_pos e]; exact .cons hv r
  ·rw [if_neg e, if_neg e]; exact .cons q (DaF.put f hv r)
theorem DaF.length {K : PySem.W.Frag} {F : Hp} : ∀ {a b}, DaF K F a b → a.length = b.length
 | _, _, .nil => rfl
 | _, _, .cons _ r => congrArg (· + 1) (DaF.length r)
theorem DaF.look {K : PySem.W.Frag} {F : Hp} (f : Str) : ∀ {a b}, DaF K F a b → (b.lookup f = none ∧ a.lookup f = none) ∨ ∃ v d, b.lookup f = some d ∧ a.lookup f = some v ∧ Da K F v d
 | _, _, .nil => .inl ⟨rfl, rfl⟩
 | _, _, .cons (k := k) q r => by
  rw [List.lookup_cons, List.lookup_cons]
  cases (f == k) with
  | true => exact .inr ⟨_, _, rfl, rfl, q⟩
  | false => exact DaF.look f r
structure ClF (K : PySem.W.Frag) (c : Str) (C : Addr) : Prop where
  at_ : xrK K c = some (.ref C)
  cls : Cls K C
noncomputable def insAt (z : Z (List MO)) (s : S) : Option (Nat × Str × List (Str × D)) := match rd z s with
 | some (.o n) => (match z.m[n]? with
  | some (.ins c fs) => some (n, c, fs)
  | _ => none)
 | _ => none
theorem insAt_rv {G : Gx} {σ : L2.St} {H F : Hp} {z : Z (List MO)} (ok : Ok MX G σ H F z) {v : V} {s : S} {n : Nat} {c : Str} {fs : List (Str × D)} (e : EO G σ F v s) (h : insAt z s = some (n, c, fs)) : ∃ a C dx vs, v = .ref a ∧ F a = some (tag n) ∧ z.m[n]? = some (.ins c fs) ∧ xrK G.K c = some (.ref C) ∧ H a = some (.ins C dx vs) ∧ DaF G.K F vs fs := by
 unfold insAt at h
 split at h
 ·rename_i k er
  split at h
  ·rename_i c' qs em
   cases h
   have r := (EO.rv ok e er).da (fun _ q => by cases q)
   obtain ⟨a, rfl, h1, C, dx, vs, h0, h2, h3⟩ := ok.objAt r em
   exact ⟨a, C, dx, vs, rfl, h1, em, h0, h2, h3⟩
  ·cases h
 ·cases h
section
variable {ι : Type} {xr : Str → Option Value} {K : PySem.W.Frag} {X : ι → Cx} {W : WX} {N : List Str} {mg : Str → Option Value}
noncomputable def eFld (cs : List Str) (x : Str) (f : Sm MX S) (z : Z MX.T) : Rs S (Z MX.T) := (opd f z).bind fun s z1 => match insAt z1 s with
 | some (_, c, fs) => if c ∈ cs then (match fs.lookup x with
  | some d => .ok (.d d) z1
  | none => .bad) else .bad
 | none => .bad
theorem de_fld {cs : List Str} {x : Str} {e : Expr} {f : Sm MX S} {pos : Pos} (p : Pl K X N mg) (hc : ∀ c ∈ cs, ∃ C, ClF K c C ∧ NoAttr K C x) (he : DE MX xr K X W e f) (hb : ∀ j, attributeBase e x (X j).env (eval e (X j).env) = eval e (X j).env := by intro _; rfl) : DE MX xr K X W (.Attribute e x pos) (eFld cs x f) := by
 obtain ⟨t, pt, ct⟩ := he
 refine ⟨tFld K t x, fun j => by have := pe_fld (f := x) (pos := pos) (pt j) (hb j); rw [p.k j] at this; exact this, fun G σ H F z Q hK hx ok hh => ?_⟩
 refine cmp_opd ct G σ H F z _ hK hx ok (hit_bind hh fun s z1 v H1 F1 _ sm1 ok1 ev h1 => ?_)
 cases e1 : insAt z1 s with
 | none => rw [e1] at h1; exact h1.elim
 | some q =>
  obtain ⟨n, c, fs⟩ := q
  simp only [e1] at h1
  by_cases hm : c ∈ cs
  ·rw [if_pos hm] at h1
   obtain ⟨a, C, dx, vs, rfl, ha, em, hC, hH, hk⟩ := insAt_rv ok1 ev e1
   obtain ⟨C', hC', hN⟩ := hc c hm
   rw [hK] at hC hk
   have e2 := hC'.at_
   rw [hC] at e2
   cases e2
   rcases hk.look x with ⟨e3, e4⟩ | ⟨v, d, e3, e4, e5⟩
   ·rw [e3] at h1; exact h1.elim
   ·rw [e3] at h1
    exact ⟨a, C, dx, vs, v, rfl, hH, hC'.cls, hN, e4, h1 v H1 F1 (Same.refl _) ok1 (show Da G.K F1 v d by rw [hK]; exact e5)⟩
  ·rw [if_neg hm] at h1; exact h1.elim
noncomputable def sFldM (cs : List Str) (x : Str) (fv fo : Sm MX S) (z : Z MX.T) : Rs Out (Z MX.T) := (escf fv z).bind fun s z1 => (opd fo z1).bind fun s' z2 => match s, insAt z2 s' with
 | .d d, some (n, c, fs) => if c ∈ cs ∧ fs.length < 999 then .ok .nx { z2 with m := z2.m.set n (.ins c (putFD x d fs)) } else .bad
 | _, _ => .bad
theorem ds_fld {cs : List Str} {x : Str} {o value : Expr} {fv fo : Sm MX S} {pos pos' : Pos} (p : Pl K X N mg) (hc : ∀ c ∈ cs, ∃ C, ClF K c C ∧ NoAttr K C x) (hv : DE MX xr K X W value fv) (ho : DE MX xr K X W o fo) (hs : ∀ j, swapsWith value (some (.Attribute o x pos')) pos.line (X j).env = pure false := by intro _; rfl) : DS MX xr K X W (.Assign [.Attribute o x pos'] value pos) (sFldM cs x fv fo) := by
 obtain ⟨t1, p1, c1⟩ := hv
 obtain ⟨t2, p2, c2⟩ := ho
 refine ⟨sFld K t2 t1 x, fun j => by have := ps_fld (f := x) (pos := pos) (pos' := pos') (p2 j) (p1 j) (hs j); rw [p.k j] at this; exact this, fun G σ H F z D hK hx ok hh => ?_⟩
 refine cmp_esc c1 G σ H F z _ hK hx ok (hits_bind hh fun s z1 v H1 F1 _ sm1 ok1 ev h1 => ?_)
 refine cmp_opd c2 G σ H1 F1 z1 _ hK hx ok1 (hits_bind h1 fun s' z2 v' H2 F2 _ sm2 ok2 ev2 h2 => ?_)
 cases s with
 | d d =>
  cases e1 : insAt z2 s' with
  | none => simp only [e1] at h2; exact h2.elim
  | some q =>
   obtain ⟨n, c, fs⟩ := q
   simp only [e1] at h2
   by_cases hm : c ∈ cs ∧ fs.length < 999
   ·rw [if_pos hm] at h2
    obtain ⟨a, C, dx, vs, rfl, ha, em, hC, hH, hk⟩ := insAt_rv ok2 ev2 e1
    obtain ⟨C', hC', hN⟩ := hc c hm.1
    have e2 := hC'.at_
    rw [← hK, hC] at e2
    cases e2
    have l := hk.length
    have dv : Da G.K F2 v d := Da.mono sm2 ev
    refine ⟨a, C, dx, vs, rfl, hH, hC'.cls, hN, by omega, ?_⟩
    exact h2 σ (upd H2 a (.ins C dx (putF x v vs))) F2 (Same.refl _) (ok2.putO ha ⟨C, dx, _, hC, upd_same, hk.put x dv⟩)
   ·rw [if_neg hm] at h2; exact h2.elim
 | l _ => exact h2.elim
 | v _ => exact h2.elim
 | m _ => exact h2.elim
end
end G
namespace G
open PySem L2 PySem.Spec PyProof.Rows
noncomputable def tArgM (C : Addr) (m : Str) (ta : TE) (t : TA) : TA := fun σ H Q => ta σ H fun x H1 => ∃ a dx fs, x = .ref a ∧ H1 a = some (.ins C dx fs) ∧ fs.lookup m = none ∧ t σ H1 fun vs H2 => Q (x :: vs) H2
section
variable {X : Cx} {CX : CXT} {n : Nat} {f C : Addr} {fd : FuncData} {ps : List Str} {sp : Sp} {E : L2.St → XK} {x m : Str} {p pos apos : Pos} {e o : Expr} {es : List Expr} {ta : TE} {t : TA}
theorem pe_methG {pl : Sem Bool} (he : PE X o ta) (c : Cls X.K C) (hm : Meth X.K C m f) (F : FnG X.prog X.w X.K X.mg X.base CX n f fd ps sp) (hr : RmG n X.A) (hgu : X.A.guards = some []) (hb : Binds X.K fd ps []) (hx : ∀ σ, PassesAt CX X σ (E σ)) (ha : PA X (e :: es) t)
  (hst : starEach (e :: es) X.env = (false, eval e X.env) :: starEach es X.env) (hpl : (backTo pos (starEach es X.env)).any (·.1) = false)
  (ht : eval (.Call (.Attribute o m apos) (e :: es) [] pos) X.env = (do
   let ov ← eval o X.env
   standAt apos.atName
   let (f, first) ← holding [ov] (getMethod ov m pl)
   callWith pos f first (backTo pos (starEach (e :: es) X.env)) (backToKw pos (keywordEach [] X.env)))) :
  PE X (.Call (.Attribute o m apos) (e :: es) [] pos) (tCallS sp E (tArgM C m ta t)) := by
 refine ⟨fun pins s σ H Q I h => ?_⟩
 refine PySem.W.methodCall_KW (pl := pl) (thn (he.run pins s σ H _ I h) fun u s1 ⟨x, H1, I1, rx, a, dx, fs, ex, ea, l, q⟩ => ?_) ht
 subst ex
 obtain rfl : u = Value.ref a := rx
 refine getmeth_ok I1 ea c hm l ?_
 refine PySem.W.callWith_K (first := [.ref a]) (h₀ := X.base) I.ok.mod.kin hm.kp (thn (ha.run pos pins s1 σ H1 _ I1 q) fun us s2 ⟨vs, H2, I2, r, q2⟩ => ⟨I2.kIn, ?_⟩) hst hpl
 exact run_fnG (us := .ref a :: us) (ws := .ref a :: vs) (dvs := []) (ds := []) (E := E) F hr hgu hb .nil (hx σ) I2 (.cons rfl r) (by rw [List.append_nil]; exact q2)
theorem pe_meth0G {pl : Sem Bool} (he : PE X o ta) (c : Cls X.K C) (hm : Meth X.K C m f) (F : FnG X.prog X.w X.K X.mg X.base CX n f fd ps sp) (hr : RmG n X.A) (hgu : X.A.guards = some []) (hb : Binds X.K fd ps []) (hx : ∀ σ, PassesAt CX X σ (E σ))
  (ht : eval (.Call (.Attribute o m apos) [] [] pos) X.env = (do
   let ov ← eval o X.env
   standAt apos.atName
   let (f, first) ← holding [ov] (getMethod ov m pl)
   callWith pos f first (backTo pos (starEach [] X.env)) (backToKw pos (keywordEach [] X.env)))) :
  PE X (.Call (.Attribute o m apos) [] [] pos) (tCallS sp E (tArgM C m ta tNil)) := by
 refine ⟨fun pins s σ H Q I h => ?_⟩
 refine PySem.W.methodCall_KW (pl := pl) (thn (he.run pins s σ H _ I h) fun u s1 ⟨x, H1, I1, rx, a, dx, fs, ex, ea, l, q⟩ => ?_) ht
 subst ex
 obtain rfl : u = Value.ref a := rx
 refine getmeth_ok I1 ea c hm l ?_
 exact PySem.W.callWith_K0 (first := [.ref a]) I1.kIn hm.kp (run_fnG (us := [.ref a]) (ws := [.ref a]) (dvs := []) (ds := []) (E := E) F hr hgu hb .nil (hx σ) I1 (.cons rfl .nil) q)
noncomputable def tNewI (C : Addr) (sp : Sp) (E : L2.St → XK) (t : TA) : TE := fun σ H Q => t σ H fun vs H1 => ∀ x dx, H1 x = none → H1 dx = none → dx ≠ x → sp (.ref x :: vs) (upd (upd H1 dx (.own x)) x (.ins C dx [])) (fun v H2 => v = .non ∧ Q (.ref x) H2) (E σ)
theorem run_makeG {pins : List (Addr × Obj)} {σ : L2.St} {H : Hp} {s : Shared} {Q : VK} {us : List Value} {vs : List V} (M : Mk X.K C f) (F : FnG X.prog X.w X.K X.mg X.base CX n f fd ps sp) (hr : RmG (n + 1) X.A) (hgu : X.A.guards = some []) (hb : Binds X.K fd ps [])
  (hx : PassesAt CX X σ (E σ)) (I : Inv X pins σ H s) (r : Vals vs us)
  (h : ∀ x dx, H x = none → H dx = none → dx ≠ x → sp (.ref x :: vs) (upd (upd H dx (.own x)) x (.ins C dx [])) (fun v H2 => v = .non ∧ Q (.ref x) H2) (E σ)) :
  wpAny (model X.prog X.w) X.A (call (.ref C) us) (EP X pins σ Q) X.xe s := by
 have hq := h (s.heap.objs.size + 1) s.heap.objs.size (I.hok.fresh (Nat.le_succ _)) (I.hok.fresh (Nat.le_refl _)) (Nat.ne_of_lt (Nat.lt_succ_self _))
 have I2 := Inv.made (C := C) I
 have r2 : Vals (V.ref (s.heap.objs.size + 1) :: vs) (Value.ref (s.heap.objs.size + 1) :: us) := .cons rfl r
 have hl : (Value.ref (s.heap.objs.size + 1) :: us).length = ps.length := by
  have e := r2.length
  rw [F.len _ _ _ _ hq] at e
  exact e.symm
 have hb2 := hb { s with heap := (s.heap.push PySem.W.emptyDict).push (PySem.W.instObj C s.heap.objs.size) } (Value.ref (s.heap.objs.size + 1) :: us) I2.kIn (by rw [List.append_nil]; exact hl)
 rw [List.append_nil] at hb2
 refine wpAny_call (make_map (f := f) I.kIn M.makes M.init (beq_iff_eq.mp M.fn) (codeAny_mono (F.run _ X.stack _ _ ⟨Value.ref (s.heap.objs.size + 1) :: us, []⟩ (Value.ref (s.heap.objs.size + 1) :: us) _ _ (E σ) (hr.make C us []) hgu
  (I2.env0.make C us []) hb2 r2 hq) fun r s' hq' => ?_))
 cases r with
 | error e => exact hx pins _ _ e s' I2 hq'
 | ok fl =>
  cases fl with
  | ret u =>
   obtain ⟨v, H', I3, rv, ev, q3⟩ := I2.after hq'
   subst ev
   exact ⟨rv, ⟨V.ref (s.heap.objs.size + 1), H', I3, rfl, q3⟩⟩
  | next => exact False.elim hq'
  | brk => exact False.elim hq'
  | cont => exact False.elim hq'
theorem pe_make0G (M : Mk X.K C f) (F : FnG X.prog X.w X.K X.mg X.base CX n f fd ps sp) (hr : RmG (n + 1) X.A) (hgu : X.A.guards = some []) (hg : Gl X x) (hm : X.mg x = some (.ref C)) (hb : Binds X.K fd ps []) (hx : ∀ σ, PassesAt CX X σ (E σ)) (hdb : (x == ("__debug__" : Str)) = false) :
  PE X (.Call (.Name x p) [] [] pos) (tNewI C sp E tNil) := by
 refine ⟨fun pins s σ H Q I h => ?_⟩
 refine wpAny_Call_Name_kw (ld_glob I hg hm ?_ hdb)
 exact PySem.W.callWith_K0 I.kIn M.kp (run_makeG (us := []) (E := E) M F hr hgu hb (hx σ) I .nil h)
end
section
variable {ι : Type} {P : Program} {w : World} {base : Heap} {n : Nat} {xr : Str → Option Value} {K : PySem.W.Frag} {X : ι → Cx} {W : WX} {N : List Str} {mg : Str → Option Value}
noncomputable def MeAt (P : Program) (w : World) (K : PySem.W.Frag) (mg : Str → Option Value) (base : Heap) (xr : Str → Option Value) (n : Nat) (cl m : Str) (ps : List Str) (c : List S → List MO → Rs S (List MO)) : Prop :=
 ∃ C f fd, ClF K cl C ∧ Meth K C m f ∧ FnG P w K mg base (L2.CX P w) (n + 8) f fd ps (spM MX K xr ps.length c) ∧ Binds K fd ps []
noncomputable def aMeth (cl m : Str) (f : Sm MX S) (g : Sm MX (List S)) (z : Z MX.T) : Rs (List S) (Z MX.T) := (opd f z).bind fun s z1 => match insAt z1 s with
 | some (k, c, fs) => if c = cl ∧ fs.lookup m = none then (g z1).bind fun ss z2 => .ok (.d (.o k) :: ss) z2 else .bad
 | none => .bad
theorem cmp_argM {cl m : Str} {C : Addr} {ta : TE} {t : TA} {f : Sm MX S} {g : Sm MX (List S)} (hC : ClF K cl C) (cf : Cmp MX K xr W ta RelE f) (cg : Cmp MX K xr W t RelA g) : Cmp MX K xr W (tArgM C m ta t) RelA (aMeth cl m f g) := by
 intro G σ H F z Q hK hx ok hh
 refine cmp_opd cf G σ H F z _ hK hx ok (hit_bind hh fun s z1 v H1 F1 _ sm1 ok1 ev h1 => ?_)
 cases e1 : insAt z1 s with
 | none => rw [e1] at h1; exact h1.elim
 | some q =>
  obtain ⟨k, c, fs⟩ := q
  simp only [e1] at h1
  by_cases hm : c = cl ∧ fs.lookup m = none
  ·rw [if_pos hm] at h1
   obtain ⟨a, C', dx, vs, rfl, ha, em, hC', hH, hk⟩ := insAt_rv ok1 ev e1
   have e2 := hC.at_
   rw [← hm.1, ← hK, hC'] at e2
   cases e2
   have l : vs.lookup m = none := by
    rcases hk.look m with ⟨_, e4⟩ | ⟨_, _, e3, _, _⟩
    ·exact e4
    ·rw [hm.2] at e3; cases e3
   refine ⟨a, dx, vs, rfl, hH, l, ?_⟩
   refine cg G σ H1 F1 z1 _ hK hx ok1 (hit_bind h1 fun ss z2 us H2 F2 _ sm2 ok2 ea h2 => ?_)
   exact h2 (.ref a :: us) H2 F2 (Same.refl _) ok2 (.cons (show Da G.K F2 (.ref a) (.o k) from Da.o (sm2 _ _ ha)) ea)
  ·rw [if_neg hm] at h1; exact h1.elim
theorem len_meth {cl m : Str} {f : Sm MX S} {g : Sm MX (List S)} {k : Nat} (hn : ∀ z ss z1, g z = .ok ss z1 → ss.length = k) : ∀ z ss z1, aMeth cl m f g z = .ok ss z1 → ss.length = k + 1 := by
 intro z ss z1 h
 unfold aMeth at h
 cases e1 : opd f z with
 | ex _ _ => rw [e1] at h; cases h
 | bad => rw [e1] at h; cases h
 | ok s z2 =>
  rw [e1, Rs.bind_ok] at h
  cases e2 : insAt z2 s with
  | none => rw [e2] at h; cases h
  | some q =>
   obtain ⟨i, c, fs⟩ := q
   simp only [e2] at h
   by_cases hm : c = cl ∧ fs.lookup m = none
   ·rw [if_pos hm] at h
    cases e3 : g z2 with
    | ex _ _ => rw [e3] at h; cases h
    | bad => rw [e3] at h; cases h
    | ok ts z3 =>
     rw [e3, Rs.bind_ok] at h
     cases h
     rw [List.length_cons, hn _ _ _ e3]
   ·rw [if_neg hm] at h; cases h
theorem de_meth {cl m : Str} {pl : Sem Bool} {ps : List Str} {o e : Expr} {es : List Expr} {f : Sm MX S} {g : Sm MX (List S)} {c : List S → List MO → Rs S (List MO)} {apos pos : Pos} {k : Nat} (p : Pc P w K mg base N W n X) (h : MeAt P w K mg base xr n cl m ps c) (ho : DE MX xr K X W o f) (ha : DA MX xr K X W (e :: es) g) (hn : ∀ z ss z1, g z = .ok ss z1 → ss.length = k) (hk : ps.length = k + 1 := by rfl)
  (he : ∀ j, starEach (e :: es) (X j).env = (false, eval e (X j).env) :: starEach es (X j).env := by intro _; rfl) (hpl : ∀ j, (backTo pos (starEach es (X j).env)).any (·.1) = false := by intro _; rfl)
  (ht : ∀ j, eval (.Call (.Attribute o m apos) (e :: es) [] pos) (X j).env = (do
   let ov ← eval o (X j).env
   standAt apos.atName
   let (f, first) ← holding [ov] (getMethod ov m pl)
   callWith pos f first (backTo pos (starEach (e :: es) (X j).env)) (backToKw pos (keywordEach [] (X j).env))) := by intro _; rfl) :
  DE MX xr K X W (.Call (.Attribute o m apos) (e :: es) [] pos) (eCall c (aMeth cl m f g)) := by
 obtain ⟨C, fa, fd, hC, hm, hF, hb⟩ := h
 obtain ⟨t1, p1, c1⟩ := ho
 obtain ⟨t2, p2, c2⟩ := ha
 refine ⟨_, fun j => pe_methG (CX := L2.CX P w) (E := WE W) (p1 j) (by rw [p.k j]; exact hC.cls) (by rw [p.k j]; exact hm) (by rw [p.pr j, p.pw j, p.k j, p.g j, p.pb j]; exact hF) (p.room j) (p.gd j) (by rw [p.k j]; exact hb) (p.pass j) (p2 j) (he j) (hpl j) (ht j), ?_⟩
 exact cmp_call (cmp_argM hC c1 c2) (by rw [hk]; exact len_meth hn)
theorem de_meth0 {cl m : Str} {pl : Sem Bool} {ps : List Str} {o : Expr} {f : Sm MX S} {c : List S → List MO → Rs S (List MO)} {apos pos : Pos} (p : Pc P w K mg base N W n X) (h : MeAt P w K mg base xr n cl m ps c) (ho : DE MX xr K X W o f) (hk : ps.length = 1 := by rfl)
  (ht : ∀ j, eval (.Call (.Attribute o m apos) [] [] pos) (X j).env = (do
   let ov ← eval o (X j).env
   standAt apos.atName
   let (f, first) ← holding [ov] (getMethod ov m pl)
   callWith pos f first (backTo pos (starEach [] (X j).env)) (backToKw pos (keywordEach [] (X j).env))) := by intro _; rfl) :
  DE MX xr K X W (.Call (.Attribute o m apos) [] [] pos) (eCall c (aMeth cl m f aNil)) := by
 obtain ⟨C, fa, fd, hC, hm, hF, hb⟩ := h
 obtain ⟨t1, p1, c1⟩ := ho
 refine ⟨_, fun j => pe_meth0G (CX := L2.CX P w) (E := WE W) (p1 j) (by rw [p.k j]; exact hC.cls) (by rw [p.k j]; exact hm) (by rw [p.pr j, p.pw j, p.k j, p.g j, p.pb j]; exact hF) (p.room j) (p.gd j) (by rw [p.k j]; exact hb) (p.pass j) (ht j), ?_⟩
 exact cmp_call (cmp_argM hC c1 (fun G σ H F z Q _ _ ok h => h [] H F (Same.refl _) ok .nil)) (by rw [hk]; exact len_meth (fun _ _ _ h => len_nil h))
theorem paired_imp {α β : Type} {R R' : α → β → Prop} (h : ∀ a b, R a b → R' a b) : ∀ {as : List α} {bs : List β}, Paired R as bs → Paired R' as bs
 | _, _, .nil => .nil
 | _, _, .cons r t => .cons (h _ _ r) (paired_imp h t)
noncomputable def MkAt (P : Program) (w : World) (K : PySem.W.Frag) (mg : Str → Option Value) (base : Heap) (xr : Str → Option Value) (n : Nat) (cl : Str) (ps : List Str) (c : List S → List MO → Rs S (List MO)) : Prop :=
 ∃ C f fd, ClF K cl C ∧ Mk K C f ∧ mg cl = some (.ref C) ∧ FnG P w K mg base (L2.CX P w) (n + 7) f fd ps (spM MX K xr ps.length c) ∧ Binds K fd ps []
noncomputable def eMake (cl : Str) (c : List S → List MO → Rs S (List MO)) (g : Sm MX (List S)) (z : Z MX.T) : Rs S (Z MX.T) := (g z).bind fun ss z1 => if ss.all okArg = true then (match c (.d (.o z1.m.length) :: ss) (z1.m ++ [.ins cl []]) with
 | .ok (.d .non) t => .ok (.d (.o z1.m.length)) { z1 with m := t }
 | .ok _ _ => .bad
 | .ex x t => .ex x { z1 with m := t }
 | .bad => .bad) else .bad
theorem cmp_make {cl : Str} {C : Addr} {k : Nat} {t : TA} {g : Sm MX (List S)} {c : List S → List MO → Rs S (List MO)} (hC : ClF K cl C) (cg : Cmp MX K xr W t RelA g) (hn : ∀ z ss z1, g z = .ok ss z1 → ss.length + 1 = k) : Cmp MX K xr W (tNewI C (spM MX K xr k c) (WE W) t) RelE (eMake cl c g) := by
 intro G σ H F z Q hK hx ok hh
 refine cg G σ H F z _ hK hx ok (hit_bind hh fun ss z1 vs H1 F1 eg sm ok1 ea h1 => ?_)
 intro x dx nx nd ne
 by_cases hd : ss.all okArg = true
 ·rw [if_pos hd] at h1
  have hv := paired_av ea hd
  have okd := ok1.new nd (.own x)
  have nx2 : upd H1 dx (.own x) x = none := by rw [upd_ne (Ne.symm ne)]; exact nx
  have ok2 := okd.alloc (p := x) nx2 (ho := .ins C dx []) (o := .ins cl []) ⟨C, dx, [], by rw [hK]; exact hC.at_, upd_same, .nil⟩
  have sF : Same F1 (upd F1 x (tag z1.m.length)) := same_upd (okd.freshF nx2)
  have av : Paired (AV G.K (upd F1 x (tag z1.m.length)) G.ms) (.ref x :: vs) (.d (.o z1.m.length) :: ss) := .cons (show Da G.K _ (.ref x) (.o z1.m.length) from Da.o upd_same) (paired_av (paired_imp (fun _ _ q => EO.mono sF q) ea) hd)
  refine ⟨by rw [List.length_cons, hv.length, hn z ss z1 eg], G.ms, upd F1 x (tag z1.m.length), .d (.o z1.m.length) :: ss, z1.m ++ [.ins cl []], ok2.sub, by rw [← hK]; exact ok2.mach, fun a ha => ⟨ok2.msF a ha, ok2.msH a ha⟩, fun a ps e => (ok2.tg a ps e).1, by rw [← hK]; exact av, ?_⟩
  subst hK hx
  cases e : c (.d (.o z1.m.length) :: ss) (z1.m ++ [.ins cl []]) with
  | bad => rw [e] at h1; exact h1
  | ex x' t' =>
   rw [e] at h1
   exact fun cls d H' F' s' r xo => h1 cls d H' F' (sF.trans s') (ok2.call s' r) xo
  | ok s t' =>
   rw [e] at h1
   intro v H' F' s' r rv
   cases s with
   | d y =>
    cases y with
    | non =>
     cases (show Da G.K F' v .non from rv)
     exact ⟨rfl, h1 (.ref x) H' F' (sF.trans s') (ok2.call s' r) (show Da G.K F' (.ref x) (.o z1.m.length) from Da.o (s' _ _ upd_same))⟩
    | _ => exact h1.elim
   | _ => exact h1.elim
 ·rw [if_neg hd] at h1; exact h1.elim
theorem de_make0 {cl : Str} {ps : List Str} {c : List S → List MO → Rs S (List MO)} {pp pos : Pos} (p : Pc P w K mg base N W n X) (h : MkAt P w K mg base xr n cl ps c) (hk : ps.length = 1 := by rfl) (hg : ∀ j, Gl (X j) cl := by intro _; rfl)
  (hdb : (cl == ("__debug__" : Str)) = false := by decide) : DE MX xr K X W (.Call (.Name cl pp) [] [] pos) (eMake cl c aNil) := by
 obtain ⟨C, fa, fd, hC, hm, hmg, hF, hb⟩ := h
 refine ⟨_, fun j => pe_make0G (CX := L2.CX P w) (E := WE W) (n := n + 7) (by rw [p.k j]; exact hm) (by rw [p.pr j, p.pw j, p.k j, p.g j, p.pb j]; exact hF) (p.room j) (p.gd j) (hg j) (by rw [p.g j]; exact hmg) (by rw [p.k j]; exact hb) (p.pass j) hdb, cmp_make hC (fun G σ H F z Q _ _ ok h => h [] H F (Same.refl _) ok .nil) (fun z ss z1 h => by rw [hk, len_nil h])⟩
noncomputable def MeIn (K : PySem.W.Frag) (cl m qual : Str) (st : Stmt) (ps : List Str) : Prop := ∃ C f fd, ClF K cl C ∧ Meth K C m f ∧ FunD K m qual (defArgs st) (defBody st) (defScope st) [] [] f fd ∧ Binds K fd ps []
noncomputable def MkIn (K : PySem.W.Frag) (mg : Str → Option Value) (cl qual : Str) (st : Stmt) (ps : List Str) : Prop := ∃ C f fd, ClF K cl C ∧ Mk K C f ∧ mg cl = some (.ref C) ∧ FunD K "__init__" qual (defArgs st) (defBody st) (defScope st) [] [] f fd ∧ Binds K fd ps []
theorem spBad {ps : List Str} {k : Nat} {f : Addr} {fd : FuncData} : FnG P w K mg base (L2.CX P w) k f fd ps (spM MX K xr ps.length (fun _ _ => .bad)) := by
 have no : ∀ vs H Q E, ¬ spM MX K xr ps.length (fun _ _ => .bad) vs H Q E := fun vs H Q E h => by
  obtain ⟨_, _, _, _, _, _, _, _, _, _, z⟩ := h
  exact z
 exact ⟨fun vs H Q E h => absurd h (no vs H Q E), fun A outer s H args us vs Q E _ _ _ _ _ h => absurd h (no vs H Q E)⟩
theorem meAt_zero {cl m qual : Str} {st : Stmt} {ps : List Str} (h : MeIn K cl m qual st ps) : MeAt P w K mg base xr 0 cl m ps (fun _ _ => .bad) := by
 obtain ⟨C, f, fd, hC, hm, hF, hb⟩ := h
 exact ⟨C, f, fd, hC, hm, spBad, hb⟩
theorem meAt_succ {cl m qual : Str} {st : Stmt} {ps : List Str} {b : Sm MX Out} (h : MeIn K cl m qual st ps) (Sc : FnScope N ps (defScope st))
  (hb : ∀ (f : Addr) (cdv : Value) (A : Around) (outer : List Env) (s : Shared) (H : Hp) (E : XK), RmG (n + 8) (A.deeper (PyProof.Rows.envOfC qual (defScope st) s.heap.objs.size f cdv)) → A.guards = some [] →
   DSs MX xr K (fun _ : Unit => cxOf (L2.CX P w) P w K mg base N qual (defScope st) f cdv A outer s H E) (fun cls d _ H => E cls d H) (defBody st) b) : MeAt P w K mg base xr (n + 1) cl m ps (fnM N.length b) := by
 obtain ⟨C, f, fd, hC, hm, hF, hbd⟩ := h
 exact ⟨C, f, fd, hC, hm, okM hF Sc (hb f), hbd⟩
theorem mkAt_zero {cl qual : Str} {st : Stmt} {ps : List Str} (h : MkIn K mg cl qual st ps) (k : Nat) : MkAt P w K mg base xr k cl ps (fun _ _ => .bad) := by
 obtain ⟨C, f, fd, hC, hm, hg, hF, hb⟩ := h
 exact ⟨C, f, fd, hC, hm, hg, spBad, hb⟩
theorem mkAt_succ {cl qual : Str} {st : Stmt} {ps : List Str} {b : Sm MX Out} (h : MkIn K mg cl qual st ps) (Sc : FnScope N ps (defScope st))
  (hb : ∀ (f : Addr) (cdv : Value) (A : Around) (outer : List Env) (s : Shared) (H : Hp) (E : XK), RmG (n + 8) (A.deeper (PyProof.Rows.envOfC qual (defScope st) s.heap.objs.size f cdv)) → A.guards = some [] →
   DSs MX xr K (fun _ : Unit => cxOf (L2.CX P w) P w K mg base N qual (defScope st) f cdv A outer s H E) (fun cls d _ H => E cls d H) (defBody st) b) : MkAt P w K mg base xr (n + 2) cl ps (fnM N.length b) := by
 obtain ⟨C, f, fd, hC, hm, hg, hF, hbd⟩ := h
 exact ⟨C, f, fd, hC, hm, hg, okM hF Sc (hb f), hbd⟩
end
theorem clF_mk {K : PySem.W.Frag} {c : Str} {C : Addr} (a : PySem.W.nsIn K mainGlobals c = some (some (.ref C))) (c1 : PySem.W.plainGet K C Str.empty = true) (c2 : PySem.W.hasDictIn K C = true) (c3 : PySem.W.plainOver K C = true) (c4 : PySem.W.findIn K (.ref C) "__setattr__" = some (some (.builtin "object.__setattr__"))) : ClF K c C :=
 ⟨by unfold xrK; rw [a], c1, c2, c3, c4⟩
theorem funQ_mk {K : PySem.W.Frag} {x qual : Str} {st : Stmt} {f : Addr} {oc : Value} {od an : Option Addr} {osl : Array (Option Value)} {kV doc pm cdv ct : Value} (l : K.lookup f = some ⟨oc, od, .func (PySem.W.fnOf x qual (defArgs st) (defBody st) (defScope st) .none kV doc pm an cdv ct), osl⟩) (c : PySem.W.codeIn K cdv qual = true) (k : PySem.W.keepIn K (.ref f) = true) :
  FunD K x qual (defArgs st) (defBody st) (defScope st) [] [] f (PySem.W.fnOf x qual (defArgs st) (defBody st) (defScope st) .none kV doc pm an cdv ct) := ⟨⟨oc, od, .none, kV, doc, pm, an, cdv, ct, osl, rfl, l, c, .inl ⟨rfl, rfl⟩, .inl rfl⟩, k⟩
theorem meIn_mk {K : PySem.W.Frag} {cl m qual : Str} {st : Stmt} {ps : List Str} {C f : Addr} {oc : Value} {od an : Option Addr} {osl : Array (Option Value)} {kV doc pm cdv ct : Value} (hC : ClF K cl C) (a : PySem.W.findIn K (.ref C) m = some (some (.ref f))) (fn : PySem.W.isFn K (.ref f) = true)
  (l : K.lookup f = some ⟨oc, od, .func (PySem.W.fnOf m qual (defArgs st) (defBody st) (defScope st) .none kV doc pm an cdv ct), osl⟩) (c : PySem.W.codeIn K cdv qual = true) (k : PySem.W.keepIn K (.ref f) = true)
  (hb : ∀ (kV doc pm : Value) (an : Option Addr) (cdv ct : Value) (us : List Value), us.length = ps.length → bindArgs (PySem.W.fnOf m qual (defArgs st) (defBody st) (defScope st) .none kV doc pm an cdv ct) ⟨us, []⟩ = pure (ps.zip us)) : MeIn K cl m qual st ps :=
 ⟨C, f, _, hC, ⟨a, fn, k⟩, funQ_mk (st := st) l c k, fun s us _ hl => by rw [List.append_nil] at hl ⊢; exact .of_eq (hb _ _ _ _ _ _ us hl)⟩
theorem mkIn_mk {K : PySem.W.Frag} {h : Heap} {mg : Str → Option Value} {cl qual : Str} {st : Stmt} {ps : List Str} {C f : Addr} {oc : Value} {od an : Option Addr} {osl : Array (Option Value)} {kV doc pm cdv ct : Value} (X : K.In h) (G : h.Ns mainGlobals mg) (hC : ClF K cl C) (ca : PySem.W.nsIn K mainGlobals cl = some (some (.ref C))) (mk : PySem.W.makesIn K C = true) (kC : PySem.W.keepIn K (.ref C) = true) (a : PySem.W.findIn K (.ref C) "__init__" = some (some (.ref f))) (fn : PySem.W.isFn K (.ref f) = true)
  (l : K.lookup f = some ⟨oc, od, .func (PySem.W.fnOf "__init__" qual (defArgs st) (defBody st) (defScope st) .none kV doc pm an cdv ct), osl⟩) (c : PySem.W.codeIn K cdv qual = true) (k : PySem.W.keepIn K (.ref f) = true)
  (hb : ∀ (kV doc pm : Value) (an : Option Addr) (cdv ct : Value) (us : List Value), us.length = ps.length → bindArgs (PySem.W.fnOf "__init__" qual (defArgs st) (defBody st) (defScope st) .none kV doc pm an cdv ct) ⟨us, []⟩ = pure (ps.zip us)) : MkIn K mg cl qual st ps :=
 ⟨C, f, _, hC, ⟨mk, a, fn, kC⟩, PySem.W.mg_of X G ca, funQ_mk (st := st) l c k, fun s us _ hl => by rw [List.append_nil] at hl ⊢; exact .of_eq (hb _ _ _ _ _ _ us hl)⟩
end G
namespace G
open PySem L2 PySem.Spec PyProof.Rows
noncomputable def leS (a b : Str) : Bool := !ltCps b.cps.toList a.cps.toList
theorem lt_tri : ∀ a b : List Nat, ltCps a b = false → ltCps b a = false → a = b
 | [], [], _, _ => rfl
 | [], _ :: _, h, _ => by simp [ltCps] at h
 | _ :: _, [], _, h => by simp [ltCps] at h
 | x :: r, y :: s, h1, h2 => by
  by_cases q : x = y
  ·subst q
   simp only [ltCps, Nat.lt_irrefl, decide_false, Bool.false_or, beq_self_eq_true, Bool.true_and] at h1 h2
   rw [lt_tri r s (by simpa using h1) (by simpa using h2)]
  ·exfalso
   simp only [ltCps] at h1 h2
   rcases Nat.lt_or_gt_of_ne q with z | z
   ·simp [z] at h1
   ·simp [z] at h2
theorem lt_asy : ∀ a b : List Nat, ltCps a b = true → ltCps b a = false
 | [], [], h => by simp [ltCps] at h
 | [], _ :: _, _ => by simp [ltCps]
 | _ :: _, [], h => by simp [ltCps] at h
 | x :: r, y :: s, h => by
  simp only [ltCps] at h ⊢
  by_cases q : x = y
  ·subst q
   simp at h ⊢
   exact lt_asy r s h
  ·rcases Nat.lt_or_gt_of_ne q with z | z
   ·have : ¬ y < x := by omega
    simp [z, this, Ne.symm q]
    try omega
   ·have : ¬ x < y := by omega
    simp [this, q] at h
theorem lt_trn : ∀ a b c : List Nat, ltCps a b = true → ltCps b c = true → ltCps a c = true
 | [], _, [], _, h => by cases ‹List Nat› <;> simp [ltCps] at h
 | [], _, _ :: _, _, _ => by simp [ltCps]
 | _ :: _, [], _, h, _ => by simp [ltCps] at h
 | _ :: _, _ :: _, [], _, h => by simp [ltCps] at h
 | x :: r, y :: s, z :: t, h1, h2 => by
  simp only [ltCps] at h1 h2 ⊢
  by_cases q : x = y
  ·subst q
   by_cases q2 : x = z
   ·subst q2
    simp at h1 h2 ⊢
    exact lt_trn r s t h1 h2
   ·have z1 : x < z := by
     rcases Nat.lt_or_gt_of_ne q2 with w | w
     ·exact w
     ·have : ¬ x < z := by omega
      simp [this, q2] at h2
    simp [z1]
  ·have z1 : x < y := by
    rcases Nat.lt_or_gt_of_ne q with w | w
    ·exact w
    ·have : ¬ x < y := by omega
     simp [this, q] at h1
   have z2 : y ≤ z := by
    by_cases q3 : y = z
    ·omega
    ·rcases Nat.lt_or_gt_of_ne q3 with w | w
     ·omega
     ·have : ¬ y < z := by omega
      simp [this, q3] at h2
   have : x < z := by omega
   simp [this]
theorem str_ext {a b : Str} (h : a.cps.toList = b.cps.toList) : a = b := by
 cases a; cases b
 simp only at h
 congr 1
 exact Array.toList_inj.mp h
theorem leS_anti {a b : Str} (h1 : leS a b = true) (h2 : leS b a = true) : a = b := by
 unfold leS at h1 h2
 exact str_ext (lt_tri _ _ (by simpa using h2) (by simpa using h1))
theorem leS_total (a b : Str) : leS a b = true ∨ leS b a = true := by
 unfold leS
 cases h : ltCps b.cps.toList a.cps.toList with
 | false => exact .inl rfl
 | true => rw [lt_asy _ _ h]; exact .inr rfl
theorem leS_trans {a b c : Str} (h1 : leS a b = true) (h2 : leS b c = true) : leS a c = true := by
 unfold leS at *
 cases h : ltCps c.cps.toList a.cps.toList with
 | false => rfl
 | true =>
  cases hb : ltCps a.cps.toList b.cps.toList with
  | true => rw [lt_trn _ _ _ h hb] at h2; cases h2
  | false =>
   have e := lt_tri _ _ hb (by simpa using h1)
   rw [e] at h
   rw [h] at h2
   cases h2
theorem rising_pw : ∀ (ys : List Str) (p : Str), risingS p ys = true → (p :: ys).Pairwise (fun a b => leS a b = true)
 | [], p, _ => List.pairwise_singleton _ _
 | y :: r, p, h => by
  rw [risingS, Bool.and_eq_true] at h
  have ih := rising_pw r y h.2
  refine List.pairwise_cons.mpr ⟨fun z hz => ?_, ih⟩
  rcases List.mem_cons.mp hz with rfl | hz
  ·exact h.1
  ·exact leS_trans (show leS p y = true from h.1) ((List.pairwise_cons.mp ih).1 z hz)
theorem sorted_pw {ys : List Str} (h : sortedS ys = true) : ys.Pairwise (fun a b => leS a b = true) := by
 cases ys with
 | nil => exact List.Pairwise.nil
 | cons y r => exact rising_pw r y h
theorem perm_uniq : ∀ {xs ys : List Str}, xs.Perm ys → xs.Pairwise (fun a b => leS a b = true) → ys.Pairwise (fun a b => leS a b = true) → xs = ys
 | [], ys, p, _, _ => by have := p.length_eq; cases ys with
  | nil => rfl
  | cons _ _ => cases this
 | x :: r, [], p, _, _ => by have := p.length_eq; cases this
 | x :: r, y :: s, p, h1, h2 => by
  have a := List.pairwise_cons.mp h1
  have b := List.pairwise_cons.mp h2
  have e : x = y := by
   rcases List.mem_cons.mp (p.mem_iff.mp List.mem_cons_self : x ∈ y :: s) with e | hx
   ·exact e
   ·rcases List.mem_cons.mp (p.mem_iff.mpr List.mem_cons_self : y ∈ x :: r) with e | hy
    ·exact e.symm
    ·exact leS_anti (a.1 y hy) (b.1 x hx)
  subst e
  rw [perm_uniq (List.Perm.cons_inv p) a.2 b.2]
noncomputable def srtS (ks : List Str) : List Str := ks.mergeSort leS
theorem srt_perm (ks : List Str) : (srtS ks).Perm ks := List.mergeSort_perm ks leS
theorem srt_pw (ks : List Str) : (srtS ks).Pairwise (fun a b => leS a b = true) := List.pairwise_mergeSort (le := leS) (fun a b c h1 h2 => leS_trans h1 h2) (fun a b => by rcases leS_total a b with h | h <;> simp [h]) ks
theorem srt_uniq {ks ys : List Str} (p : ys.Perm ks) (h : sortedS ys = true) : ys = srtS ks := perm_uniq (p.trans (srt_perm ks).symm) (sorted_pw h) (srt_pw ks)
theorem DaK.keys {K : PySem.W.Frag} {F : Hp} : ∀ {a b}, DaK K F a b → a.map (·.1) = b.map (·.1)
 | _, _, .nil => rfl
 | _, _, .cons _ r => by rw [List.map_cons, List.map_cons, DaK.keys r]
noncomputable def keyS : List Key → Option (List Str)
 | [] => some []
 | .inr x :: r => (keyS r).map (x :: ·)
 | .inl _ :: _ => none
theorem keyS_eq : ∀ {ks : List Key} {ss : List Str}, keyS ks = some ss → ks = ss.map Sum.inr
 | [], ss, h => by cases h; rfl
 | .inr x :: r, ss, h => by
  rw [keyS] at h
  cases e : keyS r with
  | none => rw [e] at h; cases h
  | some ts => rw [e] at h; cases h; rw [List.map_cons, keyS_eq e]
 | .inl _ :: _, ss, h => by cases h
noncomputable def kD : Key → D
 | .inl i => .int i
 | .inr x => .str x
section
variable {ι : Type} {xr : Str → Option Value} {K : PySem.W.Frag} {X : ι → Cx} {W : WX} {N : List Str} {mg : Str → Option Value}
noncomputable def eDIx (f g : Sm MX S) (z : Z MX.T) : Rs S (Z MX.T) := (opd f z).bind fun s z1 => (opd g z1).bind fun s' z2 => match dictAt z2 s, (rd z2 s').bind keyD with
 | some (_, ps), some k => (match valD ps k with
  | some d => .ok (.d d) z2
  | none => .bad)
 | _, _ => .bad
theorem de_dix {o i : Expr} {f g : Sm MX S} {pos : Pos} (p : Pl K X N mg) (ho : DE MX xr K X W o f) (hi : DE MX xr K X W i g) (hs : NoSl i := by exact fun _ _ => rfl) : DE MX xr K X W (.Subscript o i pos) (eDIx f g) := by
 obtain ⟨t1, p1, c1⟩ := ho
 obtain ⟨t2, p2, c2⟩ := hi
 refine ⟨tDGet t1 t2, fun j => pe_dget (by have := p.u j; omega) (p1 j) (p2 j) hs, fun G σ H F z Q hK hx ok hh => ?_⟩
 refine cmp_opd c1 G σ H F z _ hK hx ok (hit_bind hh fun s z1 v H1 F1 _ sm1 ok1 ev h1 => ?_)
 refine cmp_opd c2 G σ H1 F1 z1 _ hK hx ok1 (hit_bind h1 fun s' z2 v' H2 F2 _ sm2 ok2 ev2 h2 => ?_)
 cases e2 : dictAt z2 s with
 | none => simp only [e2] at h2; exact h2.elim
 | some q =>
  obtain ⟨n, ps⟩ := q
  cases e3 : (rd z2 s').bind keyD with
  | none => simp only [e2, e3] at h2; exact h2.elim
  | some k =>
   simp only [e2, e3] at h2
   obtain ⟨a, kvs, rfl, ha, em, hH, hk⟩ := dictAt_rv ok2 (EO.mono sm2 ev) e2
   cases er : rd z2 s' with
   | none => rw [er] at e3; cases e3
   | some d =>
    rw [er] at e3
    have hv := keyD_v (EO.rv ok2 ev2 er) e3
    subst hv
    rcases hk.val k with ⟨e4, e5⟩ | ⟨v, d, e4, e5, e6⟩
    ·rw [e4] at h2; exact h2.elim
    ·rw [e4] at h2
     have dg := DGet.k (k := k) hH
     rw [e5] at dg
     exact ⟨a, v, rfl, dg, h2 v H2 F2 (Same.refl _) ok2 e6⟩
noncomputable def eDCopy (f : Sm MX S) (z : Z MX.T) : Rs S (Z MX.T) := (opd f z).bind fun s z1 => match dictAt z1 s with
 | some (_, ps) => .ok (.d (.o z1.m.length)) { z1 with m := z1.m ++ [.dK ps] }
 | none => .bad
theorem de_dcopy {e : Expr} {f : Sm MX S} {pp pos : Pos} (p : Pl K X N mg) (hm : mg "dict" = none) (he : DE MX xr K X W e f) (hg : ∀ j, Gl (X j) "dict" := by intro _; rfl) (hst : ∀ j, starEach [e] (X j).env = (false, eval e (X j).env) :: starEach [] (X j).env := by intro _; rfl) : DE MX xr K X W (.Call (.Name "dict" pp) [e] [] pos) (eDCopy f) := by
 obtain ⟨t1, p1, c1⟩ := he
 refine ⟨_, fun j => pe_callTy call_dictD (hg j) (by rw [p.g j]; exact hm) (by decide +kernel) (pa_cons (p1 j) pa_nil (hst j)) (by decide) (by decide) (hst j) (by rfl), fun G σ H F z Q hK hx ok hh => ?_⟩
 refine cmp_opd c1 G σ H F z _ hK hx ok (hit_bind hh fun s z1 v H1 F1 _ sm1 ok1 ev h1 => ?_)
 cases e2 : dictAt z1 s with
 | none => simp only [e2] at h1; exact h1.elim
 | some q =>
  obtain ⟨n, ps⟩ := q
  simp only [e2] at h1
  obtain ⟨a, kvs, rfl, ha, em, hH, hk⟩ := dictAt_rv ok1 ev e2
  refine ⟨a, kvs, rfl, .inl hH, fun q hq => ?_⟩
  have sF : Same F1 (upd F1 q (tag z1.m.length)) := same_upd (ok1.freshF hq)
  exact h1 (.ref q) (upd H1 q (.dK kvs)) (upd F1 q (tag z1.m.length)) sF (ok1.alloc hq ⟨kvs, upd_same, hk.mono sF⟩) (Da.o upd_same)
noncomputable def eDSort (f : Sm MX S) (z : Z MX.T) : Rs S (Z MX.T) := (opd f z).bind fun s z1 => match dictAt z1 s with
 | some (_, ps) => (match keyS (ps.map (·.1)) with
  | some ss => if ss.length < 64 then .ok (.l ((srtS ss).map D.str)) z1 else .bad
  | none => .bad)
 | none => .bad
theorem de_dsort {e : Expr} {f : Sm MX S} {pp pos : Pos} (p : Pl K X N mg) (hm : mg "sorted" = none) (he : DE MX xr K X W e f) (hg : ∀ j, Gl (X j) "sorted" := by intro _; rfl) (hst : ∀ j, starEach [e] (X j).env = (false, eval e (X j).env) :: starEach [] (X j).env := by intro _; rfl) : DE MX xr K X W (.Call (.Name "sorted" pp) [e] [] pos) (eDSort f) := by
 obtain ⟨t1, p1, c1⟩ := he
 refine ⟨_, fun j => pe_callB (call_sortedD (p.c j)) (hg j) (by rw [p.g j]; exact hm) (by decide +kernel) (pa_cons (p1 j) pa_nil (hst j)) (by decide) (by decide) (hst j) (by rfl), fun G σ H F z Q hK hx ok hh => ?_⟩
 refine cmp_opd c1 G σ H F z _ hK hx ok (hit_bind hh fun s z1 v H1 F1 _ sm1 ok1 ev h1 => ?_)
 cases e2 : dictAt z1 s with
 | none => simp only [e2] at h1; exact h1.elim
 | some q =>
  obtain ⟨n, ps⟩ := q
  simp only [e2] at h1
  obtain ⟨a, kvs, rfl, ha, em, hH, hk⟩ := dictAt_rv ok1 ev e2
  cases e3 : keyS (ps.map (·.1)) with
  | none => rw [e3] at h1; exact h1.elim
  | some ss =>
   simp only [e3] at h1
   by_cases hl : ss.length < 64
   ·rw [if_pos hl] at h1
    refine ⟨a, kvs, ss, rfl, .inl hH, by rw [hk.keys]; exact keyS_eq e3, hl, fun ys q pm so hq => ?_⟩
    have := srt_uniq pm so
    subst this
    exact h1 (.ref q) (upd H1 q (.lst ((srtS ss).map V.str))) F1 (Same.refl _) (ok1.new hq _) ⟨q, _, rfl, upd_same, daAll_strs _, ok1.freshF hq, ok1.freshP hq, ok1.freshM hq, ok1.freshO hq⟩
   ·rw [if_neg hl] at h1; exact h1.elim
noncomputable def eDList (f : Sm MX S) (z : Z MX.T) : Rs S (Z MX.T) := (opd f z).bind fun s z1 => match dictAt z1 s with
 | some (_, ps) => .ok (.l (ps.map fun kv => kD kv.1)) z1
 | none => .bad
theorem daAll_keys {F : Hp} : ∀ ks : List Key, DaAll K F (ks.map kV) (ks.map kD)
 | [] => .nil
 | .inl i :: r => .cons (.int i) (daAll_keys r)
 | .inr x :: r => .cons (.str x) (daAll_keys r)
theorem de_dlist {e : Expr} {f : Sm MX S} {pp pos : Pos} (p : Pl K X N mg) (hm : mg "list" = none) (he : DE MX xr K X W e f) (hg : ∀ j, Gl (X j) "list" := by intro _; rfl) (hst : ∀ j, starEach [e] (X j).env = (false, eval e (X j).env) :: starEach [] (X j).env := by intro _; rfl) : DE MX xr K X W (.Call (.Name "list" pp) [e] [] pos) (eDList f) := by
 obtain ⟨t1, p1, c1⟩ := he
 refine ⟨_, fun j => pe_callTy (call_listD (p.c j)) (hg j) (by rw [p.g j]; exact hm) (by decide +kernel) (pa_cons (p1 j) pa_nil (hst j)) (by decide) (by decide) (hst j) (by rfl), fun G σ H F z Q hK hx ok hh => ?_⟩
 refine cmp_opd c1 G σ H F z _ hK hx ok (hit_bind hh fun s z1 v H1 F1 _ sm1 ok1 ev h1 => ?_)
 cases e2 : dictAt z1 s with
 | none => simp only [e2] at h1; exact h1.elim
 | some q =>
  obtain ⟨n, ps⟩ := q
  simp only [e2] at h1
  obtain ⟨a, kvs, rfl, ha, em, hH, hk⟩ := dictAt_rv ok1 ev e2
  refine ⟨a, kvs, rfl, .inl hH, fun q hq => ?_⟩
  have ek : (kvs.map fun kv => kV kv.1) = (ps.map (·.1)).map kV := by rw [← hk.keys, List.map_map]; rfl
  have ed : (ps.map fun kv => kD kv.1) = (ps.map (·.1)).map kD := by rw [List.map_map]; rfl
  rw [ek]
  rw [ed] at h1
  exact h1 (.ref q) (upd H1 q (.lst ((ps.map (·.1)).map kV))) F1 (Same.refl _) (ok1.new hq _) ⟨q, _, rfl, upd_same, daAll_keys _, ok1.freshF hq, ok1.freshP hq, ok1.freshM hq, ok1.freshO hq⟩
end
end G
namespace G
open PySem L2
noncomputable def methS (st : Stmt) (j : Nat) : Stmt := match st with
 | .ClassDef _ _ _ body _ _ _ _ _ _ _ => body.getD j (.Pass ⟨0, 0, 0, 0⟩)
 | _ => .Pass ⟨0, 0, 0, 0⟩
theorem cls1 {K : PySem.W.Frag} {c x : Str} {C : Addr} (h : ClF K c C) (n : NoAttr K C x) : ∀ c' ∈ [c], ∃ C, ClF K c' C ∧ NoAttr K C x := by
 intro c' hc
 rcases List.mem_singleton.mp hc with rfl
 exact ⟨C, h, n⟩
end G
namespace G
open PySem L2
section
variable {ι : Type} {M : MI} {xr : Str → Option Value} {K : PySem.W.Frag} {X : ι → Cx} {W : WX}
end
end G
namespace G
open PySem L2 PySem.Spec PyProof.Rows
noncomputable def ksD (ps : List (Str × Str)) : List (Key × D) := ps.map fun p => (Sum.inr p.1, D.str p.2)
noncomputable def mergeD (kvs more : List (Key × D)) : List (Key × D) := more.foldl (fun acc kv => putD acc kv.1 kv.2) kvs
section
variable {ι : Type} {xr : Str → Option Value} {K : PySem.W.Frag} {X : ι → Cx} {W : WX} {N : List Str} {mg : Str → Option Value}
end
section
variable {ι : Type} {xr : Str → Option Value} {K : PySem.W.Frag} {X : ι → Cx} {W : WX} {N : List Str} {mg : Str → Option Value}
theorem DaK.mergeA {K : PySem.W.Frag} {F : Hp} : ∀ {c : List (Key × V)} {d : List (Key × D)}, DaK K F c d → ∀ {a : List (Key × V)} {b : List (Key × D)}, DaK K F a b → DaK K F (mergeK a c) (mergeD b d)
 | _, _, .nil, _, _, h => h
 | _, _, .cons q r, _, _, h => DaK.mergeA r (h.put _ q)
end
end G
namespace G
open PySem L2 PySem.Spec PyProof.Rows
inductive EsD (K : PySem.W.Frag) (P : Params) : List DictEntry → List (Str × D) → Prop
  | nil : EsD K P [] []
  | cons {x : Str} {t : Tok} {u : Value} {v : V} {d : D} {r : List DictEntry} {tb : List (Str × D)} : RelV v u → (∀ F, Da K F v d) → EsD K P r tb → EsD K P (⟨PyData.keyHash P x, .str x t, u⟩ :: r) ((x, d) :: tb)
section
variable {ι : Type} {M : MI} {xr : Str → Option Value} {K : PySem.W.Frag} {X : ι → Cx} {W : WX} {N : List Str} {mg : Str → Option Value}
end
noncomputable def rEq0 (K : PySem.W.Frag) (neg : Bool) : R2 := fun x y H Q => ∃ a b xs, x = .ref a ∧ y = .ref b ∧ ((SqT K H a xs ∧ SqT K H b []) ∨ (SqL K H a xs ∧ SqL K H b [])) ∧ Q (.bl (neg ^^ xs.isEmpty)) H
section
variable {X : Cx}
theorem all_nil (n : Nat) (e : Nat → Bool) (h : n = 0) : (List.range n).all e = true := by subst h; rfl
theorem op_eq0 (hu : X.A.units < cLine) : OpR X (compareOp .Eq) (rEq0 X.K false) := by
 intro pins s σ H x y v u Q I rx ry h
 obtain ⟨a, b, xs, rfl, rfl, k, q⟩ := h
 cases rx
 cases ry
 rcases k with ⟨k1, k2⟩ | ⟨k1, k2⟩
 ·obtain ⟨its, rv, ⟨o, ho, hc, n, hd⟩, _⟩ := I.tuple k1
  obtain ⟨its2, rv2, ⟨o2, ho2, hc2, n2, hd2⟩, _⟩ := I.tuple k2
  cases rv2
  have hl := rv.length
  refine SeqAt.eq_tupleAt (e := fun _ => true) ⟨o, ho, hc, n, hd⟩ ⟨o2, ho2, hc2, n2, hd2⟩ hu (fun j _ j2 => absurd j2 (by simp)) ?_
  refine ⟨.bl xs.isEmpty, H, I, ?_, by rw [Bool.false_xor] at q; exact q⟩
  show Value.bool _ = Value.bool xs.isEmpty
  cases xs with
  | nil => cases rv; rfl
  | cons x r => cases rv; simp
 ·obtain ⟨its, rv, ⟨o, n, ho, hc, e1, hd⟩, _⟩ := I.list k1
  obtain ⟨its2, rv2, ⟨o2, n2, ho2, hc2, e2, hd2⟩, _⟩ := I.list k2
  cases rv2
  cases xs with
  | nil =>
   cases rv
   refine SeqAt.eq_listAt (e := fun _ => true) ⟨o, ho, hc, n, hd⟩ ⟨o2, ho2, hc2, n2, hd2⟩ rfl hu (fun j _ j2 => absurd j2 (by simp)) ?_
   exact ⟨.bl true, H, I, by simp [L2.RelV], q⟩
  | cons x r =>
   cases rv
   refine SeqAt.eq_list_lengthsAt ⟨o, ho, hc, n, hd⟩ ⟨o2, ho2, hc2, n2, hd2⟩ (by simp) hu ?_
   exact ⟨.bl false, H, I, rfl, q⟩
theorem op_ne0 (hu : X.A.units < cLine) : OpR X (compareOp .NotEq) (rEq0 X.K true) := by
 intro pins s σ H x y v u Q I rx ry h
 obtain ⟨a, b, xs, rfl, rfl, k, q⟩ := h
 cases rx
 cases ry
 rcases k with ⟨k1, k2⟩ | ⟨k1, k2⟩
 ·obtain ⟨its, rv, ⟨o, ho, hc, n, hd⟩, _⟩ := I.tuple k1
  obtain ⟨its2, rv2, ⟨o2, ho2, hc2, n2, hd2⟩, _⟩ := I.tuple k2
  cases rv2
  refine SeqAt.RcNeAt.tuples (e := fun _ => true) ⟨o, ho, hc, n, hd⟩ ⟨o2, ho2, hc2, n2, hd2⟩ hu (fun j _ j2 => absurd j2 (by simp)) _ _ _ _ ?_
  refine ⟨.bl (!xs.isEmpty), H, I, ?_, by rw [Bool.true_xor] at q; exact q⟩
  show Value.bool _ = Value.bool (!xs.isEmpty)
  cases xs with
  | nil => cases rv; rfl
  | cons x r => cases rv; simp
 ·obtain ⟨its, rv, ⟨o, n, ho, hc, e1, hd⟩, _⟩ := I.list k1
  obtain ⟨its2, rv2, ⟨o2, n2, ho2, hc2, e2, hd2⟩, _⟩ := I.list k2
  cases rv2
  cases xs with
  | nil =>
   cases rv
   refine SeqAt.RcNeAt.lists (e := fun _ => true) ⟨o, ho, hc, n, hd⟩ ⟨o2, ho2, hc2, n2, hd2⟩ rfl hu (fun j _ j2 => absurd j2 (by simp)) _ _ _ _ ?_
   exact ⟨.bl false, H, I, by simp [L2.RelV], q⟩
  | cons x r =>
   cases rv
   refine SeqAt.RcNeAt.lists_lengths ⟨o, ho, hc, n, hd⟩ ⟨o2, ho2, hc2, n2, hd2⟩ (by simp) hu _ _ _ _ ?_
   exact ⟨.bl true, H, I, rfl, q⟩
end
noncomputable def dEq0 (neg : Bool) : D → D → Option R := fun a b => match a, b with
 | .tup xs, .tup [] => some (.d (.bl (neg ^^ xs.isEmpty)))
 | .lst xs, .lst [] => some (.d (.bl (neg ^^ xs.isEmpty)))
 | _, _ => none
theorem op2_eq0 {K : PySem.W.Frag} {neg : Bool} : Op2 K (rEq0 K neg) (dEq0 neg) := by
 intro F H x y a b Q s hx hy h
 unfold dEq0 at h
 split at h
 ·rename_i xs
  obtain ⟨p, vs, rfl, h1, h2⟩ := hx.tup s
  obtain ⟨q, us, rfl, g1, g2⟩ := hy.tup s
  cases g2
  have e : vs.isEmpty = xs.isEmpty := by cases h2 <;> rfl
  exact ⟨p, q, vs, rfl, rfl, .inl ⟨h1, g1⟩, by rw [e]; exact h _ (.bl _)⟩
 ·rename_i xs
  obtain ⟨p, vs, rfl, h1, h2⟩ := hx.lst s
  obtain ⟨q, us, rfl, g1, g2⟩ := hy.lst s
  cases g2
  have e : vs.isEmpty = xs.isEmpty := by cases h2 <;> rfl
  exact ⟨p, q, vs, rfl, rfl, .inr ⟨SqL.of h1, SqL.of g1⟩, by rw [e]; exact h _ (.bl _)⟩
 ·exact h.elim
section
variable {ι : Type} {M : MI} {xr : Str → Option Value} {K : PySem.W.Frag} {X : ι → Cx} {W : WX} {N : List Str} {mg : Str → Option Value}
theorem cp_eq0 (p : Pl K X N mg) : Cp K X .Eq (dEq0 false) := .mk _ (fun j => by rw [← p.k j]; exact op_eq0 (by have := p.u j; omega)) op2_eq0
theorem cp_ne0 (p : Pl K X N mg) : Cp K X .NotEq (dEq0 true) := .mk _ (fun j => by rw [← p.k j]; exact op_ne0 (by have := p.u j; omega)) op2_eq0
end
end G
namespace G
open PySem L2 PySem.Spec PyProof.Rows
section
variable {ι : Type} {M : MI} {xr : Str → Option Value} {K : PySem.W.Frag} {X : ι → Cx} {W : WX} {N : List Str} {mg : Str → Option Value}
end
end G
namespace G
open PySem L2 PySem.Spec PyProof.Rows
mutual
noncomputable def toPyE : D → PyData
 | .non => .none
 | .bl b => .bool b
 | .int i => .int i
 | .str x => .str x
 | .tup xs => .tuple (toPyEs xs)
 | .lst xs => .list (toPyEs xs)
 | .scr ns => .list (ns.map PyData.int)
 | .emp => .dict []
 | .exc _ _ => .str ⟨#[4294967295]⟩
 | .o _ => .str ⟨#[4294967295]⟩
noncomputable def toPyEs : List D → List PyData
 | [] => []
 | x :: r => toPyE x :: toPyEs r
end
mutual
noncomputable def layE : D → Bool
 | .tup xs => layEs xs
 | .lst xs => layEs xs
 | .exc _ _ => false
 | .o _ => false
 | _ => true
noncomputable def layEs : List D → Bool
 | [] => true
 | x :: r => layE x && layEs r
end
noncomputable def SysB (base : Heap) : Prop := ∃ mm, base.Ns sysModules mm
section
variable {X : Cx} {pins : List (Addr × Obj)} {σ : L2.St} {F H : Hp} {s : Shared}
theorem sys_dict (I : Inv X pins σ H s) (sb : SysB X.base) : ∃ o es ep, s.heap.get? sysModules = some o ∧ o.data = .dict es ep := by
 obtain ⟨mm, o, es, ep, e, d, _⟩ := sb
 exact ⟨o, es, ep, (I.env0.bs _ _ e).1, d⟩
theorem rd_ints {h : Heap} : ∀ {ns : List Int} {us : List Value}, Vals (ns.map V.int) us → ∃ as, ReadsAll h us (ns.map PyData.int) as ∧ as = []
 | [], _, r => by cases r; exact ⟨[], .nil, rfl⟩
 | n :: ns, _, r => by
  cases r with
  | cons a b =>
   obtain ⟨t, rfl⟩ := a
   obtain ⟨as, q, rfl⟩ := rd_ints b
   exact ⟨_, ReadsAll.cons (.int n t) q, rfl⟩
mutual
theorem Da.readsE (I : Inv X pins σ H s) (sb : SysB X.base) (sx : SameX F H) : ∀ {d : D} {v : V}, Da X.K F v d → layE d = true → ∀ {u : Value}, RelV v u → ∃ as, Reads s.heap u (toPyE d) as ∧ sysModules ∉ as
 | .non, _, h, _, u, r => by cases h; cases r; exact ⟨_, by rw [toPyE]; exact Reads.none, by simp⟩
 | .bl b, _, h, _, u, r => by cases h; cases r; exact ⟨_, by rw [toPyE]; exact Reads.bool b, by simp⟩
 | .int i, _, h, _, u, r => by cases h; obtain ⟨t, rfl⟩ := r; exact ⟨_, by rw [toPyE]; exact Reads.int i t, by simp⟩
 | .str x, _, h, _, u, r => by cases h; obtain ⟨t, rfl⟩ := r; exact ⟨_, by rw [toPyE]; exact Reads.str x t, by simp⟩
 | .tup ds, _, h, l, u, r => by
  cases h with
  | tup q hs =>
   cases r
   obtain ⟨its, rv, ⟨o, ho, hc, n, hd⟩, _⟩ := I.tuple (sx.tup q)
   obtain ⟨as, hr, na⟩ := DaAll.readsE I sb sx (ds := ds) hs (by rwa [layE] at l) rv
   exact ⟨as, by rw [toPyE]; exact Reads.tuple ho hc hd hr, na⟩
 | .lst ds, _, h, l, u, r => by
  cases h with
  | lst q hs =>
   cases r
   obtain ⟨its, rv, ⟨o, n, ho, hc, _, hd⟩, _⟩ := I.list (SqL.of (sx.lst q))
   obtain ⟨as, hr, na⟩ := DaAll.readsE I sb sx (ds := ds) hs (by rwa [layE] at l) rv
   refine ⟨_ :: as, by rw [toPyE]; exact Reads.list ho hc hd hr, fun m => ?_⟩
   rcases List.mem_cons.mp m with e | m
   ·obtain ⟨o2, es, ep, e2, d2⟩ := sys_dict I sb
    rw [e, ho] at e2
    cases e2
    rw [hd] at d2
    cases d2
   ·exact na m
 | .scr ns, _, h, _, u, r => by
  cases h with
  | scr q =>
   cases r
   obtain ⟨its, rv, ⟨o, n, ho, hc, _, hd⟩, _⟩ := I.list (sx.seq q)
   obtain ⟨as, hr, rfl⟩ := rd_ints (h := s.heap) rv
   refine ⟨[_], by rw [toPyE]; exact Reads.list ho hc hd hr, fun m => ?_⟩
   rcases List.mem_cons.mp m with e | m
   ·obtain ⟨o2, es, ep, e2, d2⟩ := sys_dict I sb
    rw [e, ho] at e2
    cases e2
    rw [hd] at d2
    cases d2
   ·cases m
 | .emp, _, h, _, u, r => by
  cases h with
  | emp q =>
   rename_i a
   cases r
   obtain ⟨_, hm, vs, kv, o, es, ep, ho, ex, hd, _, pr, _⟩ := dk_of I.hok (sx.emp q)
   cases kv
   have e0 : es.toList = [] := by
    generalize es.toList = l at pr
    cases pr
    rfl
   have hr := Reads.dict (h := s.heap) (kvs := []) ho ex.1 hd (by rw [e0]; exact .nil) (by rw [e0]; exact .nil)
   refine ⟨_, by rw [toPyE]; exact hr, fun m => ?_⟩
   have m' : sysModules = a := by simpa using m
   rw [m'] at hm
   exact absurd hm (by rw [beq_self_eq_true]; exact Bool.noConfusion)
 | .exc _ _, _, _, l, _, _ => by rw [layE] at l; cases l
 | .o _, _, _, l, _, _ => by rw [layE] at l; cases l
theorem DaAll.readsE (I : Inv X pins σ H s) (sb : SysB X.base) (sx : SameX F H) : ∀ {ds : List D} {vs : List V}, DaAll X.K F vs ds → layEs ds = true → ∀ {us : List Value}, Vals vs us → ∃ as, ReadsAll s.heap us (toPyEs ds) as ∧ sysModules ∉ as
 | [], _, h, _, us, r => by cases h; cases r; exact ⟨_, by rw [toPyEs]; exact ReadsAll.nil, by simp⟩
 | d :: ds, _, h, l, us, r => by
  rw [layEs, Bool.and_eq_true] at l
  cases h with
  | cons h1 h2 =>
   cases r with
   | cons r1 r2 =>
    obtain ⟨as, q1, n1⟩ := Da.readsE I sb sx (d := d) h1 l.1 r1
    obtain ⟨bs, q2, n2⟩ := DaAll.readsE I sb sx (ds := ds) h2 l.2 r2
    refine ⟨as ++ bs, by rw [toPyEs]; exact ReadsAll.cons q1 q2, fun m => ?_⟩
    rcases List.mem_append.mp m with m | m
    ·exact n1 m
    ·exact n2 m
end
end
noncomputable def rReprE (K : PySem.W.Frag) : List V → Hp → VK → Prop := fun xs H Q => (xs = [.non] ∧ Q (.str "None") H) ∨ ∃ F a d, xs = [.ref a] ∧ SameX F H ∧ Rv K F H (.ref a) d ∧ layE d = true ∧ (toPyE d).showable = true ∧ (toPyE d).depth ≤ 290 ∧ (toPyE d).shown.length ≤ sizeLine ∧ Q (.str (toPyE d).shown) H
theorem call_reprE {X : Cx} (sb : SysB X.base) (hg : X.A.guards = some []) (hu : X.A.units + 300 < cLine) : CallR X (.builtin "repr") (rReprE X.K) := by
 intro pins s σ H xs us Q I r h
 rcases h with ⟨rfl, q⟩ | ⟨F, a, d, rfl, sx, hd, h1, h2, h3, h4, q⟩
 ·cases r with
  | cons ru rt =>
   cases rt
   cases ru
   exact PySem.P.repr_of_none ⟨.str _, H, I.tok _, ⟨_, rfl⟩, q⟩
 cases r with
 | cons ru rt =>
  cases rt
  cases ru
  have hr : ∃ as, Reads s.heap (.ref a) (toPyE d) as ∧ sysModules ∉ as := by
   rcases hd with hd | ⟨b, vs, ys, e, rfl, e2, hs⟩
   ·exact Da.readsE I sb sx hd h1 rfl
   ·cases e
    obtain ⟨its, rv, ⟨o, n, ho, hc, _, hd⟩, _⟩ := I.list (SqL.of (K := X.K) e2)
    obtain ⟨as, hr, na⟩ := DaAll.readsE I sb sx hs (by rwa [layE] at h1) rv
    refine ⟨_ :: as, by rw [toPyE]; exact Reads.list ho hc hd hr, fun m => ?_⟩
    rcases List.mem_cons.mp m with e | m
    ·obtain ⟨o2, es, ep, e2, d2⟩ := sys_dict I sb
     rw [e, ho] at e2
     cases e2
     rw [hd] at d2
     cases d2
    ·exact na m
  obtain ⟨as, rr, na⟩ := hr
  exact repr_of_reads' rr h2 (fun _ => na) hg (by omega) (fun b o e => e) (fun h' u tk hk => ⟨.str _, H, I.kept hk, ⟨u, rfl⟩, q⟩) h4
noncomputable def shwE (d : D) : Str := (toPyE d).shown
noncomputable def showOkE (d : D) : Bool := layE d && ((toPyE d).showable && (decide ((toPyE d).depth ≤ 290) && decide ((shwE d).length ≤ 15000000)))
noncomputable def fReprE : List D → Option R := fun as => match as with
 | [.non] => some (.d (.str "None"))
 | [.tup xs] => if showOkE (.tup xs) = true then some (.d (.str (shwE (.tup xs)))) else none
 | [.lst xs] => if showOkE (.lst xs) = true then some (.d (.str (shwE (.lst xs)))) else none
 | _ => none
theorem reprE_hit {K : PySem.W.Frag} {F H : Hp} {v : V} {d : D} {Q : VK} (s : SameX F H) (r : Rv K F H v d) (hv : ∃ a, v = .ref a) (h : Hit0 K F H (if showOkE d = true then some (.d (.str (shwE d))) else none) Q) : rReprE K [v] H Q := by
 obtain ⟨a, rfl⟩ := hv
 by_cases hs : showOkE d = true
 ·rw [if_pos hs] at h
  unfold showOkE at hs
  rw [Bool.and_eq_true, Bool.and_eq_true, Bool.and_eq_true] at hs
  exact .inr ⟨F, a, d, rfl, s, r, hs.1, hs.2.1, of_decide_eq_true hs.2.2.1, (by have q : (toPyE d).shown.length ≤ 15000000 := of_decide_eq_true hs.2.2.2; rw [sizeLine_eq]; omega), h _ (.str _)⟩
 ·rw [if_neg hs] at h
  exact h.elim
theorem opn_reprE {K : PySem.W.Frag} : OpN K (rReprE K) fReprE := by
 intro F H xs as Q s hp h
 match as, hp, h with
 | [.tup ds], hp, h =>
  obtain ⟨x, rfl, r⟩ := p1 hp
  obtain ⟨a, vs, rfl, _, _⟩ := r.tup s
  exact reprE_hit s r ⟨a, rfl⟩ h
 | [.lst ds], hp, h =>
  obtain ⟨x, rfl, r⟩ := p1 hp
  obtain ⟨a, vs, rfl, _, _⟩ := r.lst s
  exact reprE_hit s r ⟨a, rfl⟩ h
 | [], _, h => exact h.elim
 | [.non], hp, h =>
  obtain ⟨x, rfl, r⟩ := p1 hp
  have := r.da (fun _ q => by cases q)
  cases this
  exact .inl ⟨rfl, h _ (.str _)⟩
 | [.bl _], _, h => exact h.elim
 | [.int _], _, h => exact h.elim
 | [.str _], _, h => exact h.elim
 | [.scr _], _, h => exact h.elim
 | [.emp], _, h => exact h.elim
 | [.exc _ _], _, h => exact h.elim
 | [.o _], _, h => exact h.elim
 | .non :: _ :: _, _, h => exact h.elim
 | .bl _ :: _ :: _, _, h => exact h.elim
 | .int _ :: _ :: _, _, h => exact h.elim
 | .str _ :: _ :: _, _, h => exact h.elim
 | .tup _ :: _ :: _, _, h => exact h.elim
 | .lst _ :: _ :: _, _, h => exact h.elim
 | .scr _ :: _ :: _, _, h => exact h.elim
 | .emp :: _ :: _, _, h => exact h.elim
 | .exc _ _ :: _ :: _, _, h => exact h.elim
 | .o _ :: _ :: _, _, h => exact h.elim
section
variable {ι : Type} {P : Program} {w : World} {K : PySem.W.Frag} {mg : Str → Option Value} {base : Heap} {N : List Str} {W : WX} {n : Nat} {X : ι → Cx}
end
theorem lawGS {P : Program} {w : World} {K : PySem.W.Frag} {mg mb : Str → Option Value} {CX : CXT} {n : Nat} {fa a : Addr} {fd : FuncData} {x : Str} {sp : Sp} {s1 : Shared} {us : List Value} {ns : List Int} {mm : Str → Option Value} (sm : s1.heap.Ns sysModules mm) (inK : K.In s1.heap) (gs : s1.heap.Ns mainGlobals mg) (bs : s1.heap.Ns builtinsNs mb)
  (boot : ∀ x : Str, x ≠ "__name__" → mb x = bootBuiltins x) (nl : s1.heap.NoLimit) (ge : s1.gens = #[]) (oa : s1.heap.get? a = some { cls := .type "list", data := .seq us.toArray }) (hi : IntsAre us ns) (hl : ns.length ≤ sizeLine) (hr : RmG n callerA)
  (F : ∀ bh : Heap, SysB bh → K.In bh → bh.Ns mainGlobals mg → FnG P w K mg bh CX n fa fd [x] sp) (hbd : ∀ (s : Shared) (u : Value), BindsTo s fd ⟨[u], []⟩ [(x, u)])
  (hsp : ∀ H : Hp, Only H → SqL K H a (ns.map V.int) → sp [.ref a] H (fun v _ => v = .bl true) fun _ _ _ => False) (noX : ∀ H e s', CX [] H s1 (fun _ _ _ => False) e s' → False) :
  codeAny (model P w) callerA (.call (.ref fa) ⟨[.ref a], []⟩) (fun r s' => r = .ok (.ret (.bool true)) ∧ OldK s1.heap s'.heap ∧ s'.os = s1.os ∧ AllBare s'.gens) s1 := by
 have vals := vals_ints hi
 have lens := hi.length
 have main : ∀ H : Hp, Only H → SqL K H a (ns.map V.int) → HOk P w H s1.heap → (∀ c, H c ≠ none → c = a) → (H a ≠ none → K.lookup a = none) → codeAny (model P w) callerA (.call (.ref fa) ⟨[.ref a], []⟩) (fun r s' => r = .ok (.ret (.bool true)) ∧ OldK s1.heap s'.heap ∧ s'.os = s1.os ∧ AllBare s'.gens) s1 := by
  intro H only sq hok at1 notK
  have keep : ∀ {c : Addr} {o : Obj}, s1.heap.get? c = some o → H c = none → (hidT s1.heap H).get? c = some o := fun e z => hidT_get e z
  have noDict : ∀ {c : Addr} {o : Obj} {es : Array DictEntry} {ep : Nat}, s1.heap.get? c = some o → o.data = .dict es ep → H c = none := by
   intro c o es ep e d
   rcases hq : H c with _ | u
   ·rfl
   ·have hc : c = a := at1 c (by rw [hq]; exact Option.some_ne_none u)
    rw [hc, oa] at e
    cases e
    exact Data.noConfusion (show Data.seq us.toArray _ = Data.dict es ep from d)
  have nsOf : ∀ {c : Addr} {m : Str → Option Value}, s1.heap.Ns c m → (hidT s1.heap H).Ns c m := fun ⟨o, es, ep, e, d, r⟩ => ⟨o, es, ep, keep e (noDict e d), d, r⟩
  have inB : K.In (hidT s1.heap H) := by
   intro c o e
   refine keep (inK c o e) ?_
   rcases hq : H c with _ | u
   ·rfl
   ·have hc : c = a := at1 c (by rw [hq]; exact Option.some_ne_none u)
    rw [hc, notK (by rw [← hc, hq]; exact Option.some_ne_none u)] at e
    cases e
  have md : Mod K mg (hidT s1.heap H) := ⟨inB, nsOf gs, ⟨mb, nsOf bs, boot⟩, by obtain ⟨mc, q1, q2⟩ := nl; exact ⟨mc, nsOf q1, q2⟩⟩
  have env : Env0 P w K mg (hidT s1.heap H) callerA [] s1 H := ⟨rfl, md, fun c o e => of_hidT e, Nat.le_of_eq (hidT_size _ _), trivial, fun c hc => (List.not_mem_nil (show c ∈ ([] : List Addr) from hc)).elim, hok, .of_eq ge⟩
  apply codeAny_mono ((F _ ⟨mm, nsOf sm⟩ inB (nsOf gs)).run callerA [] s1 H ⟨[.ref a], []⟩ [.ref a] [.ref a] _ _ hr rfl env (hbd s1 (.ref a)) (.cons rfl .nil) (hsp H only sq))
  intro r s' h
  match r, h with
  | .error e, h => exact (noX H e s' h).elim
  | .ok .next, h => exact h.elim
  | .ok .brk, h => exact h.elim
  | .ok .cont, h => exact h.elim
  | .ok (.ret u), h =>
   obtain ⟨v, H', os, bare, un, hok', rv, q⟩ := h
   cases (show v = .bl true from q)
   cases (show u = Value.bool true from rv)
   refine ⟨rfl, OldK.of_keep ?_, os, bare⟩
   intro c o e
   rcases hq : H c with _ | u
   ·exact un.keep c o e hq (fun z => (List.not_mem_nil (show c ∈ ([] : List Addr) from z)).elim) (List.not_mem_nil)
   ·rcases only c with z | ⟨ob, xs, z⟩
    ·exact absurd (hq.symm.trans z) (Option.some_ne_none u)
    ·obtain ⟨q1, _⟩ := hok c _ z
     obtain ⟨q2, _⟩ := hok' c _ (un.frzs c ob _ z)
     have : o = ob := Option.some.inj (e.symm.trans q1)
     rw [this]
     exact q2
 rcases hk : K.lookup a with _ | o
 ·refine main (fun c => if c = a then some (.frz { cls := .type "list", data := .seq us.toArray } (.lst (ns.map V.int))) else none) ?_ (.inl (.inr ⟨{ cls := .type "list", data := .seq us.toArray }, if_pos rfl⟩)) ?_ ?_ (fun _ => hk)
  ·intro c
   by_cases hc : c = a
   ·exact Or.inr ⟨_, _, if_pos hc⟩
   ·exact Or.inl (if_neg hc)
  ·intro c u z
   by_cases hc : c = a
   ·cases (if_pos hc).symm.trans z
    rw [hc]
    exact ⟨oa, by rw [List.length_map]; exact hl, us, _, vals, oa⟩
   ·cases (if_neg hc).symm.trans z
  ·intro c z
   by_cases hc : c = a
   ·exact hc
   ·exact absurd (if_neg hc) z
 ·have e := inK a o hk
  rw [oa] at e
  cases e
  exact main (fun _ => none) (fun _ => .inl rfl) (.inr ⟨_, us.toArray, _, hk, rfl, rfl, rfl, by rw [List.size_toArray, lens]; exact hl, by simpa using vals⟩) (fun c u z => by cases (show (none : Option HO) = some u from z)) (fun c z => absurd rfl z) (fun z => absurd rfl z)
theorem walkGS {l : PySem.W.OpenLaw} {m n : Nat} {q : Program} {loose : List Str} {XP : (Str → Option Value) → Heap → Prop} {YP : World → Heap → Prop} {d : DefRec} {K : Params → PySem.W.Frag} {CX : World → CXT} {sp : World → Sp} {x : Str} (hi : importsNone q = true) (hm : l.most = some m) (hm2 : m ≤ sizeLine) (hdf : d.params.defaults = []) (hr : RmG n callerA) (hY : ∀ (w : World) (h : Heap), YP w h → (K w.params).In h)
  (F : ∀ (w : World) (mg : Str → Option Value) (fa : Addr) (h : Heap), (K w.params).In h → h.Ns mainGlobals mg → mg d.name = some (.ref fa) → ∃ fd : FuncData, (∀ (s : Shared) (u : Value), BindsTo s fd ⟨[u], []⟩ [(x, u)]) ∧ ∀ bh : Heap, SysB bh → (K w.params).In bh → bh.Ns mainGlobals mg → FnG l.prog w (K w.params) mg bh (CX w) n fa fd [x] (sp w))
  (hsp : ∀ (w : World) (H : Hp) (a : Addr) (ns : List Int), ns.length ≤ m → (∀ z ∈ ns, Builtin.Int.intBits z ≤ 1048576) → Only H → SqL (K w.params) H a (ns.map V.int) → sp w [.ref a] H (fun v _ => v = .bl true) fun _ _ _ => False)
  (noX : ∀ (w : World) (H : Hp) (s : Shared) (e : Value) (s' : Shared), CX w [] H s (fun _ _ _ => False) e s' → False) : PySem.W.WalkO q loose XP YP l.row.toRowW d [] (fun f vs => PySem.call f vs) := by
 apply Att.attach_callB hm hdf
 intro w s0 s1 mg mb fa o pm cd doc a us ns gr Y ho hd hcd hmg oa hi' hlen hbits hg
 have inK := hY w _ Y
 obtain ⟨fd, hb, hF⟩ := F w mg fa _ inK gr.T.g hmg
 obtain ⟨mm, hmm, _⟩ := (gr.T.seer hi).mods
 exact lawGS hmm inK gr.T.g gr.T.b gr.T.builtins gr.T.nolimit hg oa hi' (Nat.le_trans hlen hm2) hr hF hb (fun H hO hS => hsp w H a ns hlen hbits hO hS) (fun H e s' => noX w H s1 e s')
end G
namespace G
open PySem L2 PySem.Spec PyProof.Rows
section
variable {ι : Type} {M : MI} {xr : Str → Option Value} {K : PySem.W.Frag} {X : ι → Cx} {W : WX} {N : List Str} {mg : Str → Option Value}
end
end G
namespace G
open PySem L2 PySem.Spec PyProof.Rows
section
variable {ι : Type} {xr : Str → Option Value} {K : PySem.W.Frag} {X : ι → Cx} {W : WX} {N : List Str} {mg : Str → Option Value}
noncomputable def dKs : List (Str × Sm MX S) → Sm MX (List (Key × D))
 | [] => fun z => .ok [] z
 | (k, f) :: r => fun z => (escf f z).bind fun s z1 => (dKs r z1).bind fun ps z2 => match s with
  | .d x => .ok ((.inr k, x) :: ps) z2
  | _ => .bad
noncomputable def RelP (G : Gx) (_ : L2.St) : List (Key × D) → List (V × V) → Hp → Hp → Z (List MO) → Prop := fun ps vs F _ _ => ∃ kvs : List (Key × V), vs = kvs.map (fun kv => (kV kv.1, kv.2)) ∧ DaK G.K F kvs ps
noncomputable def DP (X : ι → Cx) (xr : Str → Option Value) (K : PySem.W.Frag) (W : WX) (pos : Pos) (ks : List (Option Expr)) (vs : List Expr) (ps : List (Str × Sm MX S)) : Prop := ∃ trs, (∀ j, PPs (X j) pos ks vs trs) ∧ Cmp MX K xr W (tPairs trs) RelP (dKs ps)
theorem dp_nil {pos : Pos} : DP X xr K W pos [] [] [] := ⟨[], fun _ => pps_nil, fun G σ H F z Q hK hx ok hh => hh [] H F (Same.refl _) ok ⟨[], rfl, .nil⟩⟩
theorem dp_cons {pos p1 : Pos} {i1} {k : Str} {v : Expr} {f : Sm MX S} {ks : List (Option Expr)} {vs : List Expr} {ps : List (Str × Sm MX S)} (hv : DE MX xr K X W v f) (h : DP X xr K W pos ks vs ps) : DP X xr K W pos (some (.Constant (.str k) i1 p1) :: ks) (v :: vs) ((k, f) :: ps) := by
 obtain ⟨t, pt, ct⟩ := hv
 obtain ⟨trs, pr, cr⟩ := h
 refine ⟨(tC (.str k), t) :: trs, fun j => pps_cons pe_str (pt j) (pr j), fun G σ H F z Q hK hx ok hh => ?_⟩
 show tC (.str k) σ H fun x H1 => t σ H1 fun y H2 => tPairs trs σ H2 fun qs H3 => Q ((x, y) :: qs) H3
 show t σ H fun y H2 => tPairs trs σ H2 fun qs H3 => Q ((.str k, y) :: qs) H3
 refine cmp_esc ct G σ H F z _ hK hx ok (hit_bind hh fun s z1 v H1 F1 _ sm1 ok1 ev h1 => ?_)
 refine cr G σ H1 F1 z1 _ hK hx ok1 (hit_bind h1 fun qs z2 us H2 F2 _ sm2 ok2 ea h2 => ?_)
 cases s with
 | d x =>
  obtain ⟨kvs, rfl, hk⟩ := ea
  have ev' : Da G.K F1 v x := ev
  exact h2 _ H2 F2 (Same.refl _) ok2 ⟨(.inr k, v) :: kvs, rfl, .cons (ev'.mono sm2) hk⟩
 | l _ => exact h2.elim
 | v _ => exact h2.elim
 | m _ => exact h2.elim
noncomputable def eDispG (ps : List (Str × Sm MX S)) (z : Z MX.T) : Rs S (Z MX.T) := (dKs ps { z with m := z.m ++ [.dK []] }).bind fun kvs z1 => match z1.m[z.m.length]? with
 | some (.dK []) => if kvs.length ≤ 15 then .ok (.d (.o z.m.length)) { z1 with m := z1.m.set z.m.length (.dK (mergeD [] kvs)) } else .bad
 | _ => .bad
theorem de_dispG {ps : List (Str × Sm MX S)} {keys : List (Option Expr)} {values : List Expr} {pos : Pos} (h : DP X xr K W pos keys values ps) (hall : keys.all (·.isSome) = true) (hl : keys.length = values.length) (h0 : keys ≠ []) (h15 : keys.length ≤ 15) : DE MX xr K X W (.Dict keys values pos) (eDispG ps) := by
 obtain ⟨trs, pr, cr⟩ := h
 refine ⟨tDisp trs, fun j => pe_disp (pr j) hall hl h0 h15, fun G σ H F z Q hK hx ok hh => fun p hp => ?_⟩
 have okA := ok.alloc hp (ho := .dK []) (o := .dK []) ⟨[], upd_same, .nil⟩
 have sF : Same F (upd F p (tag z.m.length)) := same_upd (ok.freshF hp)
 refine cr G σ (upd H p (.dK [])) (upd F p (tag z.m.length)) { z with m := z.m ++ [.dK []] } _ hK hx okA (hit_bind (HitG.mono hh sF) fun kvs z1 vs H1 F1 _ sm1 ok1 ea h1 => ?_)
 have hF := sm1 _ _ (show upd F p (tag z.m.length) p = some (tag z.m.length) from upd_same)
 cases e : z1.m[z.m.length]? with
 | none => simp only [e] at h1; exact h1.elim
 | some o =>
  cases o with
  | lst _ => simp only [e] at h1; exact h1.elim
  | ins _ _ => simp only [e] at h1; exact h1.elim
  | fz _ _ _ => simp only [e] at h1; exact h1.elim
  | dK l =>
   cases l with
   | cons _ _ => simp only [e] at h1; exact h1.elim
   | nil =>
    simp only [e] at h1
    obtain ⟨a, ea1, ea2, k0, ea3, ea4⟩ := ok1.objAt (Da.o hF) e
    cases ea1
    cases ea4
    obtain ⟨kvs', rfl, hk⟩ := ea
    by_cases c : kvs.length ≤ 15
    ·rw [if_pos c] at h1
     refine ⟨ea3, kvs', rfl, by rw [hk.length]; exact c, ?_⟩
     exact h1 (.ref p) _ F1 (Same.refl _) (ok1.putO hF ⟨_, upd_same, DaK.mergeA hk .nil⟩) (Da.o hF)
    ·rw [if_neg c] at h1; exact h1.elim
end
end G
namespace G
open PySem L2 PySem.Spec PyProof.Rows
end G
namespace G
open PySem L2 PySem.Spec PyProof.Rows
section
variable {ι : Type} {xr : Str → Option Value} {K : PySem.W.Frag} {X : ι → Cx} {W : WX} {N : List Str} {mg : Str → Option Value}
end
end G
namespace G
open PySem L2 PySem.Spec PyProof.Rows
section
variable {ι : Type} {M : MI} {xr : Str → Option Value} {K : PySem.W.Frag} {X : ι → Cx} {W : WX} {N : List Str} {mg : Str → Option Value}
end
end G
namespace G
open PySem L2
noncomputable def rdO (z : Z (List MO)) (s : S) : Option D := match listAt z s with
 | some (_, xs) => some (.lst xs)
 | none => rd z s
theorem EO.rvO {G : Gx} {σ : St} {H F : Hp} {z : Z (List MO)} (ok : Ok MX G σ H F z) {v : V} {s : S} {x : D} (e : EO G σ F v s) (h : rdO z s = some x) : Rv G.K F H v x := by
 unfold rdO at h
 cases q : listAt z s with
 | none => rw [q] at h; exact EO.rv ok e h
 | some p =>
  obtain ⟨n, xs⟩ := p
  rw [q] at h
  cases h
  obtain ⟨a, vs, rfl, _, _, h1, h2⟩ := listAt_rv ok e q
  exact .inr ⟨a, vs, xs, rfl, rfl, h1, h2⟩
noncomputable def rdsO (z : Z (List MO)) : List S → Option (List D)
 | [] => some []
 | s :: r => (rdO z s).bind fun x => (rdsO z r).bind fun xs => some (x :: xs)
theorem paired_rvO {G : Gx} {σ : St} {H F : Hp} {z : Z (List MO)} (ok : Ok MX G σ H F z) : ∀ {vs : List V} {ss : List S} {ds : List D}, Paired (fun v s => EO G σ F v s) vs ss → rdsO z ss = some ds → Paired (Rv G.K F H) vs ds
 | _, _, _, .nil, h => by cases h; exact .nil
 | _, s :: ss, ds, .cons a b, h => by
  unfold rdsO at h
  cases e : rdO z s with
  | none => rw [e] at h; cases h
  | some x =>
   cases e2 : rdsO z ss with
   | none => rw [e, e2] at h; cases h
   | some xs =>
    rw [e, e2] at h
    cases h
    exact .cons (EO.rvO ok a e) (paired_rvO ok b e2)
section
variable {ι : Type} {xr : Str → Option Value} {K : PySem.W.Frag} {X : ι → Cx} {W : WX} {N : List Str} {mg : Str → Option Value}
noncomputable def eBinO (g : D → D → Option R) (f f' : Sm MX S) (z : Z MX.T) : Rs S (Z MX.T) := (opd f z).bind fun s z1 => (opd f' z1).bind fun s' z2 => fin ((rdO z2 s).bind fun x => (rd z2 s').bind fun y => g x y) z2
noncomputable def eFnO (g : List D → Option R) (f : Sm MX (List S)) (z : Z MX.T) : Rs S (Z MX.T) := (f z).bind fun ss z1 => fin ((rdsO z1 ss).bind g) z1
theorem cmp_binO {r : R2} {g : D → D → Option R} {ta tb : TE} {f f' : Sm MX S} (hd : Op2 K r g) (ha : Cmp MX K xr W ta RelE f) (hb : Cmp MX K xr W tb RelE f') : Cmp MX K xr W (tOp r ta tb) RelE (eBinO g f f') := by
 intro G σ H F z Q hK hx ok h
 refine cmp_opd ha G σ H F z _ hK hx ok (hit_bind h fun s z1 v H1 F1 _ sm1 ok1 e1 h1 => ?_)
 refine cmp_opd hb G σ H1 F1 z1 _ hK hx ok1 (hit_bind h1 fun s' z2 v' H2 F2 _ sm2 ok2 e2 h2 => ?_)
 have q := fin_hit ok2 h2
 subst hK
 cases ea : rdO z2 s with
 | none => rw [ea] at q; exact q.elim
 | some x =>
  cases eb : rd z2 s' with
  | none => rw [ea, eb] at q; exact q.elim
  | some y =>
   rw [ea, eb] at q
   exact hd F2 H2 v v' x y Q ok2.sub (EO.rvO ok2 (EO.mono sm2 e1) ea) (EO.rv ok2 e2 eb) q
theorem cmp_fnO {r : List V → Hp → VK → Prop} {g : List D → Option R} {t : TA} {f : Sm MX (List S)} (hd : OpN K r g) (c : Cmp MX K xr W t RelA f) : Cmp MX K xr W (tCB r t) RelE (eFnO g f) := by
 intro G σ H F z Q hK hx ok hh
 refine c G σ H F z _ hK hx ok (hit_bind hh fun ss z1 vs H1 F1 _ sm1 ok1 e1 h1 => ?_)
 have q := fin_hit ok1 h1
 subst hK
 cases e : rdsO z1 ss with
 | none => rw [e] at q; exact q.elim
 | some ds =>
  rw [e] at q
  exact hd F1 H1 vs ds Q ok1.sub (paired_rvO ok1 e1 e) q
theorem Cp.deO {op : CmpOp} {g : D → D → Option R} {a b : Expr} {f f' : Sm MX S} {pos : Pos} (c : Cp K X op g) (ha : DE MX xr K X W a f) (hb : DE MX xr K X W b f') (hm : behindInMarks op b = false) : DE MX xr K X W (.Compare a [op] [b] pos) (eBinO g f f') := by
 cases c with
 | mk r ho hd =>
  obtain ⟨ta, pa, ca⟩ := ha
  obtain ⟨tb, pb, cb⟩ := hb
  exact ⟨_, fun j => pe_cmpR (ho j) (pa j) (pb j) hm, cmp_binO hd ca cb⟩
theorem Fb.deO {x : Str} {g : List D → Option R} (c : Fb K X x g) {e : Expr} {es : List Expr} {h : Sm MX (List S)} {pp pos : Pos} (p : Pl K X N mg) (hm : mg x = none) (ha : DA MX xr K X W (e :: es) h) (hg : ∀ j, Gl (X j) x := by intro _; rfl)
  (he : ∀ j, starEach (e :: es) (X j).env = (false, eval e (X j).env) :: starEach es (X j).env := by intro _; rfl) (hpl : ∀ j, (backTo pos (starEach es (X j).env)).any (·.1) = false := by intro _; rfl) : DE MX xr K X W (.Call (.Name x pp) (e :: es) [] pos) (eFnO g h) := by
 obtain ⟨t, pa, cc⟩ := ha
 cases c with
 | fn id r hc hd hv hn hb => exact ⟨_, fun j => pe_callB (hc j) (hg j) (by rw [p.g j]; exact hm) hv (pa j) hn hb (he j) (hpl j), cmp_fnO hd cc⟩
 | ty T r hc hd hv hn hb => exact ⟨_, fun j => pe_callTy (hc j) (hg j) (by rw [p.g j]; exact hm) hv (pa j) hn hb (he j) (hpl j), cmp_fnO hd cc⟩
noncomputable def eAppO (f g : Sm MX S) (z : Z MX.T) : Rs S (Z MX.T) := (opd f z).bind fun s z1 => match listAt z1 s with
 | none => .bad
 | some _ => (escf g z1).bind fun s' z2 => match listAt z2 s, s' with
  | some (n, xs), .d y => if xs.length < lim then .ok (.d .non) { z2 with m := z2.m.set n (.lst (xs ++ [y])) } else .bad
  | _, _ => .bad
theorem de_appendO {o e : Expr} {apos cpos : Pos} {f g : Sm MX S} (p : Pl K X N mg) (ho : DE MX xr K X W o f) (h : DE MX xr K X W e g)
  (hbase : ∀ j, attributeBase o "append" (X j).env (eval o (X j).env) = eval o (X j).env := by intro _; rfl)
  (hfew : ∀ j, ((backTo cpos (starEach [e] (X j).env)).all (fun x => !x.1) && (backToKw cpos (keywordEach [] (X j).env)).all (fun x => x.1.isSome) && decide (([e] : List Expr).length + ([] : List Keyword).length + (if ([] : List Keyword).isEmpty then 0 else 1) < 31)) = true := by intro _; rfl)
  (hline : (apos.endLine == cpos.line) = true := by rfl) (hs : ∀ j, starEach [e] (X j).env = (false, eval e (X j).env) :: starEach [] (X j).env := by intro _; rfl) (hplain : ∀ j, (backTo cpos (starEach [] (X j).env)).any (·.1) = false := by intro _; rfl) :
  DE MX xr K X W (.Call (.Attribute o "append" apos) [e] [] cpos) (eAppO f g) := by
 obtain ⟨t1, p1, c1⟩ := ho
 obtain ⟨t, p2, c⟩ := h
 refine ⟨tBM K "list" rAppend t1 (tCons t tNil), fun j => ?_, fun G σ H F z Q hGK hx ok hh => ?_⟩
 ·rw [← p.k j]
  exact pe_bm PySem.F.plainAttrs_list PySem.F.slot_list_append PySem.F.type_list_append mt_append (p1 j) (pa_cons (p2 j) pa_nil (hs j)) (hbase j) (hfew j) hline (hs j) (hplain j)
 ·refine cmp_opd c1 G σ H F z _ hGK hx ok (hit_bind hh fun s z1 v H1 F1 _ sm1 ok1 ev h1 => ?_)
  cases e0 : listAt z1 s with
  | none => simp only [e0] at h1; exact h1.elim
  | some q =>
   obtain ⟨n0, ys⟩ := q
   simp only [e0] at h1
   obtain ⟨a, vs, rfl, _, _, ha, _⟩ := listAt_rv ok1 ev e0
   refine ⟨tyV_own ha, ?_⟩
   refine cmp_esc c G σ H1 F1 z1 _ hGK hx ok1 (hit_bind h1 fun s' z2 w H2 F2 _ sm2 ok2 ew h2 => ?_)
   cases e1 : listAt z2 s with
   | none => simp only [e1] at h2; exact h2.elim
   | some q =>
    obtain ⟨n, xs⟩ := q
    simp only [e1] at h2
    cases s' with
    | d y =>
     simp only at h2
     by_cases hl : xs.length < lim
     ·rw [if_pos hl] at h2
      obtain ⟨b, ws, eb, hF, em, hb, hdw⟩ := listAt_rv ok2 (EO.mono sm2 ev) e1
      cases eb
      refine ⟨a, ws, w, rfl, rfl, hb, by rw [hdw.length]; exact Nat.lt_trans hl lim_line, ?_⟩
      exact h2 .non _ F2 (Same.refl _) (ok2.putO hF ⟨_, upd_same, hdw.append (.cons ew .nil)⟩) Da.non
     ·rw [if_neg hl] at h2; exact h2.elim
    | _ => exact h2.elim
end
end G
namespace G
open PySem PySem.Spec PyProof.Rows L2
section
variable {ι : Type} {M : MI} {P : Program} {w : World} {K : PySem.W.Frag} {mg : Str → Option Value} {base : Heap} {N : List Str} {W : WX} {n : Nat} {X : ι → Cx}
end
end G
namespace L2
open PySem PySem.Spec PyProof.Rows
section
variable {X : Cx}
end
end L2
namespace G
open PySem L2
section
variable {ι : Type} {xr : Str → Option Value} {K : PySem.W.Frag} {X : ι → Cx} {W : WX} {N : List Str} {mg : Str → Option Value} {M : MI}
end
end G
namespace G
open PySem L2 PySem.Spec PyProof.Rows HT
section
variable {prog : Program} {w : World} {A : Around} {E : Value → Shared → Prop} {s : Shared}
end
section
variable {ι : Type} {M : MI} {xr : Str → Option Value} {K : PySem.W.Frag} {X : ι → Cx} {W : WX} {N : List Str} {mg : Str → Option Value} {pos : Pos}
end
end G
namespace G
open PySem L2 PySem.Spec PyProof.Rows HT
noncomputable def strsOf : List D → Option (List Str)
 | [] => some []
 | .str x :: r => (strsOf r).map (x :: ·)
 | _ :: _ => none
theorem strsOf_map : ∀ ss : List Str, strsOf (ss.map D.str) = some ss
 | [] => rfl
 | s :: r => by rw [List.map_cons, strsOf, strsOf_map r]; rfl
theorem da_strs {K : PySem.W.Frag} {F : Hp} : ∀ {vs : List V} {ds : List D} {ss : List Str}, DaAll K F vs ds → strsOf ds = some ss → vs = ss.map V.str
 | _, _, _, .nil, h => by cases h; rfl
 | _, _, ss, .cons (ds := ds) h1 h2, h => by
  cases h1 <;> try (cases h; done)
  rw [strsOf] at h
  cases e : strsOf ds with
  | none => rw [e] at h; cases h
  | some ts =>
   rw [e] at h
   cases h
   rw [List.map_cons, da_strs h2 e]
noncomputable def fSortS : List D → Option R := fun as => match as with
 | [.lst xs] => (match strsOf xs with
  | some ss => if ss.length < 64 then some (.l ((srtS ss).map D.str)) else none
  | none => none)
 | _ => none
theorem opn_sortS {K : PySem.W.Frag} : OpN K (rSortedS K) fSortS := by
 intro F H xs as Q s hp h
 unfold fSortS at h
 split at h
 ·rename_i ds
  obtain ⟨x, rfl, r⟩ := p1 hp
  obtain ⟨a, vs, rfl, h1, h2⟩ := r.lst s
  cases e : strsOf ds with
  | none => rw [e] at h; exact h.elim
  | some ss =>
   rw [e] at h
   simp only [] at h
   by_cases hl : ss.length < 64
   ·rw [if_pos hl] at h
    have q := da_strs h2 e
    subst q
    refine ⟨a, ss, rfl, SqL.of h1, hl, fun ys p pm so hp => ?_⟩
    have := srt_uniq pm so
    subst this
    exact h p _ hp (daAll_strs _)
   ·rw [if_neg hl] at h; exact h.elim
 ·exact h.elim
section
variable {ι : Type} {K : PySem.W.Frag} {X : ι → Cx} {N : List Str} {mg : Str → Option Value}
theorem fb_sortS (p : Pl K X N mg) : Fb K X "sorted" fSortS := .fn "sorted" (rSortedS K) (fun j => by rw [← p.k j]; exact cr_sortedS) opn_sortS PyProof.Rows.boot_sorted (by decide) (by decide)
end
end G
namespace G
open PySem L2 PySem.Spec PyProof.Rows HT
section
variable {ι : Type} {M : MI} {P : Program} {w : World} {K : PySem.W.Frag} {mg : Str → Option Value} {base : Heap} {N : List Str} {W : WX} {n : Nat} {X : ι → Cx} {xr : Str → Option Value}
end
end G
namespace G
open PySem L2 PySem.Spec PyProof.Rows
section
variable {ι : Type} {M : MI} {xr : Str → Option Value} {K : PySem.W.Frag} {X : ι → Cx} {W : WX} {N : List Str} {mg : Str → Option Value} {pos : Pos}
end
end G
namespace G
open PySem PySem.Spec PyProof.Rows
section
variable {prog : Program} {w : World} {A : Around} {E : Value → Shared → Prop} {s : Shared} {a b : Addr}
end
end G
namespace G
open PySem L2
section
variable {X : Cx}
end
section
variable {ι : Type} {M : MI} {K : PySem.W.Frag} {xr : Str → Option Value} {X : ι → Cx} {W : WX} {N : List Str} {mg : Str → Option Value}
end
end G
namespace G
open PySem L2
section
variable {ι : Type} {M : MI} {P : Program} {w : World} {K : PySem.W.Frag} {mg : Str → Option Value} {base : Heap} {N : List Str} {W : WX} {n : Nat} {X : ι → Cx}
end
end G
namespace G
open PySem L2 PySem.Spec PyProof.Rows HT
noncomputable def isL (x : Option D) : Bool := match x with
 | some (.lst _) => true
 | _ => false
section
variable {ι : Type} {M : MI} {K : PySem.W.Frag} {xr : Str → Option Value} {X : ι → Cx} {W : WX} {N : List Str} {mg : Str → Option Value}
end
section
variable {ι : Type} {M : MI} {P : Program} {w : World} {K : PySem.W.Frag} {mg : Str → Option Value} {base : Heap} {N : List Str} {W : WX} {n : Nat} {X : ι → Cx} {xr : Str → Option Value}
end
end G
namespace L2
open PySem PySem.Spec PyProof.Rows
section
variable {X : Cx}
end
end L2
namespace G
open PySem L2 PySem.Spec PyProof.Rows HT
section
variable {ι : Type} {M : MI} {xr : Str → Option Value} {K : PySem.W.Frag} {X : ι → Cx} {W : WX} {N : List Str} {mg : Str → Option Value}
end
section
variable {ι : Type} {xr : Str → Option Value} {K : PySem.W.Frag} {X : ι → Cx} {W : WX} {N : List Str} {mg : Str → Option Value}
section
variable {G : Gx} {σ : L2.St} {H F : Hp} {z : Z (List MO)}
theorem Ok.adopt (ok : Ok MX G σ H F z) {p : Addr} {vs : List V} {xs : List D} (hp : H p = some (.lst vs)) (hF : F p = none) (hP : G.P p = none) (hO : ¬ Owned σ z p) (da : DaAll G.K F vs xs) : Ok MX G σ H (upd F p (tag z.m.length)) { z with m := z.m ++ [.lst xs] } where
 sub := fun b u q n => by
  by_cases e : b = p
  ·subst e
   rw [upd_same] at q
   exact (n _ (Option.some.inj q).symm).elim
  ·rw [upd_ne e] at q
   exact ok.sub b u q n
 len := ok.len
 slot := fun i s e => by
  obtain ⟨v, h1, h2⟩ := ok.slot i s e
  refine ⟨v, h1, ?_⟩
  have sm := same_upd (o := tag z.m.length) hF
  cases s with
  | d x => exact Da.mono sm h2
  | l ys =>
   obtain ⟨a, ws, rfl, h3, h4, h5, h6, h7⟩ := h2
   have nb : a ≠ p := fun q => hO ⟨i, ys, e, by rw [← q]; exact h1⟩
   exact ⟨a, ws, rfl, h3, h4.mono sm, (upd_ne nb).trans h5, h6, h7⟩
  | v _ => exact h2
  | m j => exact h2
 dist := ok.dist
 mach := by
  obtain ⟨h0, h1, h2, h3⟩ := ok.mach
  have sm := same_upd (o := tag z.m.length) hF
  have old : ∀ a n, upd F p (tag z.m.length) a = some (tag n) → (a = p ∧ n = z.m.length) ∨ (a ≠ p ∧ F a = some (tag n) ∧ n < z.m.length) := fun a n e => by
   by_cases q : a = p
   ·subst q
    rw [upd_same] at e
    exact .inl ⟨rfl, (tag_inj (Option.some.inj e)).symm⟩
   ·rw [upd_ne q] at e
    obtain ⟨k, hk, ek⟩ := h2 a _ e
    rw [tag_inj (show tag n = tag k from ek)]
    exact .inr ⟨q, by rw [← tag_inj (show tag n = tag k from ek)]; exact e, hk⟩
  refine ⟨h0, fun n u e => ?_, fun a ps e => ?_, fun a b n e1 e2 => ?_⟩
  ·have e' : (z.m ++ [MO.lst xs])[n]? = some u := e
   by_cases q : n < z.m.length
   ·rw [List.getElem?_append_left q] at e'
    obtain ⟨a, ha, hu⟩ := h1 n u e'
    have nb := ne_of_none ha hF
    exact ⟨a, (upd_ne nb).trans ha, hu.mono sm rfl⟩
   ·have en : n = z.m.length := by
     have := (List.getElem?_eq_some_iff.mp e').1
     rw [List.length_append, List.length_singleton] at this
     omega
    subst en
    rw [List.getElem?_append_right (Nat.le_refl _), Nat.sub_self] at e'
    cases e'
    exact ⟨p, upd_same, vs, hp, da.mono sm⟩
  ·by_cases q : a = p
   ·subst q
    rw [upd_same] at e
    exact ⟨z.m.length, by show _ < (z.m ++ [MO.lst xs]).length; rw [List.length_append, List.length_singleton]; omega, (Option.some.inj e).symm⟩
   ·rw [upd_ne q] at e
    obtain ⟨k, hk, ek⟩ := h2 a ps e
    exact ⟨k, by show _ < (z.m ++ [MO.lst xs]).length; rw [List.length_append]; omega, ek⟩
  ·rcases old a n e1 with ⟨rfl, en⟩ | ⟨_, q1, ln⟩
   ·rcases old b n e2 with ⟨rfl, _⟩ | ⟨_, _, ln⟩
    ·rfl
    ·omega
   ·rcases old b n e2 with ⟨rfl, en⟩ | ⟨_, q2, _⟩
    ·omega
    ·exact h3 a b n q1 q2
 msF := fun a ha => by rw [ok.noms] at ha; cases ha
 msP := fun a ha => by rw [ok.noms] at ha; cases ha
 msH := fun a ha => by rw [ok.noms] at ha; cases ha
 fr := fun b u q => by
  obtain ⟨h1, h2⟩ := ok.fr b u q
  have nb : b ≠ p := fun e => by rw [e, hP] at q; cases q
  exact ⟨h1, (upd_ne nb).trans h2⟩
 tg := fun a ps e => by
  by_cases q : a = p
  ·subst q
   exact ⟨(by rw [hp]; intro y; cases y), hP⟩
  ·rw [upd_ne q] at e
   exact ok.tg a ps e
end
noncomputable def eSto (f : Sm MX S) (z : Z MX.T) : Rs S (Z MX.T) := (f z).bind fun s z1 => match s with
 | .l xs => .ok (.d (.o z1.m.length)) { z1 with m := z1.m ++ [.lst xs] }
 | _ => .bad
theorem de_sto {e : Expr} {f : Sm MX S} (h : DE MX xr K X W e f) : DE MX xr K X W e (eSto f) := by
 obtain ⟨t, p, c⟩ := h
 refine ⟨t, p, fun G σ H F z Q hK hx ok hh => ?_⟩
 refine c G σ H F z _ hK hx ok (hit_bind hh fun s z1 v H1 F1 _ sm1 ok1 ev h1 => ?_)
 cases s with
 | l xs =>
  obtain ⟨a, vs, rfl, h2, h3, h4, h5, h6, h7⟩ := ev
  exact h1 (.ref a) H1 _ (same_upd h4) (ok1.adopt h2 h4 h5 h7 h3) (Da.o upd_same)
 | _ => exact h1.elim
end
end G
namespace G
open PySem PySem.W PySem.Spec PyProof.Rows L2
variable {M : MI} {ι : Type} {X : ι → Cx} {mg : Str → Option Value} {N : List Str} {K : PySem.W.Frag} {xr : Str → Option Value} {W : WX}
noncomputable def prsD : List D → Option (List (Key × D))
 | [] => some []
 | .tup [.str k, v] :: r => (prsD r).map fun q => (.inr k, v) :: q
 | _ => none
theorem prs_rel {F H : Hp} (sm : SameX F H) : ∀ {xs : List D} {kvs : List (Key × D)} {vs : List V}, prsD xs = some kvs → DaAll K F vs xs → ∃ (ps : List Addr) (kv : List (Key × V)), vs = ps.map V.ref ∧ Paired (fun p kv => SqT K H p [kV kv.1, kv.2]) ps kv ∧ DaK K F kv kvs
 | [], kvs, vs, e, h => by
  cases h
  cases e
  exact ⟨[], [], rfl, .nil, .nil⟩
 | x :: r, kvs, vs, e, h => by
  unfold prsD at e
  split at e
  ·rename_i e0; cases e0
  ·rename_i k v r' e0
   cases e0
   cases h with
   | cons h1 h2 =>
    cases er : prsD r with
    | none => rw [er] at e; cases e
    | some q =>
     rw [er] at e
     cases e
     obtain ⟨ps, kv, rfl, hp, hk⟩ := prs_rel sm er h2
     cases h1 with
     | tup hq ha =>
      cases ha with
      | cons a1 a2 =>
       cases a1
       cases a2 with
       | cons b1 b2 =>
        cases b2
        exact ⟨_ :: ps, (.inr k, _) :: kv, rfl, .cons (sm.tup hq) hp, .cons b1 hk⟩
  ·cases e
noncomputable def eDPairs (f : Sm MX S) (z : Z MX.T) : Rs S (Z MX.T) := (opd f z).bind fun s z1 => match rd z1 s with
 | some (.lst xs) => (match prsD xs with
  | some kvs => .ok (.d (.o z1.m.length)) { z1 with m := z1.m ++ [.dK (mergeD [] kvs)] }
  | none => .bad)
 | _ => .bad
noncomputable def rDictP (K : PySem.W.Frag) : List V → Hp → VK → Prop := fun xs H Q => ∃ (a : Addr) (ps : List Addr) (kvs : List (Key × V)), xs = [.ref a] ∧ SqL K H a (ps.map V.ref) ∧ Paired (fun p kv => SqT K H p [kV kv.1, kv.2]) ps kvs ∧ ∀ p, H p = none → Q (.ref p) (upd H p (.dK (mergeK [] kvs)))
theorem call_dictPK {Y : Cx} (h : Y.calm = true) : CallR Y (.type "dict") (rDictP Y.K) := call_dictP h
theorem de_dpairs {e : Expr} {f : Sm MX S} {pp pos : Pos} (p : Pl K X N mg) (hm : mg "dict" = none) (he : DE MX xr K X W e f) (hg : ∀ j, Gl (X j) "dict" := by intro _; rfl) (hst : ∀ j, starEach [e] (X j).env = (false, eval e (X j).env) :: starEach [] (X j).env := by intro _; rfl) : DE MX xr K X W (.Call (.Name "dict" pp) [e] [] pos) (eDPairs f) := by
 obtain ⟨t1, p1, c1⟩ := he
 have cc : ∀ j, CallR (X j) (.type "dict") (rDictP K) := fun j => by rw [← p.k j]; exact call_dictPK (p.c j)
 refine ⟨_, fun j => pe_callTy (cc j) (hg j) (by rw [p.g j]; exact hm) (by decide +kernel) (pa_cons (p1 j) pa_nil (hst j)) (by decide) (by decide) (hst j) (by rfl), fun G σ H F z Q hK hx ok hh => ?_⟩
 refine cmp_opd c1 G σ H F z _ hK hx ok (hit_bind hh fun s z1 v H1 F1 _ sm1 ok1 ev h1 => ?_)
 cases er : rd z1 s with
 | none => simp only [er] at h1; exact h1.elim
 | some y =>
  cases y with
  | lst xs =>
   simp only [er] at h1
   cases ep : prsD xs with
   | none => simp only [ep] at h1; exact h1.elim
   | some kvs =>
    simp only [ep] at h1
    obtain ⟨a, vs, rfl, h2, h3⟩ := (EO.rv ok1 ev er).lst ok1.sub
    obtain ⟨ps, kv, rfl, hp, hk⟩ := prs_rel ok1.sub ep h3
    subst hK
    refine ⟨a, ps, kv, rfl, SqL.of h2, hp, fun q hq => ?_⟩
    ·have sF : Same F1 (upd F1 q (tag z1.m.length)) := same_upd (ok1.freshF hq)
     exact h1 (.ref q) (upd H1 q (.dK (mergeK [] kv))) (upd F1 q (tag z1.m.length)) sF (ok1.alloc hq ⟨_, upd_same, (DaK.mergeA hk .nil).mono sF⟩) (Da.o upd_same)
  | _ => simp only [er] at h1; exact h1.elim
end G
namespace G
open PySem PySem.W PySem.Spec PyProof.Rows L2
variable {M : MI} {ι : Type} {X : ι → Cx} {mg : Str → Option Value} {N : List Str} {K : PySem.W.Frag} {xr : Str → Option Value} {W : WX}
section
variable {x : Str} {tb : List (Str × D)} {e : Expr} {f : Sm M S} {p1 pos : Pos} {w : World}
end
end G
namespace G
open PySem L2 PySem.Spec PyProof.Rows HT
section
variable {ι : Type} {X : ι → Cx} {W : WX} {N : List Str} {mg xr : Str → Option Value} {K : PySem.W.Frag}
theorem DaAll.eraseIdx {K : PySem.W.Frag} {F : Hp} : ∀ {vs : List V} {ds : List D}, DaAll K F vs ds → ∀ k : Nat, DaAll K F (vs.eraseIdx k) (ds.eraseIdx k)
 | _, _, .nil, _ => .nil
 | _, _, .cons _ r, 0 => r
 | _, _, .cons q r, k + 1 => .cons q (DaAll.eraseIdx r k)
noncomputable def ePopI (f g : Sm MX S) (z : Z MX.T) : Rs S (Z MX.T) := (opd f z).bind fun s z1 => match listAt z1 s with
 | none => .bad
 | some _ => (opd g z1).bind fun s' z2 => match listAt z2 s, rd z2 s' with
  | some (n, xs), some (.int i) => if -(2 ^ 63) ≤ i ∧ i < 2 ^ 63 then (match seqIndex? i xs.length with
   | some k => (match xs[k]? with
    | some y => .ok (.d y) { z2 with m := z2.m.set n (.lst (xs.eraseIdx k)) }
    | none => .bad)
   | none => .bad) else .bad
  | _, _ => .bad
theorem de_popI {o e : Expr} {apos cpos : Pos} {f g : Sm MX S} (p : Pl K X N mg) (ho : DE MX xr K X W o f) (h : DE MX xr K X W e g)
  (hbase : ∀ j, attributeBase o "pop" (X j).env (eval o (X j).env) = eval o (X j).env := by intro _; rfl)
  (hfew : ∀ j, ((backTo cpos (starEach [e] (X j).env)).all (fun x => !x.1) && (backToKw cpos (keywordEach [] (X j).env)).all (fun x => x.1.isSome) && decide (([e] : List Expr).length + ([] : List Keyword).length + (if ([] : List Keyword).isEmpty then 0 else 1) < 31)) = true := by intro _; rfl)
  (hline : (apos.endLine == cpos.line) = true := by rfl) (hs : ∀ j, starEach [e] (X j).env = (false, eval e (X j).env) :: starEach [] (X j).env := by intro _; rfl) (hplain : ∀ j, (backTo cpos (starEach [] (X j).env)).any (·.1) = false := by intro _; rfl) :
  DE MX xr K X W (.Call (.Attribute o "pop" apos) [e] [] cpos) (ePopI f g) := by
 obtain ⟨t1, p1, c1⟩ := ho
 obtain ⟨t, p2, c⟩ := h
 refine ⟨tBM K "list" rPopAt t1 (tCons t tNil), fun j => ?_, fun G σ H F z Q hGK hx ok hh => ?_⟩
 ·rw [← p.k j]
  exact pe_bm PySem.F.plainAttrs_list PySem.F.slot_list_pop PySem.F.type_list_pop mt_popAt (p1 j) (pa_cons (p2 j) pa_nil (hs j)) (hbase j) (hfew j) hline (hs j) (hplain j)
 ·refine cmp_opd c1 G σ H F z _ hGK hx ok (hit_bind hh fun s z1 v H1 F1 _ sm1 ok1 ev h1 => ?_)
  cases e0 : listAt z1 s with
  | none => simp only [e0] at h1; exact h1.elim
  | some q =>
   obtain ⟨n0, ys⟩ := q
   simp only [e0] at h1
   obtain ⟨a, vs, rfl, _, _, ha, _⟩ := listAt_rv ok1 ev e0
   refine ⟨tyV_own ha, ?_⟩
   refine cmp_opd c G σ H1 F1 z1 _ hGK hx ok1 (hit_bind h1 fun s' z2 w H2 F2 _ sm2 ok2 ew h2 => ?_)
   cases e1 : listAt z2 s with
   | none => simp only [e1] at h2; exact h2.elim
   | some q =>
    obtain ⟨n, xs⟩ := q
    cases er : rd z2 s' with
    | none => simp only [e1, er] at h2; exact h2.elim
    | some d =>
     cases d with
     | int i =>
      simp only [e1, er] at h2
      by_cases hi : -(2 ^ 63) ≤ i ∧ i < 2 ^ 63
      ·rw [if_pos hi] at h2
       cases ek : seqIndex? i xs.length with
       | none => simp only [ek] at h2; exact h2.elim
       | some k =>
        simp only [ek] at h2
        cases ey : xs[k]? with
        | none => simp only [ey] at h2; exact h2.elim
        | some y =>
         simp only [ey] at h2
         obtain ⟨b, ws, eb, hF, em, hb, hdw⟩ := listAt_rv ok2 (EO.mono sm2 ev) e1
         cases eb
         obtain ⟨u, hu1, hu2⟩ := hdw.get ey
         have hv := (EO.rv ok2 ew er).int
         subst hv
         refine ⟨a, ws, i, k, u, rfl, rfl, hb, hi.1, hi.2, by rw [hdw.length]; exact ek, hu1, ?_⟩
         exact h2 u _ F2 (Same.refl _) (ok2.putO hF ⟨_, upd_same, hdw.eraseIdx k⟩) hu2
      ·rw [if_neg hi] at h2; exact h2.elim
     | _ => simp only [e1, er] at h2; exact h2.elim
end
end G
namespace G
open PySem L2 PySem.Spec PyProof.Rows
section
variable {ι : Type} {xr : Str → Option Value} {K : PySem.W.Frag} {X : ι → Cx} {W : WX} {N : List Str} {mg : Str → Option Value}
end
end G
namespace G
open PySem L2 PySem.Spec PyProof.Rows
noncomputable abbrev Gd := Option (Nat × List D)
noncomputable def GdOk (g : Gd) (m : List MO) : Prop := match g with
 | none => True
 | some (n, xs) => m[n]? = some (.lst xs)
noncomputable def gdB (g : Gd) (m : List MO) : Bool := @decide (GdOk g m) (Classical.propDecidable _)
noncomputable def GH (K : PySem.W.Frag) (g : Gd) (F1 H : Hp) : Prop := match g with
 | none => True
 | some (n, xs) => ∃ a vs, F1 a = some (tag n) ∧ H a = some (.lst vs) ∧ DaAll K F1 vs xs ∧ ∀ b, F1 b = some (tag n) → b = a
noncomputable def GL (g : Gd) (F H : Hp) : Prop := match g with
 | none => True
 | some (n, xs) => ∃ a vs, F a = some (tag n) ∧ H a = some (.lst vs) ∧ vs.length = xs.length
theorem Ok.gh {G : Gx} {σ : L2.St} {H F : Hp} {z : Z (List MO)} (ok : Ok MX G σ H F z) {g : Gd} (h : GdOk g z.m) : GH G.K g F H := by
 cases g with
 | none => exact trivial
 | some p =>
  obtain ⟨n, xs⟩ := p
  obtain ⟨h0, h1, h2, h3⟩ := ok.mach
  obtain ⟨a, ha, vs, hh, hd⟩ := h1 n _ h
  exact ⟨a, vs, ha, hh, hd, fun b hb => h3 b a n hb ha⟩
theorem GH.gl {K : PySem.W.Frag} {g : Gd} {F F1 H H0 : Hp} (h : GH K g F1 H) (sm : Same F F1) (h0 : GL g F H0) : GL g F H := by
 cases g with
 | none => exact trivial
 | some p =>
  obtain ⟨n, xs⟩ := p
  obtain ⟨a, vs, h1, h2, h3, h4⟩ := h
  obtain ⟨b, _, q1, _, _⟩ := h0
  have e := h4 b (sm _ _ q1)
  exact ⟨b, vs, q1, by rw [e]; exact h2, h3.length⟩
noncomputable def forLG (g : Gd) (k : D → Z MX.T → Option (Z MX.T)) (b : Sm MX Out) : List D → Sm MX Out
  | [], z => if gdB g z.m = true then .ok .nx z else .bad
  | d :: r, z => if gdB g z.m = true then (match k d z with
    | none => .bad
    | some z1 => (b z1).bind fun o z2 => match o with
      | .nx => forLG g k b r z2
      | .ct => forLG g k b r z2
      | .bk => .ok .nx z2
      | .rt s => .ok (.rt s) z2) else .bad
noncomputable def sForG (its : Sm MX (List D × Gd)) (k : D → Z MX.T → Option (Z MX.T)) (b : Sm MX Out) (z : Z MX.T) : Rs Out (Z MX.T) := (its z).bind fun dg z1 => forLG dg.2 k b dg.1 z1
section
variable {ι : Type} {xr : Str → Option Value} {K : PySem.W.Frag} {X : ι → Cx} {W : WX} {N : List Str} {mg : Str → Option Value}
noncomputable def lcLG (g : Gd) (k : D → Z MX.T → Option (Z MX.T)) (t : Sm MX Bool) (e : Sm MX S) (vs : List Nat) : List D → List D → Z MX.T → Rs (List D) (Z MX.T)
  | [], acc, z => if gdB g z.m = true then .ok acc z else .bad
  | d :: r, acc, z => if gdB g z.m = true then (match k d z with
    | none => .bad
    | some z1 => (nox (t z1)).bind fun b z2 => if b = true then (nox (escf e z2)).bind fun s z3 => (match s with
        | .d y => if acc.length < lim then lcLG g k t e vs r (acc ++ [y]) (wipeZ z3 vs) else .bad
        | _ => .bad) else lcLG g k t e vs r acc (wipeZ z2 vs)) else .bad
noncomputable def eLcG (its : Sm MX (List D × Gd)) (k : D → Z MX.T → Option (Z MX.T)) (t : Sm MX Bool) (e : Sm MX S) (vs : List Nat) (z : Z MX.T) : Rs S (Z MX.T) := (its z).bind fun dg z1 => if noOwn z1.rho vs = true then
    (lcLG dg.2 k t e vs dg.1 [] (wipeZ z1 vs)).bind fun acc z2 => .ok (.l acc) { z2 with rho := restR z1.rho z2.rho vs }
  else .bad
end
section
variable {ι : Type} {K : PySem.W.Frag} {X : ι → Cx} {N : List Str} {mg : Str → Option Value}
noncomputable def rInW (K : PySem.W.Frag) (neg : Bool) : R2 := fun x y H Q => ∃ d ds, Dp K H x d ∧ (Dp K H y (.list ds) ∨ Dp K H y (.tuple ds)) ∧ d.canLay0 = true ∧ PyData.canLayAll0 ds = true ∧ min (PyData.depthAll ds) d.depth ≤ 298 ∧ Q (.bl (if neg = true then !ds.any fun z => PyData.eqv z d else ds.any fun z => PyData.eqv z d)) H
theorem op_inW {X : Cx} (hu : X.A.units + 300 < cLine) : OpR X (compareOp .In) (rInW X.K false) := by
 intro pins s σ H x y v u Q I rx ry h
 obtain ⟨d, ds, hd, he, sd, se, hm, q⟩ := h
 obtain ⟨as, r1⟩ := Dp.reads I d x v hd rx
 rcases he with he | he
 ·obtain ⟨bs, r2⟩ := Dp.reads I (.list ds) y u he ry
  exact SeqAt.in_list_reads r2 r1 se sd (by omega) ⟨.bl _, H, I, rfl, q⟩
 ·obtain ⟨bs, r2⟩ := Dp.reads I (.tuple ds) y u he ry
  exact SeqAt.in_tuple_reads r2 r1 se sd (by omega) ⟨.bl _, H, I, rfl, q⟩
theorem op_notInW {X : Cx} (hu : X.A.units + 300 < cLine) : OpR X (compareOp .NotIn) (rInW X.K true) := by
 intro pins s σ H x y v u Q I rx ry h
 obtain ⟨d, ds, hd, he, sd, se, hm, q⟩ := h
 obtain ⟨as, r1⟩ := Dp.reads I d x v hd rx
 rcases he with he | he
 ·obtain ⟨bs, r2⟩ := Dp.reads I (.list ds) y u he ry
  exact SeqAt.notIn_list_reads r2 r1 se sd (by omega) ⟨.bl _, H, I, rfl, q⟩
 ·obtain ⟨bs, r2⟩ := Dp.reads I (.tuple ds) y u he ry
  exact SeqAt.notIn_tuple_reads r2 r1 se sd (by omega) ⟨.bl _, H, I, rfl, q⟩
noncomputable def inW (a : D) (xs : List D) : Bool := xs.any fun y => eqD y a
noncomputable def dInW (neg : Bool) : D → D → Option R := fun a b => match b with
 | .tup xs => if lay a = true ∧ lays xs = true ∧ min (deps xs) (dep a) ≤ 298 then some (.d (.bl (if neg = true then !inW a xs else inW a xs))) else none
 | .lst xs => if lay a = true ∧ lays xs = true ∧ min (deps xs) (dep a) ≤ 298 then some (.d (.bl (if neg = true then !inW a xs else inW a xs))) else none
 | _ => none
theorem any_toPys (a : D) : ∀ xs : List D, ((toPys xs).any fun z => PyData.eqv z (toPy a)) = inW a xs
 | [] => rfl
 | x :: r => by
  have ih := any_toPys a r
  unfold inW at ih ⊢
  rw [toPys, List.any_cons, List.any_cons, ih]
  rfl
theorem op2_inW {K : PySem.W.Frag} {neg : Bool} : Op2 K (rInW K neg) (dInW neg) := by
 intro F H x y a b Q s ha hb h
 unfold dInW at h
 split at h
 ·rename_i xs
  by_cases hc : lay a = true ∧ lays xs = true ∧ min (deps xs) (dep a) ≤ 298
  ·rw [if_pos hc] at h
   refine ⟨toPy a, toPys xs, ha.dp s hc.1, .inr (hb.dp s (by rw [lay]; exact hc.2.1)), by rw [canLay_toPy]; exact hc.1, by rw [canLays_toPy]; exact hc.2.1, by rw [depths_toPy, depth_toPy]; exact hc.2.2, ?_⟩
   rw [any_toPys]
   exact h _ (.bl _)
  ·rw [if_neg hc] at h; exact h.elim
 ·rename_i xs
  by_cases hc : lay a = true ∧ lays xs = true ∧ min (deps xs) (dep a) ≤ 298
  ·rw [if_pos hc] at h
   refine ⟨toPy a, toPys xs, ha.dp s hc.1, .inl (hb.dp s (by rw [lay]; exact hc.2.1)), by rw [canLay_toPy]; exact hc.1, by rw [canLays_toPy]; exact hc.2.1, by rw [depths_toPy, depth_toPy]; exact hc.2.2, ?_⟩
   rw [any_toPys]
   exact h _ (.bl _)
  ·rw [if_neg hc] at h; exact h.elim
 ·exact h.elim
theorem cp_inW (p : Pl K X N mg) : Cp K X .In (dInW false) := ⟨rInW K false, fun j => by rw [← p.k j]; exact op_inW (p.u j), op2_inW⟩
theorem cp_notInW (p : Pl K X N mg) : Cp K X .NotIn (dInW true) := ⟨rInW K true, fun j => by rw [← p.k j]; exact op_notInW (p.u j), op2_inW⟩
end
end G
namespace G
open PySem L2 PySem.Spec PyProof.Rows
noncomputable abbrev Gf := Nat × Obj × List (Key × V) × List (Key × D)
noncomputable def GfOk (g : Gf) (m : List MO) : Prop := m[g.1]? = some (.fz g.2.1 g.2.2.1 g.2.2.2)
noncomputable def gfB (g : Gf) (m : List MO) : Bool := @decide (GfOk g m) (Classical.propDecidable _)
theorem gfB_t {g : Gf} {m : List MO} (h : GfOk g m) : gfB g m = true := by unfold gfB; exact @decide_eq_true _ (Classical.propDecidable _) h
theorem gfB_of {g : Gf} {m : List MO} (h : gfB g m = true) : GfOk g m := by unfold gfB at h; exact @of_decide_eq_true _ (Classical.propDecidable _) h
noncomputable def GHf (K : PySem.W.Frag) (g : Gf) (F1 H : Hp) : Prop := ∃ a, F1 a = some (tag g.1) ∧ H a = some (.frz g.2.1 (.dK g.2.2.1)) ∧ DaK K F1 g.2.2.1 g.2.2.2 ∧ ∀ b, F1 b = some (tag g.1) → b = a
noncomputable def GLf (g : Gf) (F H : Hp) : Prop := ∃ a, F a = some (tag g.1) ∧ H a = some (.frz g.2.1 (.dK g.2.2.1))
theorem Ok.ghf {G : Gx} {σ : L2.St} {H F : Hp} {z : Z (List MO)} (ok : Ok MX G σ H F z) {g : Gf} (h : GfOk g z.m) : GHf G.K g F H := by
 obtain ⟨n, od, kvs, ps⟩ := g
 obtain ⟨h0, h1, h2, h3⟩ := ok.mach
 obtain ⟨a, ha, hh, hd⟩ := h1 n _ h
 exact ⟨a, ha, hh, hd, fun b hb => h3 b a n hb ha⟩
theorem GHf.gl {K : PySem.W.Frag} {g : Gf} {F F1 H H0 : Hp} (h : GHf K g F1 H) (sm : Same F F1) (h0 : GLf g F H0) : GLf g F H := by
 obtain ⟨a, h1, h2, h3, h4⟩ := h
 obtain ⟨b, q1, _⟩ := h0
 have e := h4 b (sm _ _ q1)
 exact ⟨b, q1, by rw [e]; exact h2⟩
noncomputable def YDf (K : PySem.W.Frag) (F : Hp) (ds : List D) (g : Gf) : Nat → Hp → V → Hp → Prop := fun i H v H' => ∃ d, ds[i]? = some d ∧ ∀ F1, Same F F1 → SameX F1 H → (∀ a ps, F1 a = some (.tbl ps) → H a ≠ none) → GHf K g F1 H → ∃ F2, Same F1 F2 ∧ SameX F2 H' ∧ (∀ b o, H b = some o → H' b = some o ∧ F2 b = F1 b) ∧ (∀ a ps, F2 a = some (.tbl ps) → F1 a = some (.tbl ps)) ∧ Da K F2 v d
noncomputable def Wkf (K : PySem.W.Frag) (F : Hp) (J : It) (dg : List D × Gf) : Prop := (∃ H0, GLf dg.2 F H0) ∧ Walk J dg.1.length (fun H => SameX F H ∧ GLf dg.2 F H) (YDf K F dg.1 dg.2)
noncomputable def RelWf (G : Gx) (_ : L2.St) : List D × Gf → It → Hp → Hp → Z (List MO) → Prop := fun dg J F _ _ => Wkf G.K F J dg
noncomputable def DIF {ι : Type} (xr : Str → Option Value) (K : PySem.W.Frag) (X : ι → Cx) (W : WX) (tg iter : Expr) (f : Sm MX (List D × Gf)) : Prop := ∃ wi, (∀ j, PI (X j) tg iter wi) ∧ Cmp MX K xr W wi RelWf f
section
variable {ι : Type} {xr : Str → Option Value} {K : PySem.W.Frag} {X : ι → Cx} {W : WX} {N : List Str} {mg : Str → Option Value}
noncomputable def lcLF (g : Gf) (k : D → Z MX.T → Option (Z MX.T)) (t : Sm MX Bool) (e : Sm MX S) (vs : List Nat) : List D → List D → Z MX.T → Rs (List D) (Z MX.T)
  | [], acc, z => if gfB g z.m = true then .ok acc z else .bad
  | d :: r, acc, z => if gfB g z.m = true then (match k d z with
    | none => .bad
    | some z1 => (nox (t z1)).bind fun b z2 => if b = true then (nox (escf e z2)).bind fun s z3 => (match s with
        | .d y => if acc.length < lim then lcLF g k t e vs r (acc ++ [y]) (wipeZ z3 vs) else .bad
        | _ => .bad) else lcLF g k t e vs r acc (wipeZ z2 vs)) else .bad
noncomputable def eLcF (its : Sm MX (List D × Gf)) (k : D → Z MX.T → Option (Z MX.T)) (t : Sm MX Bool) (e : Sm MX S) (vs : List Nat) (z : Z MX.T) : Rs S (Z MX.T) := (its z).bind fun dg z1 => if noOwn z1.rho vs = true then
    (lcLF dg.2 k t e vs dg.1 [] (wipeZ z1 vs)).bind fun acc z2 => .ok (.l acc) { z2 with rho := restR z1.rho z2.rho vs }
  else .bad
theorem cmp_lcF {wi : TI} {g : TG} {tt : TT} {te : TE} {vs ts : List Nat} {its : Sm MX (List D × Gf)} {k : D → Z MX.T → Option (Z MX.T)} {t : Sm MX Bool} {e : Sm MX S} (hv : ∀ n ∈ ts, n ∈ vs) (ci : Cmp MX K xr W wi RelWf its) (cg : GR MX K ts g k)
  (ct : Cmp MX K xr W0 tt RelB t) (ce : Cmp MX K xr W0 te RelE e) : Cmp MX K xr W (tLc wi g tt te vs) RelE (eLcF its k t e vs) := by
 intro G σ H F z Q hK hx ok hh
 refine ci G σ H F z _ hK hx ok (hit_bind hh fun dg z1 J H1 F1 _ sm ok1 w h1 => ?_)
 obtain ⟨ds, gd⟩ := dg
 obtain ⟨⟨H0, gl0⟩, w⟩ := w
 intro L hL
 have hn : noOwn z1.rho vs = true := by
  by_cases q : noOwn z1.rho vs = true
  ·exact q
  ·rw [if_neg q] at h1; exact h1.elim
 rw [if_pos hn] at h1
 have okw : Ok MX G (L2.wipe σ vs) H1 F1 (wipeZ z1 vs) := ok1.wipe vs
 have hP : G.P L = none := ok1.freshP hL
 have hm : L ∉ G.ms := ok1.freshM hL
 have chk : ∀ {r acc : List _root_.G.D} {F' : Hp} {z' : Z MX.T}, HitG MX G W σ F' (RelE G σ) ((lcLF gd k t e vs r acc z').bind fun acc z2 => .ok (.l acc) { z2 with rho := restR z1.rho z2.rho vs }) Q → GfOk gd z'.m := by
  intro r acc F' z' h
  by_cases q : gfB gd z'.m = true
  ·exact gfB_of q
  ·cases r <;> (unfold lcLF at h; rw [if_neg q] at h; exact h.elim)
 refine lc_it w (fun i H' => ∃ F' z' acc avs, Same F1 F' ∧ Ok MX G (L2.wipe σ vs) H' F' z' ∧ H' L = some (.lst avs) ∧ DaAll G.K F' avs acc ∧ F' L = none ∧ ¬ Owned (L2.wipe σ vs) z' L ∧
   HitG MX G W σ F' (RelE G σ) ((lcLF gd k t e vs (ds.drop i) acc z').bind fun acc z2 => .ok (.l acc) { z2 with rho := restR z1.rho z2.rho vs }) Q)
  ⟨F1, wipeZ z1 vs, [], [], Same.refl _, okw.new hL _, upd_same, .nil, ok1.freshF hL, okw.freshO hL, h1⟩ (fun i H' _ ⟨F', z', _, _, s', ok', _, _, _, _, hh'⟩ => ⟨thenX s' ok'.sub, (ok'.ghf (chk hh')).gl s' gl0⟩) ?_ ?_
 ·rintro i x H2 H3 hi ⟨F2, z2, acc, avs, s2, ok2, hl2, da2, hf2, no2, h2⟩ ⟨d, hd, q⟩
  have c2 := chk h2
  obtain ⟨F3, s3, s4, kk, kt, da⟩ := q F2 s2 ok2.sub (fun a ps e => (ok2.tg a ps e).1) (ok2.ghf c2)
  have ok3 := ok2.yd s3 s4 kk kt
  have hl3 : H3 L = some (.lst avs) := (kk L _ hl2).1
  have hf3 : F3 L = none := (kk L _ hl2).2.trans hf2
  have ed : ds.drop i = d :: ds.drop (i + 1) := by
   rw [List.drop_eq_getElem_cons hi]
   have := List.getElem?_eq_getElem hi
   rw [hd] at this
   rw [← Option.some.inj this]
  rw [ed] at h2
  have okp := ok3.prot hl3 hf3 hm no2
  refine cg (G.prot L avs) _ H3 F3 z2 x d _ hK okp (by rw [← hK]; exact da) ?_
  unfold lcLF at h2
  rw [if_pos (gfB_t c2)] at h2
  cases e1 : k d z2 with
  | none => simp only [e1] at h2; exact h2.elim
  | some z3 =>
   simp only [e1] at h2
   intro σ4 b4 ok4
   have ew : L2.wipe σ4 vs = L2.wipe σ vs := wipe_but b4 hv
   refine ⟨ew, ?_⟩
   refine ct (G.prot L avs) σ4 H3 F3 z3 _ hK hx ok4 ?_
   cases e2 : t z3 with
   | bad => simp only [e2, nox, Rs.bind] at h2; exact h2
   | ex x zz => simp only [e2, nox, Rs.bind] at h2; exact h2.elim
   | ok b z4 =>
    simp only [e2, nox, Rs.bind] at h2
    intro b' H5 F5 s5 ok5 eb
    cases (show b' = b from eb)
    cases b with
    | false =>
     rw [if_neg Bool.false_ne_true] at h2
     rw [if_neg Bool.false_ne_true]
     obtain ⟨q1, q2, q3, q4⟩ := ok5.unprot hP
     have ok6 := q1.wipe vs
     rw [ew] at ok6
     refine ⟨F5, wipeZ z4 vs, acc, avs, (s2.trans s3).trans s5, ok6, q2, da2.mono (s3.trans s5), q3, ?_, HitG.mono h2 (s3.trans s5)⟩
     rintro ⟨j, xs, o1, o2⟩
     have o1' : (wipeR z4.rho vs)[j]? = some (some (.l xs)) := o1
     by_cases qj : j ∈ vs
     ·exact wipeR_in _ _ _ _ qj o1'
     ·rw [wipeR_out _ _ _ qj] at o1'
      rw [← ew, wipe_out _ _ _ qj] at o2
      exact q4 ⟨j, xs, o1', o2⟩
    | true =>
     rw [if_pos rfl] at h2
     rw [if_pos rfl]
     refine cmp_esc ce (G.prot L avs) σ4 H5 F5 z4 _ hK hx ok5 ?_
     cases e3 : escf e z4 with
     | bad => simp only [e3, nox, Rs.bind] at h2; exact h2
     | ex x zz => simp only [e3, nox, Rs.bind] at h2; exact h2.elim
     | ok s z5 =>
      simp only [e3, nox, Rs.bind] at h2
      intro v H6 F6 s6 ok6 ev
      cases s with
      | d y =>
       simp only at h2
       have hlim : acc.length < lim := by
        by_cases q : acc.length < lim
        ·exact q
        ·rw [if_neg q] at h2; exact h2.elim
       rw [if_pos hlim] at h2
       obtain ⟨q1, q2, q3, q4⟩ := ok6.unprot hP
       have s26 := (s3.trans s5).trans s6
       refine ⟨avs, q2, by rw [da2.length]; exact Nat.lt_trans hlim lim_line, F6, wipeZ z5 vs, acc ++ [y], avs ++ [v], s2.trans s26, ?_, upd_same, (da2.mono s26).append (.cons ev .nil), q3, ?_, HitG.mono h2 s26⟩
       ·have ok7 := (q1.updD (o' := .lst (avs ++ [v])) q2 q3 hm hP q4).wipe vs
        rw [ew] at ok7
        exact ok7
       ·rintro ⟨j, xs, o1, o2⟩
        have o1' : (wipeR z5.rho vs)[j]? = some (some (.l xs)) := o1
        by_cases qj : j ∈ vs
        ·exact wipeR_in _ _ _ _ qj o1'
        ·rw [wipeR_out _ _ _ qj] at o1'
         rw [← ew, wipe_out _ _ _ qj] at o2
         exact q4 ⟨j, xs, o1', o2⟩
      | _ => exact h2.elim
 ·rintro H2 ⟨F2, z2, acc, avs, s2, ok2, hl2, da2, hf2, no2, h2⟩
  have c2 := chk h2
  rw [List.drop_length] at h2
  unfold lcLF at h2
  rw [if_pos (gfB_t c2)] at h2
  refine h2 (.ref L) H2 F2 (Same.refl _) (ok1.rest hn s2 ok2) ⟨L, avs, rfl, hl2, da2, hf2, hP, hm, ?_⟩
  rintro ⟨j, xs, o1, o2⟩
  have o1' : (restR z1.rho z2.rho vs)[j]? = some (some (.l xs)) := o1
  by_cases qj : j ∈ vs
  ·have q := restR_in _ _ _ _ _ qj o1'
   have q2 := List.all_eq_true.mp hn j qj
   rw [q] at q2
   cases q2
  ·rw [restR_out _ _ _ _ qj] at o1'
   exact no2 ⟨j, xs, o1', by rw [wipe_out _ _ _ qj]; exact o2⟩
theorem de_lcF {elt tg iter : Expr} {ifs : List Expr} {scope : Scope} {own : List (Str × Nat)} {pos : Pos} {ts : List Nat} {its : Sm MX (List D × Gf)} {k : D → Z MX.T → Option (Z MX.T)} {t : Sm MX Bool} {e : Sm MX S} (hc : ∀ j, (X j).calm = true) (hN : ∀ j, (X j).N.Nodup) (ok : ∀ j, BlkOk (X j).N (X j).env.scope scope own)
  (hi : DIF xr K X W tg iter its) (hg : DG MX K (Blk X scope) ts tg k) (ht : DTs MX xr K (Blk X scope) W0 ifs t) (he : DE MX xr K (Blk X scope) W0 elt e) (hv : ∀ n ∈ ts, n ∈ own.map (·.2) := by decide) (hs : ∀ j x, foldedSetIterable iter (X j).env x = pure x := by intro _ _; rfl) :
  DE MX xr K X W (.ListComp elt [⟨tg, iter, ifs, 0⟩] scope pos) (eLcF its k t e (own.map (·.2))) := by
 obtain ⟨wi, pi, ci⟩ := hi
 obtain ⟨g, pg, cg⟩ := hg
 obtain ⟨tt, pt, ct⟩ := ht
 obtain ⟨te, pe, ce⟩ := he
 exact ⟨_, fun j => pe_lc (hc j) (hN j) (pi j) (ok j) (fun s H C cl fp => pg (j, ⟨s, H, C, cl, fp⟩)) (fun s H C cl fp => pt (j, ⟨s, H, C, cl, fp⟩)) (fun s H C cl fp => pe (j, ⟨s, H, C, cl, fp⟩)) (hs j), cmp_lcF hv ci cg ct ce⟩
noncomputable def iKyF (f : Sm MX S) (z : Z MX.T) : Rs (List D × Gf) (Z MX.T) := (escf f z).bind fun s z1 => match s with
 | .d (.o n) => (match z1.m[n]? with
  | some (.fz od kvs ps) => .ok (ps.map (fun p => kD p.1), (n, od, kvs, ps)) z1
  | _ => .bad)
 | _ => .bad
theorem di_kyF {tg l : Expr} {g : Sm MX S} (p : Pl K X N mg) (h : DE MX xr K X W l g) : DIF xr K X W tg l (iKyF g) := by
 obtain ⟨t, pe, c⟩ := h
 refine ⟨iKeys t, fun j => pi_keys (pe j), fun G σ H F z Q hK hx ok hh => ?_⟩
 refine cmp_esc c G σ H F z _ hK hx ok (hit_bind hh fun s z1 v H1 F1 _ sm ok1 ev h1 => ?_)
 subst hK
 split at h1
 ·rename_i n _
  split at h1
  ·rename_i od kvs ps em
   obtain ⟨a, rfl, h2, h3, h4⟩ := ok1.objAt ev em
   refine ⟨a, od, rfl, .inl ⟨kvs, h3, h1 _ H1 F1 (Same.refl _) ok1 ⟨⟨H1, a, h2, h3⟩, ?_⟩⟩⟩
   show Walk (Itk a od kvs) (ps.map (fun p => kD p.1)).length _ _
   have hl : (ps.map (fun p => kD p.1)).length = kvs.length := by rw [List.length_map]; exact h4.length.symm
   refine ⟨fun i H hi q => ?_, fun H q => ?_, fun i H x H' hi q y => ?_⟩
   ·obtain ⟨_, b, q1, q2⟩ := q
    cases ok1.mach.2.2.2 a b n h2 q1
    exact ⟨q2, by omega⟩
   ·obtain ⟨_, b, q1, q2⟩ := q
    cases ok1.mach.2.2.2 a b n h2 q1
    exact ⟨q2, by omega⟩
   ·obtain ⟨e1, k, v, e2, e3⟩ := y
    have e4 : (kvs.map (·.1))[i]? = some k := by rw [List.getElem?_map, e2]; rfl
    rw [h4.keys, List.getElem?_map] at e4
    have hd : (ps.map (fun p => kD p.1))[i]? = some (kD k) := by
     rw [List.getElem?_map]
     cases e5 : ps[i]? with
     | none => rw [e5] at e4; cases e4
     | some w => rw [e5] at e4; cases e4; rfl
    refine ⟨_, hd, fun F1' s1 s2 st gh => ⟨F1', Same.refl _, by rw [e1]; exact s2, fun b o e => ⟨by rw [e1]; exact e, rfl⟩, fun _ _ e => e, ?_⟩⟩
    rw [e3]
    cases k with
    | inl i => exact Da.int _
    | inr s => exact Da.str _
  ·exact h1.elim
 ·exact h1.elim
noncomputable def fzAt (z : Z (List MO)) (s : S) : Option (List (Key × D)) := match rd z s with
 | some (.o n) => (match z.m[n]? with
  | some (.fz _ _ ps) => some ps
  | _ => none)
 | _ => none
noncomputable def eDIxF (f g : Sm MX S) (z : Z MX.T) : Rs S (Z MX.T) := (opd f z).bind fun s z1 => (opd g z1).bind fun s' z2 => match fzAt z2 s, (rd z2 s').bind keyD with
 | some ps, some k => (match valD ps k with
  | some d => .ok (.d d) z2
  | none => .bad)
 | _, _ => .bad
theorem fzAt_rv {G : Gx} {σ : L2.St} {H F : Hp} {z : Z (List MO)} (ok : Ok MX G σ H F z) {v : V} {s : S} {ps : List (Key × D)} (e : EO G σ F v s) (h : fzAt z s = some ps) : ∃ a od kvs, v = .ref a ∧ H a = some (.frz od (.dK kvs)) ∧ DaK G.K F kvs ps := by
 unfold fzAt at h
 split at h
 ·rename_i k er
  split at h
  ·rename_i od kvs qs em
   cases h
   have r := (EO.rv ok e er).da (fun _ q => by cases q)
   obtain ⟨a, rfl, h1, h2, h3⟩ := ok.objAt r em
   exact ⟨a, od, kvs, rfl, h2, h3⟩
  ·cases h
 ·cases h
theorem de_dixF {o i : Expr} {f g : Sm MX S} {pos : Pos} (p : Pl K X N mg) (ho : DE MX xr K X W o f) (hi : DE MX xr K X W i g) (hs : NoSl i := by exact fun _ _ => rfl) : DE MX xr K X W (.Subscript o i pos) (eDIxF f g) := by
 obtain ⟨t1, p1, c1⟩ := ho
 obtain ⟨t2, p2, c2⟩ := hi
 refine ⟨tDGet t1 t2, fun j => pe_dget (by have := p.u j; omega) (p1 j) (p2 j) hs, fun G σ H F z Q hK hx ok hh => ?_⟩
 refine cmp_opd c1 G σ H F z _ hK hx ok (hit_bind hh fun s z1 v H1 F1 _ sm1 ok1 ev h1 => ?_)
 refine cmp_opd c2 G σ H1 F1 z1 _ hK hx ok1 (hit_bind h1 fun s' z2 v' H2 F2 _ sm2 ok2 ev2 h2 => ?_)
 cases e2 : fzAt z2 s with
 | none => simp only [e2] at h2; exact h2.elim
 | some ps =>
  cases e3 : (rd z2 s').bind keyD with
  | none => simp only [e2, e3] at h2; exact h2.elim
  | some k =>
   simp only [e2, e3] at h2
   obtain ⟨a, od, kvs, rfl, hH, hk⟩ := fzAt_rv ok2 (EO.mono sm2 ev) e2
   cases er : rd z2 s' with
   | none => rw [er] at e3; cases e3
   | some d =>
    rw [er] at e3
    have hv := keyD_v (EO.rv ok2 ev2 er) e3
    subst hv
    rcases hk.val k with ⟨e4, e5⟩ | ⟨v, d, e4, e5, e6⟩
    ·rw [e4] at h2; exact h2.elim
    ·rw [e4] at h2
     have dg : DGet H2 a (kV k) (valV kvs k) := .inl ⟨kvs, k, .inr ⟨od, hH⟩, rfl, rfl⟩
     rw [e5] at dg
     exact ⟨a, v, rfl, dg, h2 v H2 F2 (Same.refl _) ok2 e6⟩
noncomputable def lkR {α : Type} (F : α → Rs S (Z (List MO))) : Rs S (Z (List MO)) := @dite _ (∃ r, ∀ a, F a = r) (Classical.propDecidable _) (fun h => Classical.choose h) (fun _ => .bad)
theorem lkR_eq {α : Type} [Nonempty α] {F : α → Rs S (Z (List MO))} {r : Rs S (Z (List MO))} (h : ∀ a, F a = r) : lkR F = r := by
 unfold lkR
 have e : ∃ r, ∀ a, F a = r := ⟨r, h⟩
 rw [dif_pos e]
 obtain ⟨a⟩ := (inferInstance : Nonempty α)
 rw [← h a]
 exact (Classical.choose_spec e a).symm
theorem lkR_at {α : Type} {F : α → Rs S (Z (List MO))} (hb : lkR F ≠ .bad) (a : α) : F a = lkR F := by
 unfold lkR at hb ⊢
 by_cases e : ∃ r, ∀ a, F a = r
 ·rw [dif_pos e]
  exact Classical.choose_spec e a
 ·rw [dif_neg e] at hb
  exact (hb rfl).elim
noncomputable def unF (n : Nat) (od : Obj) (kvs : List (Key × V)) (ps : List (Key × D)) (r : Rs S (Z (List MO))) : Rs S (Z (List MO)) := match r with
  | .ok (.d x) z1 => if gfB (n, od, kvs, ps) z1.m = true then .ok (.d x) { z1 with m := z1.m.set n (.dK ps) } else .bad
  | _ => .bad
noncomputable def eLk (i : Nat) (f : Sm MX S) (z : Z MX.T) : Rs S (Z MX.T) := match z.rho[i]? with
  | some (some (.d (.o n))) => (match z.m[n]? with
    | some (.dK ps) => lkR (fun q : Obj × List (Key × V) => unF n q.1 q.2 ps (f { z with m := z.m.set n (.fz q.1 q.2 ps) }))
    | _ => .bad)
  | _ => .bad
theorem de_lk (i : Nat) {e : Expr} {f : Sm MX S} (h : DE MX xr K X W e f) : DE MX xr K X W e (eLk i f) := by
 obtain ⟨t, p, c⟩ := h
 refine ⟨tLockE t, fun j => pe_lock (p j), fun G σ H F z Q hK hx ok hh => ?_⟩
 unfold eLk at hh
 split at hh
 ·rename_i n es
  split at hh
  ·rename_i ps em
   obtain ⟨v, ev, da⟩ := ok.slot i _ es
   obtain ⟨a, rfl, ha, kvs, hH, hk⟩ := ok.objAt da em
   refine ⟨a, .dK kvs, hH, trivial, fun od => ?_⟩
   have hb : lkR (fun q : Obj × List (Key × V) => unF n q.1 q.2 ps (f { z with m := z.m.set n (.fz q.1 q.2 ps) })) ≠ .bad := fun q => by rw [q] at hh; exact hh
   have e1 := lkR_at hb (od, kvs)
   rw [← e1] at hh
   have ok1 : Ok MX G σ (upd H a (.frz od (.dK kvs))) F { z with m := z.m.set n (.fz od kvs ps) } := ok.putO ha ⟨upd_same, hk⟩
   refine c G σ _ F _ _ hK hx ok1 ?_
   revert hh
   cases f { z with m := z.m.set n (.fz od kvs ps) } with
   | bad => exact fun hh => hh.elim
   | ex x z1 => exact fun hh => hh.elim
   | ok s z1 =>
    cases s with
    | d x =>
     intro hh v1 H1 F1 s1 ok2 ev1
     have hh : HitG MX G W σ F (RelE G σ) (if gfB (n, od, kvs, ps) z1.m = true then .ok (.d x) { z1 with m := z1.m.set n (.dK ps) } else .bad) Q := hh
     by_cases q : gfB (n, od, kvs, ps) z1.m = true
     ·rw [if_pos q] at hh
      have ha1 : F1 a = some (tag n) := s1 _ _ ha
      obtain ⟨b, hb1, hb2, hb3, hb4⟩ := ok2.ghf (gfB_of q)
      cases hb4 a ha1
      refine ⟨hb2, ?_⟩
      exact hh v1 _ F1 s1 (ok2.putO ha1 ⟨kvs, upd_same, hb3⟩) ev1
     ·rw [if_neg q] at hh
      exact hh.elim
    | _ => exact fun hh => hh.elim
  ·exact hh.elim
 ·exact hh.elim
end
end G
namespace G
open PySem L2 PySem.SeqAt
open AutoSeq1 (wpAny_loadPart')
section
variable {A : Around} {s : Shared}
end
section
variable {X : Cx}
end
section
variable {ι : Type} {M : MI} {xr : Str → Option Value} {K : PySem.W.Frag} {X : ι → Cx} {W : WX} {N : List Str} {mg : Str → Option Value}
end
end G
namespace G
open PySem L2 PySem.Spec PyProof.Rows
noncomputable def rReprT (K : PySem.W.Frag) : List V → Hp → VK → Prop := fun xs H Q => rReprE K xs H Q ∨ ∃ x, xs = [.str x] ∧ (PySem.reprText x).length ≤ sizeLine ∧ Q (.str (PySem.reprText x)) H
theorem call_reprT {X : Cx} (sb : SysB X.base) (hg : X.A.guards = some []) (hu : X.A.units + 300 < cLine) : CallR X (.builtin "repr") (rReprT X.K) := by
 intro pins s σ H xs us Q I r h
 rcases h with h | ⟨x, rfl, h1, q⟩
 ·exact call_reprE sb hg hu pins s σ H xs us Q I r h
 ·cases r with
  | cons ru rt =>
   cases rt
   obtain ⟨t, rfl⟩ := ru
   exact PySem.P.repr_of_str ⟨.str _, H, I.tok _, ⟨_, rfl⟩, q⟩ h1
noncomputable def fReprT : List D → Option R := fun as => match as with
 | [.str x] => if (PySem.reprText x).length ≤ 15000000 then some (.d (.str (PySem.reprText x))) else none
 | as => fReprE as
theorem opn_reprT {K : PySem.W.Frag} : OpN K (rReprT K) fReprT := by
 intro F H xs as Q s hp h
 unfold fReprT at h
 split at h
 ·rename_i x
  obtain ⟨v, rfl, r⟩ := p1 hp
  have e := r.str
  subst e
  by_cases hc : (PySem.reprText x).length ≤ 15000000
  ·rw [if_pos hc] at h
   exact .inr ⟨x, rfl, by rw [sizeLine_eq]; omega, h _ (.str _)⟩
  ·rw [if_neg hc] at h
   exact h.elim
 ·exact .inl (opn_reprE F H xs as Q s hp h)
noncomputable def dEqT (neg : Bool) : D → D → Option R := fun a b => match a, b with
 | .str x, .str y => some (.d (.bl (neg ^^ decide (x = y))))
 | _, _ => none
theorem op2_neT {K : PySem.W.Frag} : Op2 K rNe (dEqT true) := by
 intro F H x y a b Q s ha hb h
 unfold dEqT at h
 split at h
 ·rename_i p q
  have e1 := ha.str
  have e2 := hb.str
  subst e1 e2
  refine ⟨rfl, ?_⟩
  have := h (.bl (!decide (p = q))) (by rw [Bool.true_xor]; exact .bl _)
  rw [show decide (V.str p = V.str q) = decide (p = q) from decide_eq_decide.mpr (by simp)]
  exact this
 ·exact h.elim
section
variable {ι : Type} {P : Program} {w : World} {K : PySem.W.Frag} {mg : Str → Option Value} {base : Heap} {N : List Str} {W : WX} {n : Nat} {X : ι → Cx}
theorem fb_reprT (p : Pc P w K mg base N W n X) (sb : SysB base) : Fb K X "repr" fReprT := .fn "repr" (rReprT K) (fun j => by rw [← p.k j]; exact call_reprT (by rw [p.pb j]; exact sb) (p.gd j) (p.u j)) opn_reprT PyProof.Rows.boot_repr (by decide) (by decide)
theorem cp_neT (p : Pl K X N mg) : Cp K X .NotEq (dEqT true) := .mk _ (fun j => op_ne) op2_neT
end
end G
namespace G
open PySem L2 PySem.Spec
noncomputable def b2 (b : Bool) : Int := if b = true then (1 : Int) else 0
section
variable {K : PySem.W.Frag} {X : Cx}
end
section
variable {ι : Type} {M : MI} {xr : Str → Option Value} {K : PySem.W.Frag} {X : ι → Cx} {W : WX} {N : List Str} {mg : Str → Option Value}
end
end G
namespace G
open PySem L2 PySem.Spec PyProof.Rows
noncomputable def rReprO (K : PySem.W.Frag) : List V → Hp → VK → Prop := fun xs H Q => ∃ F a a0 rest ws ys ds, xs = [.ref a] ∧ SameX F H ∧ H a = some (.lst (.ref a0 :: rest)) ∧ H a0 = some (.lst ws) ∧ DaAll K F ws ys ∧ DaAll K F rest ds ∧ layE (.lst (.lst ys :: ds)) = true ∧ (toPyE (.lst (.lst ys :: ds))).showable = true ∧ (toPyE (.lst (.lst ys :: ds))).depth ≤ 290 ∧ (toPyE (.lst (.lst ys :: ds))).shown.length ≤ sizeLine ∧ Q (.str (toPyE (.lst (.lst ys :: ds))).shown) H
theorem no_sys {X : Cx} {pins : List (Addr × Obj)} {σ : L2.St} {H : Hp} {s : Shared} {a : Addr} {o : Obj} {xs : Array Value} {n : Nat} (I : Inv X pins σ H s) (sb : SysB X.base) (ho : s.heap.get? a = some o) (hd : o.data = .seq xs n) : sysModules ≠ a := fun e => by
 obtain ⟨o2, es, ep, e2, d2⟩ := sys_dict I sb
 rw [e, ho] at e2
 cases e2
 rw [hd] at d2
 cases d2
theorem call_reprO {X : Cx} (sb : SysB X.base) (hg : X.A.guards = some []) (hu : X.A.units + 300 < cLine) : CallR X (.builtin "repr") (rReprO X.K) := by
 intro pins s σ H xs us Q I r h
 obtain ⟨F, a, a0, rest, ws, ys, ds, rfl, sx, e1, e2, h1, h2, hl, h3, h4, h5, q⟩ := h
 cases r with
 | cons ru rt =>
  cases rt
  cases ru
  rw [layE, layEs, Bool.and_eq_true, layE] at hl
  have hr : ∃ as, Reads s.heap (.ref a) (toPyE (.lst (.lst ys :: ds))) as ∧ sysModules ∉ as := by
   obtain ⟨its, rv, ⟨o, n, ho, hc, _, hd⟩, _⟩ := I.list (SqL.of (K := X.K) e1)
   obtain ⟨its0, rv0, ⟨o0, n0, ho0, hc0, _, hd0⟩, _⟩ := I.list (SqL.of (K := X.K) e2)
   obtain ⟨as0, hr0, na0⟩ := DaAll.readsE I sb sx h1 hl.1 rv0
   cases rv with
   | cons r1 r2 =>
    cases r1
    obtain ⟨as, hr, na⟩ := DaAll.readsE I sb sx h2 hl.2 r2
    have R0 := Reads.list ho0 hc0 hd0 hr0
    refine ⟨_, by rw [toPyE, toPyEs, toPyE]; exact Reads.list ho hc hd (ReadsAll.cons R0 hr), fun m => ?_⟩
    rcases List.mem_cons.mp m with e | m
    ·exact no_sys I sb ho hd e
    ·rcases List.mem_append.mp m with m | m
     ·rcases List.mem_cons.mp m with e | m
      ·exact no_sys I sb ho0 hd0 e
      ·exact na0 m
     ·exact na m
  obtain ⟨as, rr, na⟩ := hr
  exact repr_of_reads' rr h3 (fun _ => na) hg (by omega) (fun b o e => e) (fun h' u tk hk => ⟨.str _, H, I.kept hk, ⟨u, rfl⟩, q⟩) h5
noncomputable def eReprO (f : Sm MX (List S)) (z : Z MX.T) : Rs S (Z MX.T) := (f z).bind fun ss z1 => match ss with
 | [s] => (match rd z1 s with
  | some (.lst (.o n :: ds)) => (match z1.m[n]? with
   | some (.lst ys) => if showOkE (.lst (.lst ys :: ds)) = true then .ok (.d (.str (shwE (.lst (.lst ys :: ds))))) z1 else .bad
   | _ => .bad)
  | _ => .bad)
 | _ => .bad
section
variable {ι : Type} {P : Program} {w : World} {K : PySem.W.Frag} {xr : Str → Option Value} {mg : Str → Option Value} {base : Heap} {N : List Str} {W : WX} {n : Nat} {X : ι → Cx}
theorem cmp_reprO {t : TA} {f : Sm MX (List S)} (c : Cmp MX K xr W t RelA f) : Cmp MX K xr W (tCB (rReprO K) t) RelE (eReprO f) := by
 intro G σ H F z Q hK hx ok hh
 refine c G σ H F z _ hK hx ok (hit_bind hh fun ss z1 vs H1 F1 _ sm1 ok1 e1 h1 => ?_)
 subst hK
 match ss, e1, h1 with
 | [s], e1, h1 =>
  cases e1 with
  | cons ea et =>
   cases et
   simp only at h1
   cases er : rd z1 s with
   | none => rw [er] at h1; exact h1.elim
   | some x =>
    rw [er] at h1
    match x, er, h1 with
    | .lst (.o k :: ds), er, h1 =>
     simp only at h1
     cases em : z1.m[k]? with
     | none => rw [em] at h1; exact h1.elim
     | some mo =>
      rw [em] at h1
      cases mo with
      | lst ys =>
       simp only at h1
       by_cases hs : showOkE (.lst (.lst ys :: ds)) = true
       ·rw [if_pos hs] at h1
        unfold showOkE at hs
        rw [Bool.and_eq_true, Bool.and_eq_true, Bool.and_eq_true] at hs
        obtain ⟨a, vs, rfl, hH, hda⟩ := (EO.rv ok1 ea er).lst ok1.sub
        cases hda with
        | cons hd ht =>
         obtain ⟨a0, rfl, _, ws, hw, hwd⟩ := ok1.objAt hd em
         exact ⟨F1, a, a0, _, ws, ys, ds, rfl, ok1.sub, hH, hw, hwd, ht, hs.1, hs.2.1, of_decide_eq_true hs.2.2.1, (by have q : (toPyE (.lst (.lst ys :: ds))).shown.length ≤ 15000000 := of_decide_eq_true hs.2.2.2; rw [sizeLine_eq]; omega), h1 _ H1 F1 (Same.refl _) ok1 (.str _)⟩
       ·rw [if_neg hs] at h1
        exact h1.elim
      | _ => exact h1.elim
 | [], e1, h1 => exact h1.elim
 | _ :: _ :: _, e1, h1 => exact h1.elim
theorem de_reprO {e : Expr} {es : List Expr} {h : Sm MX (List S)} {pp pos : Pos} (p : Pc P w K mg base N W n X) (sb : SysB base) (hm : mg "repr" = none) (ha : DA MX xr K X W (e :: es) h) (hg : ∀ j, Gl (X j) "repr" := by intro _; rfl)
  (he : ∀ j, starEach (e :: es) (X j).env = (false, eval e (X j).env) :: starEach es (X j).env := by intro _; rfl) (hpl : ∀ j, (backTo pos (starEach es (X j).env)).any (·.1) = false := by intro _; rfl) : DE MX xr K X W (.Call (.Name "repr" pp) (e :: es) [] pos) (eReprO h) := by
 obtain ⟨t, pa, cc⟩ := ha
 exact ⟨_, fun j => pe_callB (by have := call_reprO (X := X j) (by rw [p.pb j]; exact sb) (p.gd j) (p.u j); rw [p.k j] at this; exact this) (hg j) (by rw [p.toPl.g j]; exact hm) PyProof.Rows.boot_repr (pa j) (by decide) (by decide) (he j) (hpl j), cmp_reprO cc⟩
end
end G
namespace PySem
section
variable {prog : Program} {w : World} {A : Around} {R : Result → Shared → Prop} {I ax S : Addr} {items : List Addr} {c0 : List Value} {cs : List (List Value)}
theorem sum_loopL (hh : A.in1.handled = none) (hne : ax ≠ I) (hSI : S ≠ I) (hSa : S ≠ ax) (hsz : c0.length + cs.flatten.length ≤ sizeLine) (hlen : items.length = cs.length) :
  ∀ (k i : Nat) (s : Shared) (acc : Addr) (c na : Nat), items.length - i = k → i ≤ items.length → (s.heap.IsListIter I ax i ∧ s.heap.IsList ax (items.map Value.ref).toArray) → s.heap.get? S = some { cls := .type "list", dict := none, data := .seq #[.ref acc] c, slots := #[] } →
  (acc ≠ I ∧ acc ≠ S) → IsL s.heap acc (c0 ++ (cs.take i).flatten).toArray na → (0 < i → S < acc) → (∀ (j : Nat) (b : Addr) (c : List Value), items[j]? = some b → cs[j]? = some c → b ≠ I ∧ b ≠ S ∧ ∃ n, IsL s.heap b c.toArray n) →
  (∀ h' tk r n, (∀ b o, b ≠ I → b ≠ S → s.heap.get? b = some o → h'.get? b = some o) → IsL h' r (c0 ++ cs.flatten).toArray n → (0 < items.length → S < r) → R (.ok (.ret (.ref r))) { s with heap := h', toks := tk }) →
  codeAny (model prog w) A (.builtin "sum.loop" ⟨[.ref I, .ref S, rawInt 2, rawInt 0], []⟩) R s := by
 have W := Walks.list (prog := prog) (w := w) (A := A.in1) hh I ax hne (items.map Value.ref).toArray
 have wsz : (items.map Value.ref).toArray.size = items.length := by simp
 intro k
 induction k with
 | zero =>
  intro i s acc c na hk hi hst hS hacc hL hpos hel hR
  have hin : i = items.length := by omega
  subst hin
  refine codeAny_builtin F.entry_sum_loop ?_
  rw [Around.under_plainId F.plain_sum_loop _]
  show wpAny _ A.in1 (seqItems? (.ref S) >>= _) _ _ s
  refine wpAny_bind (wpAny_seqItems hS rfl ?_)
  show wpAny _ A.in1 (tryCatch (pyNext (.ref I)) _ >>= _) _ _ s
  refine wpAny_bind (wpAny_tryCatch (W.done s _ _ (by rw [wsz]; exact hst) fun h' tk hk' => ?_))
  refine wpAny_pure (hR h' tk acc na (fun b o hbI _ e => hk' b o (by simpa using hbI) e) ?_ hpos)
  rw [hlen, List.take_length] at hL
  exact hk' acc _ (by simpa using hacc.1) hL
 | succ k ih =>
  intro i s acc c na hk hi hst hS hacc hL hpos hel hR
  have hlt : i < items.length := by omega
  refine codeAny_builtin F.entry_sum_loop ?_
  rw [Around.under_plainId F.plain_sum_loop _]
  show wpAny _ A.in1 (seqItems? (.ref S) >>= _) _ _ s
  refine wpAny_bind (wpAny_seqItems hS rfl ?_)
  show wpAny _ A.in1 (tryCatch (pyNext (.ref I)) _ >>= _) _ _ s
  refine wpAny_bind (wpAny_tryCatch (W.item i s _ _ (by rw [wsz]; exact hlt) hst fun v h' tk hP hst' hk' => ?_))
  obtain ⟨b, hb⟩ : ∃ b, items[i]? = some b := ⟨_, List.getElem?_eq_getElem hlt⟩
  obtain ⟨cc, hc⟩ : ∃ cc, cs[i]? = some cc := ⟨_, List.getElem?_eq_getElem (by omega)⟩
  have hv : v = .ref b := by
   have : (items.map Value.ref).toArray[i]? = some v := hP
   rw [List.getElem?_toArray, List.getElem?_map, hb] at this
   cases this
   rfl
  subst hv
  obtain ⟨hbI, hbS, nb, hbL⟩ := hel i b cc hb hc
  have kk : ∀ {x o}, x ≠ I → s.heap.get? x = some o → h'.get? x = some o := fun hx e => hk' _ _ (by simpa using hx) e
  have hS' := kk hSI hS
  have hL' := kk hacc.1 hL
  have hbL' := kk hbI hbL
  have hlt' : S < h'.objs.size := Heap.lt_size hS'
  have htake : cs.take (i + 1) = cs.take i ++ [cc] := by rw [List.take_add_one, hc]; rfl
  have hcat : (c0 ++ (cs.take i).flatten).toArray ++ cc.toArray = (c0 ++ (cs.take (i + 1)).flatten).toArray := by
   rw [htake]
   simp
  have hle : (c0 ++ (cs.take (i + 1)).flatten).length ≤ sizeLine := by
   have h1 : cs.flatten = (cs.take (i + 1)).flatten ++ (cs.drop (i + 1)).flatten := by rw [← List.flatten_append, List.take_append_drop]
   rw [h1, List.length_append] at hsz
   rw [List.length_append]
   omega
  have hsum : (c0 ++ (cs.take i).flatten).toArray.size + cc.toArray.size ≤ sizeLine := by
   rw [htake] at hle
   simp only [List.flatten_append, List.flatten_cons, List.flatten_nil, List.append_nil, List.length_append] at hle
   simp only [List.size_toArray, List.length_append]
   omega
  show wpAny _ A.in1 ((holding [Value.ref b] (binaryOp .Add (.ref acc) (.ref b))).attempt >>= _) _ _ _
  refine wpAny_bind (wpAny_attempt (wpAny_holding (PySem.P.add_list hL' hbL' ?_ hsum)))
  show wpAny _ A.in1 (updateSeq S (fun _ => #[.ref h'.objs.size]) >>= _) _ _ _
  have hSp : (h'.push { cls := .type "list", data := .seq ((c0 ++ (cs.take i).flatten).toArray ++ cc.toArray) }).get? S = some { cls := .type "list", dict := none, data := .seq #[.ref acc] c, slots := #[] } := Heap.get?_push_of_some _ hS'
  refine wpAny_bind ?_
  refine wpAny_updateSeq hSp rfl ?_
  have hS2 := Heap.get?_update_self (Obj.mapSeq fun _ => #[Value.ref h'.objs.size]) hSp rfl
  refine wpAny_bind (wpAny_letGo ?_)
  refine wpAny_bind ?_
  refine wpAny_updateSeq hS2 rfl (wpAny_pure ⟨plainId_quiet F.plain_sum_loop _, ?_⟩)
  have old : ∀ {x o}, x ≠ S → h'.get? x = some o → (((h'.push { cls := .type "list", data := .seq ((c0 ++ (cs.take i).flatten).toArray ++ cc.toArray) }).update S (Obj.mapSeq fun _ => #[Value.ref h'.objs.size])).update S (Obj.mapSeq fun _ => #[Value.ref h'.objs.size])).get? x = some o := fun hx e =>
   (Heap.get?_update_other _ _ (Ne.symm hx)).trans ((Heap.get?_update_other _ _ (Ne.symm hx)).trans (Heap.get?_push_of_some _ e))
  have hI' : ∃ o, h'.get? I = some o := by obtain ⟨⟨o, e, _⟩, _⟩ := hst'; exact ⟨o, e⟩
  have hIlt : I < h'.objs.size := by obtain ⟨o, e⟩ := hI'; exact Heap.lt_size e
  refine ih (i + 1) _ h'.objs.size _ 0 (by omega) hlt ⟨hst'.1.at fun o e => old (Ne.symm hSI) e, hst'.2.at fun o e => old (Ne.symm hSa) e⟩ (Heap.get?_update_self _ hS2 rfl) ⟨Nat.ne_of_gt hIlt, Nat.ne_of_gt hlt'⟩ ?_ (fun _ => hlt') (fun j x y hx hy => ?_) (fun h'' tk'' r n hk'' hr hp => ?_)
  ·rw [← hcat]
   exact ((IsL.new h' _).update_other (Nat.ne_of_lt hlt') _).update_other (Nat.ne_of_lt hlt') _
  ·obtain ⟨g1, g2, n, g3⟩ := hel j x y hx hy
   exact ⟨g1, g2, n, old g2 (kk g1 g3)⟩
  ·exact hR h'' tk'' r n (fun x o hxI hxS e => hk'' x o hxI hxS (old hxS (kk hxI e))) hr hp
end
section
variable {prog : Program} {w : World} {A : Around} {E : Value → Shared → Prop} {s : Shared} {a st : Addr} {items : List Addr} {c0 : List Value} {cs : List (List Value)} {n0 : Nat} {Q : Value → Shared → Prop}
theorem args_sum2 (a b : Value) : argsOk "sum" ⟨[a, b], []⟩ := by unfold argsOk; kernel_rfl
theorem sum_lists (hh : A.handled = none) (hl : s.heap.IsList a (items.map Value.ref).toArray) (hst : IsL s.heap st c0.toArray n0) (hel : ∀ (j : Nat) (b : Addr) (c : List Value), items[j]? = some b → cs[j]? = some c → ∃ n, IsL s.heap b c.toArray n) (hlen : items.length = cs.length) (hne : 0 < items.length) (hsz : c0.length + cs.flatten.length ≤ sizeLine)
  (h : ∀ h' tk r n, (∀ b o, s.heap.get? b = some o → h'.get? b = some o) → s.heap.objs.size ≤ r → IsL h' r (c0 ++ cs.flatten).toArray n → Q (.ref r) { s with heap := h', toks := tk }) : wpAny (model prog w) A (call (.builtin "sum") [.ref a, .ref st]) Q E s := by
 refine call_function_tree F.kind_sum F.plain_sum F.entry_sum (args_sum2 _ _) ?_
 unfold Builtin.«sum»
 simp only [List.length_cons, List.length_nil]
 rw [if_neg (by decide)]
 have alt : a < s.heap.objs.size := by obtain ⟨_, e, _⟩ := hl; exact Heap.lt_size e
 refine wpAny_bind (wpAny_of_eq (show Builtin.Builtins.bindParams "sum" ["start"] 0 ⟨[.ref st], []⟩ = pure [some (.ref st)] from rfl) ?_)
 refine wpAny_bind (wpAny_pyIter_list hl ?_)
 have stl : (s.heap.push { cls := .type "list_iterator", data := .fields #[.ref a, .int 0 0] }).get? st = some { cls := .type "list", dict := none, data := .seq c0.toArray n0, slots := #[] } := Heap.get?_push_of_some _ hst
 have ty : ({ s with heap := s.heap.push { cls := .type "list_iterator", data := .fields #[.ref a, .int 0 0] } } : Shared).TypeIs (.ref st) "list" := ⟨_, stl, rfl⟩
 refine wpAny_bind (wpAny_pure ?_)
 simp only [List.forIn_cons, List.forIn_nil]
 refine wpAny_bind (wpAny_bind (wpAny_bind (wpAny_isInstance (T := "list") (b := false) ty F.sub_list_str ?_)))
 simp only [Bool.false_eq_true, if_false]
 refine wpAny_pure (wpAny_bind (wpAny_bind (wpAny_isInstance (T := "list") (b := false) ty F.sub_list_bytes ?_)))
 simp only [Bool.false_eq_true, if_false]
 refine wpAny_pure (wpAny_bind (wpAny_bind (wpAny_isInstance (T := "list") (b := false) ty F.sub_list_bytearray ?_)))
 simp only [Bool.false_eq_true, if_false]
 refine wpAny_pure (wpAny_pure ?_)
 refine wpAny_bind (wpAny_newObj_type ?_)
 have sz : (s.heap.push { cls := .type "list_iterator", data := .fields #[.ref a, .int 0 0] }).objs.size = s.heap.objs.size + 1 := Heap.size_push _ _
 have p2 : ∀ {x o}, s.heap.get? x = some o → ((s.heap.push { cls := .type "list_iterator", data := .fields #[.ref a, .int 0 0] }).push { cls := .type "list", dict := none, data := .seq #[.ref st] }).get? x = some o := fun e => Heap.get?_push_of_some _ (Heap.get?_push_of_some _ e)
 refine wpAny_pure ⟨plainId_quiet F.plain_sum_loop _, ?_⟩
 show codeAny (model prog w) A (.builtin "sum.loop" ⟨[.ref s.heap.objs.size, .ref (s.heap.push { cls := .type "list_iterator", data := .fields #[.ref a, .int 0 0] }).objs.size, rawInt 2, rawInt 0], []⟩) _ _
 have ne1 : (s.heap.push { cls := .type "list_iterator", data := .fields #[.ref a, .int 0 0] }).objs.size ≠ s.heap.objs.size := by rw [sz]; exact Nat.succ_ne_self _
 have stlt : st < s.heap.objs.size := Heap.lt_size hst
 refine sum_loopL hh (Nat.ne_of_lt alt) ne1 (by rw [sz]; exact Nat.ne_of_gt (Nat.lt_succ_of_lt alt)) hsz hlen items.length 0 _ st 0 n0 rfl (Nat.zero_le _) ⟨?_, ?_⟩ (Heap.get?_push_size _ rfl) ⟨Nat.ne_of_lt stlt, by rw [sz]; exact Nat.ne_of_lt (Nat.lt_succ_of_lt stlt)⟩ ?_ (fun h => absurd h (Nat.lt_irrefl 0)) (fun j b c hb hc => ?_) (fun h' tk r n hk hr hp => ?_)
 ·exact ⟨_, Heap.get?_push_of_some _ (Heap.get?_push_size _ rfl), rfl, rfl⟩
 ·exact hl.at fun o e => p2 e
 ·rw [List.take_zero, List.flatten_nil, List.append_nil]
  exact p2 hst
 ·obtain ⟨n, e⟩ := hel j b c hb hc
  have lt := Heap.lt_size e
  exact ⟨Nat.ne_of_lt lt, by rw [sz]; exact Nat.ne_of_lt (Nat.lt_succ_of_lt lt), n, p2 e⟩
 ·refine h h' tk r n (fun b o e => hk b o (Nat.ne_of_lt (Heap.lt_size e)) (by rw [sz]; exact Nat.ne_of_lt (Nat.lt_succ_of_lt (Heap.lt_size e))) (p2 e)) ?_ hr
  have := hp hne
  rw [sz] at this
  exact Nat.le_of_lt (Nat.lt_of_succ_lt this)
end
end PySem
namespace G
open PySem L2 PySem.Spec PyProof.Rows
noncomputable def rSumL : List V → Hp → VK → Prop := fun xs H Q => ∃ a st as c0 cs, xs = [.ref a, .ref st] ∧ H a = some (.lst (as.map V.ref)) ∧ H st = some (.lst c0) ∧ Paired (fun b c => H b = some (.lst c)) as cs ∧ 0 < as.length ∧ c0.length + cs.flatten.length ≤ sizeLine ∧ ∀ p, H p = none → Q (.ref p) (upd H p (.lst (c0 ++ cs.flatten)))
theorem vals_refsL : ∀ {as : List Addr} {its : List Value}, Vals (as.map V.ref) its → its = as.map Value.ref
 | [], _, h => by cases h; rfl
 | a :: r, _, h => by
  cases h with
  | cons h1 h2 =>
   cases h1
   rw [vals_refsL h2]
   rfl
theorem lists_of {X : Cx} {pins : List (Addr × Obj)} {σ : L2.St} {H : Hp} {s : Shared} (I : Inv X pins σ H s) : ∀ {as : List Addr} {cs : List (List V)}, Paired (fun b c => H b = some (.lst c)) as cs → ∃ css : List (List Value), as.length = css.length ∧ (∀ (j : Nat) (b : Addr) (c : List Value), as[j]? = some b → css[j]? = some c → ∃ n, IsL s.heap b c.toArray n) ∧ Vals cs.flatten css.flatten
 | _, _, .nil => ⟨[], rfl, fun j b c h => by simp at h, .nil⟩
 | _, _, .cons h1 h2 => by
  obtain ⟨css, q1, q2, q3⟩ := lists_of I h2
  obtain ⟨z, its, n, r, hl, e⟩ := I.lstM h1
  refine ⟨its :: css, by rw [List.length_cons, List.length_cons, q1], fun j b c hb hc => ?_, r.append q3⟩
  cases j with
  | zero =>
   rw [List.getElem?_cons_zero] at hb hc
   cases hb
   cases hc
   exact ⟨n, e⟩
  | succ j =>
   rw [List.getElem?_cons_succ] at hb hc
   exact q2 j b c hb hc
theorem vals_len : ∀ {vs : List V} {us : List Value}, Vals vs us → vs.length = us.length
 | _, _, .nil => rfl
 | _, _, .cons _ h => by rw [List.length_cons, List.length_cons, vals_len h]
theorem call_sumL {X : Cx} (hc : X.calm = true) : CallR X (.builtin "sum") rSumL := by
 intro pins s σ H xs us Q I r h
 obtain ⟨a, st, as, c0, cs, rfl, ha, hst, hp, hn, hz, q⟩ := h
 cases r with
 | cons r1 r2 =>
  cases r2 with
  | cons r2 r3 =>
   cases r3
   cases r1
   cases r2
   obtain ⟨z, its, n, ri, hl, e⟩ := I.lstM ha
   obtain ⟨z0, its0, n0, ri0, hl0, e0⟩ := I.lstM hst
   have := vals_refsL ri
   subst this
   obtain ⟨css, q1, q2, q3⟩ := lists_of I hp
   have l0 := vals_len ri0
   have l1 := vals_len q3
   refine sum_lists (I.ok.hd hc) ⟨_, e, rfl, _, rfl⟩ e0 q2 q1 hn (by omega) fun h' tk r n hk hr he => ?_
   have vv := ri0.append q3
   exact ⟨.ref r, upd H r (.lst (c0 ++ cs.flatten)), I.laid (t' := tk) hk hr ⟨by rw [List.length_append]; omega, its0 ++ css.flatten, n, vv, he⟩, rfl, q r (I.hok.fresh hr)⟩
noncomputable def lstsOf : List D → Option (List (List D))
 | [] => some []
 | .lst x :: r => (lstsOf r).map (x :: ·)
 | _ :: _ => none
noncomputable def fSumL : List D → Option R := fun as => match as with
 | [.lst xs, .lst c0] => (match lstsOf xs with
  | some cs => if 0 < xs.length ∧ c0.length + cs.flatten.length ≤ lim then some (.l (c0 ++ cs.flatten)) else none
  | none => none)
 | _ => none
theorem da_lsts {K : PySem.W.Frag} {F H : Hp} (s : SameX F H) : ∀ {vs : List V} {ds : List D} {cs : List (List D)}, DaAll K F vs ds → lstsOf ds = some cs → ∃ as wss, vs = as.map V.ref ∧ as.length = ds.length ∧ Paired (fun b c => H b = some (.lst c)) as wss ∧ DaAll K F wss.flatten cs.flatten
 | _, _, _, .nil, h => by cases h; exact ⟨[], [], rfl, rfl, .nil, .nil⟩
 | _, _, cs, .cons (ds := ds) h1 h2, h => by
  cases h1 with
  | lst q hs =>
   rw [lstsOf] at h
   cases e : lstsOf ds with
   | none => rw [e] at h; cases h
   | some ts =>
    rw [e] at h
    cases h
    obtain ⟨as, wss, rfl, l, p, d⟩ := da_lsts s h2 e
    exact ⟨_ :: as, _ :: wss, rfl, by rw [List.length_cons, List.length_cons, l], .cons (s.lst q) p, hs.append d⟩
  | _ => cases h
theorem opn_sumL {K : PySem.W.Frag} : OpN K rSumL fSumL := by
 intro F H xs as Q s hp h
 unfold fSumL at h
 split at h
 ·rename_i ds c0
  obtain ⟨x, y, rfl, r1, r2⟩ := p2 hp
  obtain ⟨a, vs, rfl, h1, h2⟩ := r1.lst s
  obtain ⟨b, ws, rfl, g1, g2⟩ := r2.lst s
  cases e : lstsOf ds with
  | none => rw [e] at h; exact h.elim
  | some cs =>
   rw [e] at h
   simp only [] at h
   obtain ⟨as, wss, rfl, l, p, d⟩ := da_lsts s h2 e
   by_cases hl : 0 < ds.length ∧ c0.length + cs.flatten.length ≤ lim
   ·rw [if_pos hl] at h
    exact ⟨a, b, as, ws, wss, rfl, h1, g1, p, by rw [l]; exact hl.1, by rw [g2.length, d.length]; exact Nat.le_trans hl.2 (Nat.le_of_lt lim_line), fun p hp => h p _ hp (g2.append d)⟩
   ·rw [if_neg hl] at h; exact h.elim
 ·exact h.elim
section
variable {ι : Type} {K : PySem.W.Frag} {X : ι → Cx} {N : List Str} {mg : Str → Option Value}
theorem fb_sumL (p : Pl K X N mg) : Fb K X "sum" fSumL := .fn "sum" rSumL (fun j => call_sumL (p.c j)) opn_sumL PyProof.Rows.boot_sum (by decide) (by decide)
end
end G
namespace L
open PySem L2 G
noncomputable def topS (i : Nat) : Stmt := PySem.Challenge.pw_groundroom_k08_what_entries_tell.main.body.getD i (.Pass ⟨0, 0, 0, 0⟩)
noncomputable abbrev s_Known___init__ : Stmt := methS (topS 1) 0
noncomputable abbrev s_Known_again : Stmt := methS (topS 1) 1
noncomputable abbrev s_Known_with_entry : Stmt := methS (topS 1) 2
noncomputable abbrev s_Known_members : Stmt := methS (topS 1) 3
noncomputable abbrev s_Known_func : Stmt := methS (topS 1) 4
noncomputable abbrev s_Known_rel : Stmt := methS (topS 1) 5
noncomputable abbrev s_Known_meaning : Stmt := methS (topS 1) 6
noncomputable abbrev s_Known_statement : Stmt := methS (topS 1) 7
noncomputable abbrev s_Known_names : Stmt := methS (topS 1) 8
noncomputable abbrev s__law_next : Stmt := topS 3
noncomputable abbrev s__law_begun : Stmt := topS 4
noncomputable abbrev s__law_names : Stmt := topS 5
noncomputable abbrev s__law_roll : Stmt := topS 6
noncomputable abbrev s__law_with : Stmt := topS 7
noncomputable abbrev s__law_term : Stmt := topS 8
noncomputable abbrev s__law_leaf : Stmt := topS 9
noncomputable abbrev s__law_statement : Stmt := topS 10
noncomputable abbrev s__law_entry : Stmt := topS 11
noncomputable abbrev s__law_all : Stmt := topS 12
noncomputable abbrev s__law_due : Stmt := topS 13
noncomputable abbrev s_law : Stmt := topS 14
inductive Fn where
  | Known___init__
  | Known_again
  | Known_with_entry
  | Known_members
  | Known_func
  | Known_rel
  | Known_meaning
  | Known_statement
  | Known_names
  | _law_next
  | _law_begun
  | _law_names
  | _law_roll
  | _law_with
  | _law_term
  | _law_leaf
  | _law_statement
  | _law_entry
  | _law_all
  | _law_due
noncomputable abbrev lawLevel : Nat := 600
noncomputable def m_Known___init__ (call : Fn → List S → (List MO) → Rs S (List MO)) : Sm MX Out :=
  (sSeq (sFldM ["Known"] "told_sorts" eNewD (eVar 0))
  (sSeq (sFldM ["Known"] "told_calls" eNewD (eVar 0))
  (sSeq (sFldM ["Known"] "told_rels" eNewD (eVar 0))
  (sSeq (sFldM ["Known"] "told_means" eNewD (eVar 0))
  (sFldM ["Known"] "told_facts" eNewD (eVar 0))))))
noncomputable def m_Known_again (call callI : Fn → List S → (List MO) → Rs S (List MO)) : Sm MX Out :=
  (sSeq (sSet 1 (eMake "Known" (callI .Known___init__) aNil))
  (sSeq (sFldM ["Known"] "told_sorts" (eDCopy (eFld ["Known"] "told_sorts" (eVar 0))) (eVar 1))
  (sSeq (sFldM ["Known"] "told_calls" (eDCopy (eFld ["Known"] "told_calls" (eVar 0))) (eVar 1))
  (sSeq (sFldM ["Known"] "told_rels" (eDCopy (eFld ["Known"] "told_rels" (eVar 0))) (eVar 1))
  (sSeq (sFldM ["Known"] "told_means" (eDCopy (eFld ["Known"] "told_means" (eVar 0))) (eVar 1))
  (sSeq (sFldM ["Known"] "told_facts" (eDCopy (eFld ["Known"] "told_facts" (eVar 0))) (eVar 1))
  (sRet (eVar 1))))))))
noncomputable def m_Known_with_entry (call : Fn → List S → (List MO) → Rs S (List MO)) : Sm MX Out :=
  (sSeq (sSet 2 (eCall (call .Known_again) (aMeth "Known" "again" (eVar 0) aNil)))
  (sSeq (sAsg (eSl dSl (eVar 1) (fun z => .ok none z) (oInt (eC (.int 2)))) (kTup 2 (ksCons (kName 3) (ksCons (kName 4) ksNil))))
  (sSeq (sIf (tOf (eBin dEq (eVar 3) (eC (.str "sort")))) (sSeq (sDPutM (eBin dIx (eVar 1) (eC (.int 2))) (eFld ["Known"] "told_sorts" (eVar 2)) (eVar 4))
  (sFor (iAnyM (eBin dIx (eVar 1) (eC (.int 2)))) (kName 5) (sDPutM (eTup (aCons (escf (eTup aNil)) (aCons (escf (eVar 4)) aNil))) (eFld ["Known"] "told_calls" (eVar 2)) (eVar 5)))) (sIf (tOf (eBin dEq (eVar 3) (eC (.str "func")))) (sDPutM (eTup (aCons (escf (eBin dIx (eVar 1) (eC (.int 2)))) (aCons (escf (eBin dIx (eVar 1) (eC (.int 3)))) aNil))) (eFld ["Known"] "told_calls" (eVar 2)) (eVar 4)) (sIf (tOf (eBin dIn (eVar 3) (eTup (aCons (escf (eC (.str "taken"))) (aCons (escf (eC (.str "shown"))) aNil))))) (sDPutM (eBin dIx (eVar 1) (eC (.int 2))) (eFld ["Known"] "told_facts" (eVar 2)) (eVar 4)) (sSeq (sDPutM (eBin dIx (eVar 1) (eC (.int 2))) (eFld ["Known"] "told_rels" (eVar 2)) (eVar 4))
  (sIf (tOf (eBin dEq (eVar 3) (eC (.str "mean")))) (sDPutM (eBin dIx (eVar 1) (eC (.int 3))) (eFld ["Known"] "told_means" (eVar 2)) (eVar 4)) sNil)))))
  (sRet (eVar 2)))))
noncomputable def m_Known_members (call : Fn → List S → (List MO) → Rs S (List MO)) : Sm MX Out :=
  (sRet (eDGet2 (eFld ["Known"] "told_sorts" (eVar 0)) (eVar 1) (eC .non)))
noncomputable def m_Known_func (call : Fn → List S → (List MO) → Rs S (List MO)) : Sm MX Out :=
  (sRet (eDGet2 (eFld ["Known"] "told_calls" (eVar 0)) (eVar 1) (eC .non)))
noncomputable def m_Known_rel (call : Fn → List S → (List MO) → Rs S (List MO)) : Sm MX Out :=
  (sRet (eDGet2 (eFld ["Known"] "told_rels" (eVar 0)) (eVar 1) (eC .non)))
noncomputable def m_Known_meaning (call : Fn → List S → (List MO) → Rs S (List MO)) : Sm MX Out :=
  (sRet (eDGet2 (eFld ["Known"] "told_means" (eVar 0)) (eVar 1) (eC .non)))
noncomputable def m_Known_statement (call : Fn → List S → (List MO) → Rs S (List MO)) : Sm MX Out :=
  (sRet (eDGet2 (eFld ["Known"] "told_facts" (eVar 0)) (eVar 1) (eC .non)))
noncomputable def m_Known_names (call : Fn → List S → (List MO) → Rs S (List MO)) : Sm MX Out :=
  (sRet (eSto (eFn fSortS (aCons (opd (eBin dAdd (eBin dAdd (eBin dAdd (eDList (eFld ["Known"] "told_sorts" (eVar 0))) (eDList (eFld ["Known"] "told_calls" (eVar 0)))) (eDList (eFld ["Known"] "told_rels" (eVar 0)))) (eDList (eFld ["Known"] "told_facts" (eVar 0))))) aNil))))
noncomputable def m__law_next (call : Fn → List S → (List MO) → Rs S (List MO)) : Sm MX Out :=
  (sSeq (sSet 2 (eDIx (eVar 0) (eC (.str "at"))))
  (sSeq (sDPutM (eBin dAdd (eVar 2) (eC (.int 1))) (eVar 0) (eC (.str "at")))
  (sSeq (sSet 3 (eDIx (eVar 0) (eC (.str "cells"))))
  (sSeq (sSet 4 (eBin dMod (eVar 2) (eFn fMax (aCons (opd (eC (.int 1))) (aCons (opd (eFn fLen (aCons (opd (eVar 3)) aNil))) aNil)))))
  (sSeq (sIf (tAndM (tOf (eBin (dEq0 true) (eVar 3) (eLst aNil))) (tOf (eBin dGt (eIxO (eDIx (eVar 0) (eC (.str "left"))) (eVar 4)) (eC (.int 0))))) (sSeq (sSet 5 (eBin dMod (eIxO (eDIx (eVar 0) (eC (.str "left"))) (eVar 4)) (eVar 1)))
  (sSeq (sLPutM (eBin dFdiv (eIxO (eDIx (eVar 0) (eC (.str "left"))) (eVar 4)) (eVar 1)) (eDIx (eVar 0) (eC (.str "left"))) (eVar 4))
  (sRet (eVar 5)))) sNil)
  (sSeq (sSet 6 (eC (.int 17)))
  (sSeq (sIf (tOf (eBin (dEq0 true) (eVar 3) (eLst aNil))) (sSet 6 (eBin dMod (eBin dIx (eVar 3) (eVar 4)) (eC (.int 2147483647)))) sNil)
  (sSeq (sSet 7 (eBin dMod (eBin dMul (eBin dMod (eBin dMul (eBin dAdd (eBin dAdd (eVar 6) (eBin dMul (eBin dMul (eC (.int 7919)) (eVar 2)) (eVar 2))) (eBin dMul (eC (.int 31)) (eVar 2))) (eC (.int 48271))) (eC (.int 2147483647))) (eC (.int 69621))) (eC (.int 2147483629))))
  (sRet (eBin dMod (eBin dFdiv (eBin dMod (eBin dMul (eBin dFdiv (eVar 7) (eC (.int 64))) (eC (.int 16807))) (eC (.int 2147483647))) (eC (.int 32))) (eVar 1)))))))))))
noncomputable def m__law_begun (call : Fn → List S → (List MO) → Rs S (List MO)) : Sm MX Out :=
  (sSeq (sSet 1 (eSl dSl (eVar 0) (fun z => .ok none z) (oInt (eC (.int 63)))))
  (sRet (eDispG [("cells", (eVar 1)), ("at", (eC (.int 0))), ("left", (eSto (eLc (iAnyM (eVar 1)) (kName 2) (fun z => .ok true z) (eBin dMul (eVar 2) (eFn fInt (aCons (opd (eBin dGe (eVar 2) (eBin dPow (eC (.int 10)) (eC (.int 18))))) aNil))) [2])))])))
noncomputable def m__law_names (call : Fn → List S → (List MO) → Rs S (List MO)) : Sm MX Out :=
  (sSeq (sSet 1 (eC (.str "abcdefghijklmnopqrstuvwxyz")))
  (sSeq (sSet 2 (eBin dAdd (eBin dIx (eVar 1) (eCall (call ._law_next) (aCons (escf (eVar 0)) (aCons (escf (eC (.int 26))) aNil)))) (eBin dIx (eLst (aCons (escf (eC (.str ""))) (aCons (escf (eBin dIx (eVar 1) (eCall (call ._law_next) (aCons (escf (eVar 0)) (aCons (escf (eC (.int 26))) aNil))))) (aCons (escf (eC (.str "ongname"))) aNil)))) (eCall (call ._law_next) (aCons (escf (eVar 0)) (aCons (escf (eC (.int 3))) aNil))))))
  (sRet (eSto (eLc (iRg1M (aCons (opd (eC (.int 40))) aNil)) (kName 3) (fun z => .ok true z) (eBin dAdd (eVar 2) (eFn fStr (aCons (opd (eBin dMod (eBin dMul (eVar 3) (eC (.int 17))) (eC (.int 40)))) aNil))) [3])))))
noncomputable def m__law_roll (call : Fn → List S → (List MO) → Rs S (List MO)) : Sm MX Out :=
  (sRet (eDispG [("sorts", eNewD), ("calls", eNewD), ("rels", eNewD), ("means", eNewD), ("facts", eNewD)]))
noncomputable def m__law_with (call : Fn → List S → (List MO) → Rs S (List MO)) : Sm MX Out :=
    (sSeq (sSet 2 (eLk 0 (eDPairs (eLcF (iKyF (eVar 0)) (kName 4) (fun z => .ok true z) (eTup (aCons (escf (eVar 4)) (aCons (escf (eDCopy (eDIxF (eVar 0) (eVar 4)))) aNil))) [4]))))
    (sSeq (sIf (tOf (eBin dEq (eBin dIx (eVar 1) (eC (.int 0))) (eC (.str "sort")))) (sSeq (sDPutM (eBin dIx (eVar 1) (eC (.int 2))) (eDIx (eVar 2) (eC (.str "sorts"))) (eBin dIx (eVar 1) (eC (.int 1))))
    (sFor (iAnyM (eBin dIx (eVar 1) (eC (.int 2)))) (kName 3) (sDPutM (eTup (aCons (escf (eTup aNil)) (aCons (escf (eBin dIx (eVar 1) (eC (.int 1)))) aNil))) (eDIx (eVar 2) (eC (.str "calls"))) (eVar 3)))) (sIf (tOf (eBin dEq (eBin dIx (eVar 1) (eC (.int 0))) (eC (.str "func")))) (sDPutM (eSl dSl (eVar 1) (oInt (eC (.int 2))) (fun z => .ok none z)) (eDIx (eVar 2) (eC (.str "calls"))) (eBin dIx (eVar 1) (eC (.int 1)))) (sIf (tOf (eBin (dInW false) (eBin dIx (eVar 1) (eC (.int 0))) (eTup (aCons (escf (eC (.str "rel"))) (aCons (escf (eC (.str "mean"))) aNil))))) (sSeq (sDPutM (eBin dIx (eVar 1) (eC (.int 2))) (eDIx (eVar 2) (eC (.str "rels"))) (eBin dIx (eVar 1) (eC (.int 1))))
    (sIf (tOf (eBin dEq (eBin dIx (eVar 1) (eC (.int 0))) (eC (.str "mean")))) (sDPutM (eBin dIx (eVar 1) (eC (.int 3))) (eDIx (eVar 2) (eC (.str "means"))) (eBin dIx (eVar 1) (eC (.int 1)))) sNil)) (sDPutM (eBin dIx (eVar 1) (eC (.int 2))) (eDIx (eVar 2) (eC (.str "facts"))) (eBin dIx (eVar 1) (eC (.int 1)))))))
    (sRet (eVar 2))))
noncomputable def m__law_term (call : Fn → List S → (List MO) → Rs S (List MO)) : Sm MX Out :=
  (sSeq (sSet 5 (eLc (iEnM (eVar 2)) (kTup 2 (ksCons (kName 10) (ksCons (kName 11) ksNil))) (tOf (eBin dEq (eVar 11) (eVar 3))) (eTup (aCons (escf (eC (.str "var"))) (aCons (escf (eVar 10)) aNil))) [10, 11]))
  (sSeq (sSet 6 (eDIx (eVar 1) (eC (.str "calls"))))
  (sSeq (sSet 5 (eBin dAdd (eVar 5) (eLc (iAnyM (eDSort (eVar 6))) (kName 8) (tOf (eBin dEq (eDIx (eVar 6) (eVar 8)) (eTup (aCons (escf (eTup aNil)) (aCons (escf (eVar 3)) aNil))))) (eTup (aCons (escf (eC (.str "call"))) (aCons (escf (eVar 8)) (aCons (escf (eTup aNil)) aNil)))) [8])))
  (sSeq (sSet 7 (eLc (iAnyM (eDSort (eVar 6))) (kName 8) (tAndM (tOf (eBin dEq (eBin dIx (eDIx (eVar 6) (eVar 8)) (eC (.int 1))) (eVar 3))) (tOf (eBin (dEq0 true) (eBin dIx (eDIx (eVar 6) (eVar 8)) (eC (.int 0))) (eTup aNil)))) (eVar 8) [8]))
  (sSeq (sIf (tAndM (tOf (eBin (dEq0 true) (eVar 7) (eLst aNil))) (tAndM (tOf (eBin dGt (eVar 4) (eC (.int 0)))) (tOrM (tOf (eBin (dEq0 false) (eVar 5) (eLst aNil))) (tOf (eBin dEq (eCall (call ._law_next) (aCons (escf (eVar 0)) (aCons (escf (eC (.int 3))) aNil))) (eC (.int 1))))))) (sSeq (sSet 8 (eBin dIx (eVar 7) (eCall (call ._law_next) (aCons (escf (eVar 0)) (aCons (escf (eFn fLen (aCons (opd (eVar 7)) aNil))) aNil)))))
  (sSeq (sSet 9 (eLc (iAnyM (eBin dIx (eDIx (eVar 6) (eVar 8)) (eC (.int 0)))) (kName 11) (fun z => .ok true z) (eCall (call ._law_term) (aCons (escf (eVar 0)) (aCons (escf (eVar 1)) (aCons (escf (eVar 2)) (aCons (escf (eVar 11)) (aCons (escf (eBin dSub (eVar 4) (eC (.int 1)))) aNil)))))) [11]))
  (sIf (tOf (eBin (dInW true) (eC .non) (eVar 9))) (sRet (eTup (aCons (escf (eC (.str "call"))) (aCons (escf (eVar 8)) (aCons (escf (eFn fTuple (aCons (opd (eVar 9)) aNil))) aNil))))) sNil))) sNil)
  (sRet (eIf (tOf (eBin (dEq0 true) (eVar 5) (eLst aNil))) (eBin dIx (eVar 5) (eCall (call ._law_next) (aCons (escf (eVar 0)) (aCons (escf (eFn fLen (aCons (opd (eVar 5)) aNil))) aNil)))) (eC .non))))))))
noncomputable def m__law_leaf (call : Fn → List S → (List MO) → Rs S (List MO)) : Sm MX Out :=
  (sSeq (sSet 3 (eCall (call ._law_next) (aCons (escf (eVar 0)) (aCons (escf (eC (.int 4))) aNil))))
  (sSeq (sSet 4 (eDSort (eDIx (eVar 1) (eC (.str "rels")))))
  (sSeq (sSet 5 (eDSort (eDIx (eVar 1) (eC (.str "sorts")))))
  (sSeq (sIf (tAndM (tOf (eBin dLt (eVar 3) (eC (.int 2)))) (tOf (eBin (dEq0 true) (eVar 4) (eLst aNil)))) (sSeq (sSet 6 (eBin dIx (eVar 4) (eCall (call ._law_next) (aCons (escf (eVar 0)) (aCons (escf (eFn fLen (aCons (opd (eVar 4)) aNil))) aNil)))))
  (sSeq (sSet 7 (eLc (iAnyM (eDIx (eDIx (eVar 1) (eC (.str "rels"))) (eVar 6))) (kName 8) (fun z => .ok true z) (eCall (call ._law_term) (aCons (escf (eVar 0)) (aCons (escf (eVar 1)) (aCons (escf (eVar 2)) (aCons (escf (eVar 8)) (aCons (escf (eC (.int 2))) aNil)))))) [8]))
  (sIf (tOf (eBin (dInW true) (eC .non) (eVar 7))) (sRet (eTup (aCons (escf (eC (.str "rel"))) (aCons (escf (eVar 6)) (aCons (escf (eFn fTuple (aCons (opd (eVar 7)) aNil))) aNil))))) sNil))) sNil)
  (sSeq (sIf (tAndM (tOf (eBin dLt (eVar 3) (eC (.int 3)))) (tOf (eBin (dEq0 true) (eVar 5) (eLst aNil)))) (sSeq (sSet 8 (eBin dIx (eVar 5) (eCall (call ._law_next) (aCons (escf (eVar 0)) (aCons (escf (eFn fLen (aCons (opd (eVar 5)) aNil))) aNil)))))
  (sSeq (sPar 9 10 (aCons (escf (eCall (call ._law_term) (aCons (escf (eVar 0)) (aCons (escf (eVar 1)) (aCons (escf (eVar 2)) (aCons (escf (eVar 8)) (aCons (escf (eC (.int 2))) aNil))))))) (aCons (escf (eCall (call ._law_term) (aCons (escf (eVar 0)) (aCons (escf (eVar 1)) (aCons (escf (eVar 2)) (aCons (escf (eVar 8)) (aCons (escf (eC (.int 1))) aNil))))))) aNil)))
  (sIf (tAndM (tOf (eBin dIsNot (eVar 9) (eC .non))) (tOf (eBin dIsNot (eVar 10) (eC .non)))) (sRet (eTup (aCons (escf (eC (.str "same"))) (aCons (escf (eVar 9)) (aCons (escf (eVar 10)) aNil))))) sNil))) sNil)
  (sRet (eTup (aCons (escf (eC (.str "no"))) aNil))))))))
noncomputable def m__law_statement (call : Fn → List S → (List MO) → Rs S (List MO)) : Sm MX Out :=
  (sSeq (sSet 4 (eCall (call ._law_next) (aCons (escf (eVar 0)) (aCons (escf (eC (.int 8))) aNil))))
  (sSeq (sIf (tOrM (tOf (eBin dLt (eVar 3) (eC (.int 1)))) (tOf (eBin dLt (eVar 4) (eC (.int 2))))) (sRet (eCall (call ._law_leaf) (aCons (escf (eVar 0)) (aCons (escf (eVar 1)) (aCons (escf (eVar 2)) aNil))))) sNil)
  (sSeq (sIf (tOf (eBin dLt (eVar 4) (eC (.int 5)))) (sSeq (sSet 5 (eCall (call ._law_statement) (aCons (escf (eVar 0)) (aCons (escf (eVar 1)) (aCons (escf (eVar 2)) (aCons (escf (eBin dSub (eVar 3) (eC (.int 1)))) aNil))))))
  (sRet (eTup (aCons (escf (eBin dIx (eLst (aCons (escf (eC (.str "and"))) (aCons (escf (eC (.str "or"))) (aCons (escf (eC (.str "if"))) aNil)))) (eBin dSub (eVar 4) (eC (.int 2))))) (aCons (escf (eVar 5)) (aCons (escf (eCall (call ._law_statement) (aCons (escf (eVar 0)) (aCons (escf (eVar 1)) (aCons (escf (eVar 2)) (aCons (escf (eBin dSub (eVar 3) (eC (.int 1)))) aNil)))))) aNil)))))) sNil)
  (sSeq (sSet 6 (eDSort (eDIx (eVar 1) (eC (.str "sorts")))))
  (sSeq (sIf (tOf (eBin (dEq0 false) (eVar 6) (eLst aNil))) (sRet (eTup (aCons (escf (eC (.str "no"))) aNil))) sNil)
  (sSeq (sSet 7 (eBin dIx (eVar 6) (eCall (call ._law_next) (aCons (escf (eVar 0)) (aCons (escf (eFn fLen (aCons (opd (eVar 6)) aNil))) aNil)))))
  (sRet (eTup (aCons (escf (eBin dIx (eLst (aCons (escf (eC (.str "all"))) (aCons (escf (eC (.str "some"))) (aCons (escf (eC (.str "all"))) aNil)))) (eBin dSub (eVar 4) (eC (.int 5))))) (aCons (escf (eVar 7)) (aCons (escf (eCall (call ._law_statement) (aCons (escf (eVar 0)) (aCons (escf (eVar 1)) (aCons (escf (eBin dAdd (eTup (aCons (escf (eVar 7)) aNil)) (eVar 2))) (aCons (escf (eBin dSub (eVar 3) (eC (.int 1)))) aNil)))))) aNil)))))))))))
noncomputable def m__law_entry (call : Fn → List S → (List MO) → Rs S (List MO)) : Sm MX Out :=
  (sSeq (sSet 3 (eDSort (eDIx (eVar 1) (eC (.str "sorts")))))
  (sSeq (sSet 4 (eBin dMul (eCall (call ._law_next) (aCons (escf (eVar 0)) (aCons (escf (eC (.int 7))) aNil))) (eFn fInt (aCons (opd (eBin (dEq0 true) (eVar 3) (eLst aNil))) aNil))))
  (sSeq (sSet 5 (ePopI (eVar 2) (eCall (call ._law_next) (aCons (escf (eVar 0)) (aCons (escf (eC (.int 2))) aNil)))))
  (sSeq (sIf (tOf (eBin dEq (eVar 4) (eC (.int 0)))) (sRet (eTup (aCons (escf (eC (.str "sort"))) (aCons (escf (eVar 5)) (aCons (escf (eFn fTuple (aCons (opd (eLc (iRg1M (aCons (opd (eBin dIx (eLst (aCons (escf (eC (.int 0))) (aCons (escf (eC (.int 0))) (aCons (escf (eC (.int 2))) (aCons (escf (eC (.int 1))) (aCons (escf (eC (.int 4))) (aCons (escf (eC (.int 3))) aNil))))))) (eCall (call ._law_next) (aCons (escf (eVar 0)) (aCons (escf (eC (.int 6))) aNil))))) aNil)) (kName 7) (fun z => .ok true z) (ePopI (eVar 2) (eC (.int 0))) [7])) aNil))) aNil))))) sNil)
  (sSeq (sSet 6 (eFn fTuple (aCons (opd (eLc (iRg1M (aCons (opd (eCall (call ._law_next) (aCons (escf (eVar 0)) (aCons (escf (eC (.int 4))) aNil)))) aNil)) (kName 7) (fun z => .ok true z) (eBin dIx (eVar 3) (eCall (call ._law_next) (aCons (escf (eVar 0)) (aCons (escf (eFn fLen (aCons (opd (eVar 3)) aNil))) aNil)))) [7])) aNil)))
  (sSeq (sIf (tOf (eBin dLt (eVar 4) (eC (.int 3)))) (sRet (eTup (aCons (escf (eC (.str "func"))) (aCons (escf (eVar 5)) (aCons (escf (eBin dIx (eLst (aCons (escf (eTup aNil)) (aCons (escf (eVar 6)) aNil))) (eCall (call ._law_next) (aCons (escf (eVar 0)) (aCons (escf (eC (.int 2))) aNil))))) (aCons (escf (eBin dIx (eVar 3) (eCall (call ._law_next) (aCons (escf (eVar 0)) (aCons (escf (eFn fLen (aCons (opd (eVar 3)) aNil))) aNil))))) aNil)))))) sNil)
  (sSeq (sIf (tOf (eBin dEq (eVar 4) (eC (.int 3)))) (sRet (eTup (aCons (escf (eC (.str "rel"))) (aCons (escf (eVar 5)) (aCons (escf (eVar 6)) aNil))))) sNil)
  (sSeq (sIf (tOf (eBin dEq (eVar 4) (eC (.int 4)))) (sRet (eTup (aCons (escf (eC (.str "mean"))) (aCons (escf (eVar 5)) (aCons (escf (eVar 6)) (aCons (escf (eCall (call ._law_statement) (aCons (escf (eVar 0)) (aCons (escf (eVar 1)) (aCons (escf (eUn dRev (eVar 6))) (aCons (escf (eC (.int 2))) aNil)))))) aNil)))))) sNil)
  (sRet (eTup (aCons (escf (eC (.str "taken"))) (aCons (escf (eVar 5)) (aCons (escf (eCall (call ._law_statement) (aCons (escf (eVar 0)) (aCons (escf (eVar 1)) (aCons (escf (eTup aNil)) (aCons (escf (eC (.int 3))) aNil)))))) aNil)))))))))))))
noncomputable def m__law_all (call : Fn → List S → (List MO) → Rs S (List MO)) : Sm MX Out :=
  (sSeq (sSet 2 (eLst (aCons (escf (eCall (call .Known_names) (aMeth "Known" "names" (eVar 0) aNil))) aNil)))
  (sSeq (sFor (iAnyM (eVar 1)) (kName 3) (sSeq (sSet 4 (eLst (aCons (escf (eCall (call .Known_members) (aMeth "Known" "members" (eVar 0) (aCons (escf (eVar 3)) aNil)))) (aCons (escf (eCall (call .Known_func) (aMeth "Known" "func" (eVar 0) (aCons (escf (eVar 3)) aNil)))) (aCons (escf (eCall (call .Known_rel) (aMeth "Known" "rel" (eVar 0) (aCons (escf (eVar 3)) aNil)))) (aCons (escf (eCall (call .Known_meaning) (aMeth "Known" "meaning" (eVar 0) (aCons (escf (eVar 3)) aNil)))) aNil))))))
  (sExpr (eApp 2 (eBin dAdd (eVar 4) (eLst (aCons (escf (eCall (call .Known_statement) (aMeth "Known" "statement" (eVar 0) (aCons (escf (eVar 3)) aNil)))) aNil)))))))
  (sRet (eVar 2))))
noncomputable def m__law_due (call : Fn → List S → (List MO) → Rs S (List MO)) : Sm MX Out :=
  (sSeq (sSet 2 (eLst (aCons (escf (eC (.str "sorts"))) (aCons (escf (eC (.str "calls"))) (aCons (escf (eC (.str "rels"))) (aCons (escf (eC (.str "means"))) (aCons (escf (eC (.str "facts"))) aNil)))))))
  (sSeq (sSet 3 (eLst (aCons (escf (eFn fSortS (aCons (opd (eFn fSumL (aCons (opd (eLc (iAnyM (eVar 2)) (kName 5) (tOf (eBin dNe (eVar 5) (eC (.str "means")))) (eDList (eDIx (eVar 0) (eVar 5))) [5])) (aCons (opd (eLst aNil)) aNil)))) aNil))) aNil)))
  (sSeq (sFor (iAnyM (eVar 1)) (kName 4) (sExpr (eApp 3 (eLc (iAnyM (eVar 2)) (kName 5) (fun z => .ok true z) (eDGet1 (eDIx (eVar 0) (eVar 5)) (eVar 4)) [5]))))
  (sRet (eVar 3)))))
noncomputable def m_law (call callI : Fn → List S → (List MO) → Rs S (List MO)) : Sm MX Out :=
    (sSeq (sSet 1 (eCall (call ._law_begun) (aCons (escf (eVar 0)) aNil)))
    (sSeq (sSet 2 (eCall (call ._law_names) (aCons (escf (eVar 1)) aNil)))
    (sSeq (sSet 3 (eBin dAdd (eFnO fList (aCons (opd (eVar 2)) aNil)) (eLst (aCons (escf (eC (.str "zzz"))) (aCons (escf (eC (.str "take"))) aNil)))))
    (sSeq (sSet 4 (eLst (aCons (escf (eCall (call ._law_roll) aNil)) aNil)))
    (sSeq (sSet 5 (eLst (aCons (escf (eMake "Known" (callI .Known___init__) aNil)) aNil)))
    (sSeq (sFor (iRg1M (aCons (opd (eFn fMax (aCons (opd (eBin dAdd (eC (.int 1)) (eCall (call ._law_next) (aCons (escf (eVar 1)) (aCons (escf (eC (.int 14))) aNil))))) (aCons (opd (eFn fMin (aCons (opd (eC (.int 14))) (aCons (opd (eFn fLen (aCons (opd (eVar 0)) aNil))) aNil)))) aNil)))) aNil)) (kName 6) (sSeq (sSet 7 (eCall (call ._law_entry) (aCons (escf (eVar 1)) (aCons (escf (eBin dIx (eVar 4) (eUn dNeg (eC (.int 1))))) (aCons (escf (eVar 2)) aNil)))))
    (sSeq (sExpr (eApp 4 (eCall (call ._law_with) (aCons (escf (eBin dIx (eVar 4) (eUn dNeg (eC (.int 1))))) (aCons (escf (eVar 7)) aNil)))))
    (sSeq (sExpr (eApp 5 (eCall (call .Known_with_entry) (aMeth "Known" "with_entry" (eBin dIx (eVar 5) (eUn dNeg (eC (.int 1)))) (aCons (escf (eVar 7)) aNil)))))
    (sIf (tOf (eBin dLt (eFnO fLen (aCons (opd (eVar 2)) aNil)) (eC (.int 8)))) (fun z => .ok .bk z) sNil)))))
    (sSeq (sFor (iZipM (aCons (escf (eVar 5)) (aCons (escf (eVar 4)) aNil))) (kTup 2 (ksCons (kName 8) (ksCons (kName 9) ksNil))) (sFor (iRg1M (aCons (opd (eC (.int 2))) aNil)) (kName 10) (sSeq (sSet 11 (eCall (call ._law_all) (aCons (escf (eVar 8)) (aCons (escf (eVar 3)) aNil))))
    (sSeq (sIf (tOf (eBin (dEqT true) (eReprO (aCons (opd (eVar 11)) aNil)) (eFn fReprT (aCons (opd (eCall (call ._law_due) (aCons (escf (eVar 9)) (aCons (escf (eVar 3)) aNil)))) aNil)))) (sRet (eC (.bl false))) sNil)
    (sExpr (eAppO (eBin dIx (eVar 11) (eC (.int 0))) (eC (.str "more"))))))))
    (sRet (eC (.bl true))))))))))
noncomputable def stepM (call callI : Fn → List S → (List MO) → Rs S (List MO)) : Fn → List S → (List MO) → Rs S (List MO)
  | .Known___init__ => fnM 1 (m_Known___init__ call)
  | .Known_again => fnM 2 (m_Known_again call callI)
  | .Known_with_entry => fnM 6 (m_Known_with_entry call)
  | .Known_members => fnM 2 (m_Known_members call)
  | .Known_func => fnM 2 (m_Known_func call)
  | .Known_rel => fnM 2 (m_Known_rel call)
  | .Known_meaning => fnM 2 (m_Known_meaning call)
  | .Known_statement => fnM 2 (m_Known_statement call)
  | .Known_names => fnM 1 (m_Known_names call)
  | ._law_next => fnM 8 (m__law_next call)
  | ._law_begun => fnM 3 (m__law_begun call)
  | ._law_names => fnM 4 (m__law_names call)
  | ._law_roll => fnM 0 (m__law_roll call)
  | ._law_with => fnM 5 (m__law_with call)
  | ._law_term => fnM 12 (m__law_term call)
  | ._law_leaf => fnM 11 (m__law_leaf call)
  | ._law_statement => fnM 8 (m__law_statement call)
  | ._law_entry => fnM 8 (m__law_entry call)
  | ._law_all => fnM 5 (m__law_all call)
  | ._law_due => fnM 6 (m__law_due call)
noncomputable def mirP : Nat → (Fn → List S → (List MO) → Rs S (List MO)) × (Fn → List S → (List MO) → Rs S (List MO))
  | 0 => (fun _ _ _ => .bad, fun _ _ _ => .bad)
  | n + 1 => (stepM (mirP n).1 (mirP n).2, (mirP n).1)
noncomputable def mir (n : Nat) : Fn → List S → (List MO) → Rs S (List MO) := (mirP n).1
noncomputable def mirI (n : Nat) : Fn → List S → (List MO) → Rs S (List MO) := (mirP n).2
theorem itT (xs : List D) : dIsiN "tuple" (.tup xs) = some (.d (.bl true)) := by kernel_rfl
theorem itL (xs : List D) : dIsiN "tuple" (.lst xs) = some (.d (.bl false)) := by kernel_rfl
theorem itS (x : Str) : dIsiN "tuple" (.str x) = some (.d (.bl false)) := by kernel_rfl
theorem itI (x : Int) : dIsiN "tuple" (.int x) = some (.d (.bl false)) := by kernel_rfl
theorem itB (x : Bool) : dIsiN "tuple" (.bl x) = some (.d (.bl false)) := by kernel_rfl
theorem itN  : dIsiN "tuple" .non = some (.d (.bl false)) := by kernel_rfl
theorem itE  : dIsiN "tuple" .emp = some (.d (.bl false)) := by kernel_rfl
theorem isT (xs : List D) : dIsiN "str" (.tup xs) = some (.d (.bl false)) := by kernel_rfl
theorem isL (xs : List D) : dIsiN "str" (.lst xs) = some (.d (.bl false)) := by kernel_rfl
theorem isS (x : Str) : dIsiN "str" (.str x) = some (.d (.bl true)) := by kernel_rfl
theorem isI (x : Int) : dIsiN "str" (.int x) = some (.d (.bl false)) := by kernel_rfl
theorem isB (x : Bool) : dIsiN "str" (.bl x) = some (.d (.bl false)) := by kernel_rfl
theorem isN  : dIsiN "str" .non = some (.d (.bl false)) := by kernel_rfl
theorem isE  : dIsiN "str" .emp = some (.d (.bl false)) := by kernel_rfl
theorem iiT (xs : List D) : dIsiN "int" (.tup xs) = some (.d (.bl false)) := by kernel_rfl
theorem iiL (xs : List D) : dIsiN "int" (.lst xs) = some (.d (.bl false)) := by kernel_rfl
theorem iiS (x : Str) : dIsiN "int" (.str x) = some (.d (.bl false)) := by kernel_rfl
theorem iiI (x : Int) : dIsiN "int" (.int x) = some (.d (.bl true)) := by kernel_rfl
theorem iiB (x : Bool) : dIsiN "int" (.bl x) = some (.d (.bl true)) := by kernel_rfl
theorem iiN  : dIsiN "int" .non = some (.d (.bl false)) := by kernel_rfl
theorem iiE  : dIsiN "int" .emp = some (.d (.bl false)) := by kernel_rfl
theorem ibT (xs : List D) : dIsiN "bool" (.tup xs) = some (.d (.bl false)) := by kernel_rfl
theorem ibL (xs : List D) : dIsiN "bool" (.lst xs) = some (.d (.bl false)) := by kernel_rfl
theorem ibS (x : Str) : dIsiN "bool" (.str x) = some (.d (.bl false)) := by kernel_rfl
theorem ibI (x : Int) : dIsiN "bool" (.int x) = some (.d (.bl false)) := by kernel_rfl
theorem ibB (x : Bool) : dIsiN "bool" (.bl x) = some (.d (.bl true)) := by kernel_rfl
theorem ibN  : dIsiN "bool" .non = some (.d (.bl false)) := by kernel_rfl
theorem ibE  : dIsiN "bool" .emp = some (.d (.bl false)) := by kernel_rfl
theorem sT (xs : List D) : dIs (.tup xs) .non = some (.d (.bl false)) := rfl
theorem tT (xs : List D) : dIsNot (.tup xs) .non = some (.d (.bl true)) := rfl
theorem sL (xs : List D) : dIs (.lst xs) .non = some (.d (.bl false)) := rfl
theorem tL (xs : List D) : dIsNot (.lst xs) .non = some (.d (.bl true)) := rfl
theorem sS (x : Str) : dIs (.str x) .non = some (.d (.bl false)) := rfl
theorem tS (x : Str) : dIsNot (.str x) .non = some (.d (.bl true)) := rfl
theorem sI (x : Int) : dIs (.int x) .non = some (.d (.bl false)) := rfl
theorem tI (x : Int) : dIsNot (.int x) .non = some (.d (.bl true)) := rfl
theorem sB (x : Bool) : dIs (.bl x) .non = some (.d (.bl false)) := rfl
theorem tB (x : Bool) : dIsNot (.bl x) .non = some (.d (.bl true)) := rfl
theorem sN : dIs .non .non = some (.d (.bl true)) := rfl
theorem tN : dIsNot .non .non = some (.d (.bl false)) := rfl
theorem sE  : dIs .emp .non = some (.d (.bl false)) := rfl
theorem tE  : dIsNot .emp .non = some (.d (.bl true)) := rfl
theorem ix0 (x : D) (xs : List D) : dIx (.tup (x :: xs)) (.int 0) = some (.d x) := by
 show (atI (x :: xs) 0).map R.d = _
 rw [atI0]; rfl
theorem ix1 (x y : D) (xs : List D) : dIx (.tup (x :: y :: xs)) (.int 1) = some (.d y) := by
 show (atI (x :: y :: xs) 1).map R.d = _
 rw [atI1]; rfl
theorem ix2 (x y w : D) (xs : List D) : dIx (.tup (x :: y :: w :: xs)) (.int 2) = some (.d w) := by
 show (atI (x :: y :: w :: xs) 2).map R.d = _
 rw [atI2]; rfl
theorem lenT (xs : List D) : fLen [.tup xs] = some (.d (.int (xs.length : Nat))) := rfl
theorem lenL (xs : List D) : fLen [.lst xs] = some (.d (.int (xs.length : Nat))) := rfl
noncomputable def fnR (X : Rs Out (Z (List MO))) : Rs S (List MO) := match X with
 | .ok (.rt s) z => .ok s z.m
 | .ok .nx z => .ok (.d .non) z.m
 | .ok _ _ => .bad
 | .ex x z => .ex x z.m
 | .bad => .bad
theorem fnM_R (n : Nat) (b : Sm MX Out) (args : List S) (m : List MO) : fnM n b args m = fnR (b ⟨args.map some ++ List.replicate (n - args.length) none, m⟩) := by
 unfold fnM
 generalize b _ = Y
 cases Y with
 | ok o z => cases o <;> rfl
 | ex _ _ => rfl
 | bad => rfl
theorem okS_lit (s : String) : okS (Str.ofString s) := by
 intro c hc
 have e : (Str.ofString s).cps.toList = s.toList.map Char.toNat := by
  show (cpsOfBytes 0 0 s.toByteArray.data.toList).toArray.toList = _
  rw [List.toList_toArray, cpsOfBytes_string]
 rw [e] at hc
 obtain ⟨d, _, rfl⟩ := List.mem_map.mp hc
 have h := d.valid
 have e2 : d.toNat = d.val.toNat := rfl
 rw [e2]
 rcases h with h | ⟨_, h⟩
 ·have : d.val.toNat < 0xd800 := h
  omega
 ·exact h
theorem okS_to {x : Str} (h : okS x) : PyData.strOk x = true := by
 unfold PyData.strOk
 rw [Array.all_eq_true_iff_forall_mem]
 intro c hc
 have := h c (by simpa using hc)
 simpa using this
theorem sok (s : String) : PyData.strOk (Str.ofString s) = true := okS_to (okS_lit s)
theorem eq_ss {a b : Str} (ha : PyData.strOk a = true) (hb : PyData.strOk b = true) : dEq (.str a) (.str b) = some (.d (.bl (a == b))) := by
 have h1 : lay (.str a) = true := by rw [lay]; exact ha
 have h2 : lay (.str b) = true := by rw [lay]; exact hb
 have ok : eqOk (.str a) (.str b) = true := by
  unfold eqOk
  rw [h1, h2, Bool.true_and, Bool.true_and]
  have h3 : dep (.str a) = 0 := by simp [dep]
  exact decide_eq_true (by rw [h3]; omega)
 unfold dEq
 rw [if_pos ok, eqD_str]
mutual
noncomputable def okD : D → Bool
 | .str x => PyData.strOk x
 | .tup xs => okDs xs
 | .lst xs => okDs xs
 | .scr _ => false
 | .exc _ _ => false
 | .o _ => false
 | _ => true
noncomputable def okDs : List D → Bool
 | [] => true
 | x :: r => okD x && okDs r
end
structure Sg where
  so : Str → Bool
  ca : Str → Option (List Str × Str)
  re : Str → Option (List Str)
local macro_rules | `(tactic| walk_at "z") => `(tactic| try simp only [sSeq, sKk_nx, sKk_rt, sKk_bk, sKk_ct, sSet, sExpr, sRet, sIf, kIf, sAsg, una, escf, escS, opd, eVar, eC, eBin, kB, eUn, eFn, eCall, eTup, eLst, aCons, kA, aNil, fin, rd, rds, R.toS, dsOf, Rs.bind_ok, Rs.bind_bad, Rs.bind_ex, Rs.opt_some, Option.bind_some, Option.map_some, ownAt, eExt, eApp, ePop, List.getElem?_cons_zero, List.getElem?_cons_succ, List.set_cons_zero, List.set_cons_succ, okArg, List.all_cons, List.all_nil, Bool.and_self, if_true, kName, _root_.G.kTup, ksCons, ksNil, fMax, tOf, List.length_cons, List.length_nil, Bool.not_false, Bool.not_true, if_false, Bool.false_eq_true, lm0, lm1, lm2, lm3, lm4, lm5, lm6, lm7, lm8, lm9, lm10, lm11, lm12, fnM, List.map_cons, List.map_nil, List.replicate, List.cons_append, List.nil_append, Nat.reduceAdd, Nat.reduceSub, sNil, tAndM, tOrM, tNotM, tTru, dTru, eIf, kE, dSub_i, dAdd_i, dLt_i, dLe_i, dGt_i, dGe_i, dEq_i, decide_true, decide_false, eChain, eAndM, eSl, oInt, dNeg, fInt, aDef, fTuple, eNotM, eOrM, sPar, Bool.true_and, Bool.false_and, itT, itL, itS, itI, itB, itN, itE, isT, isL, isS, isI, isB, isN, isE, iiT, iiL, iiS, iiI, iiB, iiN, iiE, ibT, ibL, ibS, ibI, ibB, ibN, ibE, sT, tT, sL, tL, sS, tS, sI, tI, sB, tB, sN, tN, sE, tE, ix0, ix1, ix2, lenT, lenL])
noncomputable abbrev arD (ar : List Str) : D := .tup (ar.map D.str)
noncomputable def sgD (p : List Str × Str) : D := .tup [.tup (p.1.map D.str), .str p.2]
structure KnF (σ : Sg) (m : List MO) (k : Nat) (c : Fn → List S → List MO → Rs S (List MO)) : Prop where
  ins : ∃ fs : List (Str × D), (∀ rho : List (Option S), insAt ⟨rho, m⟩ (.d (.o k)) = some (k, ("Known" : Str), fs)) ∧ fs.lookup ("func" : Str) = none ∧ fs.lookup ("rel" : Str) = none ∧ fs.lookup ("members" : Str) = none
  fu : ∀ f, c .Known_func [.d (.o k), .d (.str f)] m = .ok (.d (((σ.ca f).map sgD).getD .non)) m
  re : ∀ r, c .Known_rel [.d (.o k), .d (.str r)] m = .ok (.d (((σ.re r).map arD).getD .non)) m
  so : ∀ s, ∃ d, c .Known_members [.d (.o k), .d (.str s)] m = .ok (.d d) m ∧ dIs d .non = some (.d (.bl (!σ.so s)))
section
variable {c : Fn → List S → List MO → Rs S (List MO)} {m : List MO} {k : Nat} {σ : Sg}
end
section
variable {c : Fn → List S → List MO → Rs S (List MO)} {m : List MO} {k : Nat} {σ : Sg}
structure SgOk (σ : Sg) : Prop where
  ca : ∀ f p, σ.ca f = some p → p.1.length ≤ 100 ∧ PyData.strOk p.2 = true ∧ ∀ s ∈ p.1, PyData.strOk s = true
  re : ∀ f p, σ.re f = some p → p.length ≤ 100 ∧ ∀ s ∈ p, PyData.strOk s = true
end
theorem add_tt (a b : List D) (h : a.length + b.length ≤ 1000000) : dAdd (.tup a) (.tup b) = some (.t (a ++ b)) := by
 unfold dAdd
 exact if_pos h
section
variable {c : Fn → List S → List MO → Rs S (List MO)} {m : List MO} {k : Nat} {σ : Sg}
end
theorem memK : ((Str.ofString "Known") ∈ [Str.ofString "Known"]) := List.mem_singleton.mpr rfl
theorem gA0 {α : Type} (G : List α) (x : α) (r : List α) : (G ++ x :: r)[G.length]? = some x := by
 rw [List.getElem?_append_right (Nat.le_refl _), Nat.sub_self]
 rfl
theorem gAk {α : Type} (G r : List α) (k : Nat) : (G ++ r)[G.length + k]? = r[k]? := by
 rw [List.getElem?_append_right (Nat.le_add_right _ _), Nat.add_sub_cancel_left]
theorem gP {α : Type} {G : List α} {n : Nat} {x : α} (h : G[n]? = some x) {r : List α} : (G ++ r)[n]? = some x := by
 rw [List.getElem?_append_left (List.getElem?_eq_some_iff.mp h).1]
 exact h
theorem sA0 {α : Type} (G : List α) (x y : α) (r : List α) : (G ++ x :: r).set G.length y = G ++ y :: r := by
 rw [List.set_append_right _ _ (Nat.le_refl _), Nat.sub_self]
 rfl
theorem sAk {α : Type} (G r : List α) (y : α) (k : Nat) : (G ++ r).set (G.length + k) y = G ++ r.set k y := by
 rw [List.set_append_right _ _ (Nat.le_add_right _ _), Nat.add_sub_cancel_left]
theorem lA {α : Type} (G r : List α) : (G ++ r).length = G.length + r.length := List.length_append
theorem pI0 (d : D) : putFD (Str.ofString "told_sorts") d [] = [((Str.ofString "told_sorts"), d)] := by kernel_rfl
theorem pF0 (a0 a1 a2 a3 a4 d : D) : putFD (Str.ofString "told_sorts") d [((Str.ofString "told_sorts"), a0), ((Str.ofString "told_calls"), a1), ((Str.ofString "told_rels"), a2), ((Str.ofString "told_means"), a3), ((Str.ofString "told_facts"), a4)] = [((Str.ofString "told_sorts"), d), ((Str.ofString "told_calls"), a1), ((Str.ofString "told_rels"), a2), ((Str.ofString "told_means"), a3), ((Str.ofString "told_facts"), a4)] := by kernel_rfl
theorem lF0 (a0 a1 a2 a3 a4 : D) : List.lookup (Str.ofString "told_sorts") [((Str.ofString "told_sorts"), a0), ((Str.ofString "told_calls"), a1), ((Str.ofString "told_rels"), a2), ((Str.ofString "told_means"), a3), ((Str.ofString "told_facts"), a4)] = some a0 := by kernel_rfl
theorem pI1 (a0 d : D) : putFD (Str.ofString "told_calls") d [((Str.ofString "told_sorts"), a0)] = [((Str.ofString "told_sorts"), a0), ((Str.ofString "told_calls"), d)] := by kernel_rfl
theorem pF1 (a0 a1 a2 a3 a4 d : D) : putFD (Str.ofString "told_calls") d [((Str.ofString "told_sorts"), a0), ((Str.ofString "told_calls"), a1), ((Str.ofString "told_rels"), a2), ((Str.ofString "told_means"), a3), ((Str.ofString "told_facts"), a4)] = [((Str.ofString "told_sorts"), a0), ((Str.ofString "told_calls"), d), ((Str.ofString "told_rels"), a2), ((Str.ofString "told_means"), a3), ((Str.ofString "told_facts"), a4)] := by kernel_rfl
theorem lF1 (a0 a1 a2 a3 a4 : D) : List.lookup (Str.ofString "told_calls") [((Str.ofString "told_sorts"), a0), ((Str.ofString "told_calls"), a1), ((Str.ofString "told_rels"), a2), ((Str.ofString "told_means"), a3), ((Str.ofString "told_facts"), a4)] = some a1 := by kernel_rfl
theorem pI2 (a0 a1 d : D) : putFD (Str.ofString "told_rels") d [((Str.ofString "told_sorts"), a0), ((Str.ofString "told_calls"), a1)] = [((Str.ofString "told_sorts"), a0), ((Str.ofString "told_calls"), a1), ((Str.ofString "told_rels"), d)] := by kernel_rfl
theorem pF2 (a0 a1 a2 a3 a4 d : D) : putFD (Str.ofString "told_rels") d [((Str.ofString "told_sorts"), a0), ((Str.ofString "told_calls"), a1), ((Str.ofString "told_rels"), a2), ((Str.ofString "told_means"), a3), ((Str.ofString "told_facts"), a4)] = [((Str.ofString "told_sorts"), a0), ((Str.ofString "told_calls"), a1), ((Str.ofString "told_rels"), d), ((Str.ofString "told_means"), a3), ((Str.ofString "told_facts"), a4)] := by kernel_rfl
theorem lF2 (a0 a1 a2 a3 a4 : D) : List.lookup (Str.ofString "told_rels") [((Str.ofString "told_sorts"), a0), ((Str.ofString "told_calls"), a1), ((Str.ofString "told_rels"), a2), ((Str.ofString "told_means"), a3), ((Str.ofString "told_facts"), a4)] = some a2 := by kernel_rfl
theorem pI3 (a0 a1 a2 d : D) : putFD (Str.ofString "told_means") d [((Str.ofString "told_sorts"), a0), ((Str.ofString "told_calls"), a1), ((Str.ofString "told_rels"), a2)] = [((Str.ofString "told_sorts"), a0), ((Str.ofString "told_calls"), a1), ((Str.ofString "told_rels"), a2), ((Str.ofString "told_means"), d)] := by kernel_rfl
theorem pF3 (a0 a1 a2 a3 a4 d : D) : putFD (Str.ofString "told_means") d [((Str.ofString "told_sorts"), a0), ((Str.ofString "told_calls"), a1), ((Str.ofString "told_rels"), a2), ((Str.ofString "told_means"), a3), ((Str.ofString "told_facts"), a4)] = [((Str.ofString "told_sorts"), a0), ((Str.ofString "told_calls"), a1), ((Str.ofString "told_rels"), a2), ((Str.ofString "told_means"), d), ((Str.ofString "told_facts"), a4)] := by kernel_rfl
theorem lF3 (a0 a1 a2 a3 a4 : D) : List.lookup (Str.ofString "told_means") [((Str.ofString "told_sorts"), a0), ((Str.ofString "told_calls"), a1), ((Str.ofString "told_rels"), a2), ((Str.ofString "told_means"), a3), ((Str.ofString "told_facts"), a4)] = some a3 := by kernel_rfl
theorem pI4 (a0 a1 a2 a3 d : D) : putFD (Str.ofString "told_facts") d [((Str.ofString "told_sorts"), a0), ((Str.ofString "told_calls"), a1), ((Str.ofString "told_rels"), a2), ((Str.ofString "told_means"), a3)] = [((Str.ofString "told_sorts"), a0), ((Str.ofString "told_calls"), a1), ((Str.ofString "told_rels"), a2), ((Str.ofString "told_means"), a3), ((Str.ofString "told_facts"), d)] := by kernel_rfl
theorem pF4 (a0 a1 a2 a3 a4 d : D) : putFD (Str.ofString "told_facts") d [((Str.ofString "told_sorts"), a0), ((Str.ofString "told_calls"), a1), ((Str.ofString "told_rels"), a2), ((Str.ofString "told_means"), a3), ((Str.ofString "told_facts"), a4)] = [((Str.ofString "told_sorts"), a0), ((Str.ofString "told_calls"), a1), ((Str.ofString "told_rels"), a2), ((Str.ofString "told_means"), a3), ((Str.ofString "told_facts"), d)] := by kernel_rfl
theorem lF4 (a0 a1 a2 a3 a4 : D) : List.lookup (Str.ofString "told_facts") [((Str.ofString "told_sorts"), a0), ((Str.ofString "told_calls"), a1), ((Str.ofString "told_rels"), a2), ((Str.ofString "told_means"), a3), ((Str.ofString "told_facts"), a4)] = some a4 := by kernel_rfl
theorem lM_meaning (a0 a1 a2 a3 a4 : D) : List.lookup (Str.ofString "meaning") [((Str.ofString "told_sorts"), a0), ((Str.ofString "told_calls"), a1), ((Str.ofString "told_rels"), a2), ((Str.ofString "told_means"), a3), ((Str.ofString "told_facts"), a4)] = none := by kernel_rfl
theorem lM_rel (a0 a1 a2 a3 a4 : D) : List.lookup (Str.ofString "rel") [((Str.ofString "told_sorts"), a0), ((Str.ofString "told_calls"), a1), ((Str.ofString "told_rels"), a2), ((Str.ofString "told_means"), a3), ((Str.ofString "told_facts"), a4)] = none := by kernel_rfl
theorem lM_func (a0 a1 a2 a3 a4 : D) : List.lookup (Str.ofString "func") [((Str.ofString "told_sorts"), a0), ((Str.ofString "told_calls"), a1), ((Str.ofString "told_rels"), a2), ((Str.ofString "told_means"), a3), ((Str.ofString "told_facts"), a4)] = none := by kernel_rfl
theorem lM_members (a0 a1 a2 a3 a4 : D) : List.lookup (Str.ofString "members") [((Str.ofString "told_sorts"), a0), ((Str.ofString "told_calls"), a1), ((Str.ofString "told_rels"), a2), ((Str.ofString "told_means"), a3), ((Str.ofString "told_facts"), a4)] = none := by kernel_rfl
theorem lM_again (a0 a1 a2 a3 a4 : D) : List.lookup (Str.ofString "again") [((Str.ofString "told_sorts"), a0), ((Str.ofString "told_calls"), a1), ((Str.ofString "told_rels"), a2), ((Str.ofString "told_means"), a3), ((Str.ofString "told_facts"), a4)] = none := by kernel_rfl
theorem lM_statement (a0 a1 a2 a3 a4 : D) : List.lookup (Str.ofString "statement") [((Str.ofString "told_sorts"), a0), ((Str.ofString "told_calls"), a1), ((Str.ofString "told_rels"), a2), ((Str.ofString "told_means"), a3), ((Str.ofString "told_facts"), a4)] = none := by kernel_rfl
section
variable {rho : List (Option S)} {m : List MO} {i j n k d : Nat} {c c' : Str} {fs gs : List (Str × D)} {cs : List Str} {x y : Str} {ps : List (Key × D)}
theorem v_d {d : D} (h : rho[i]? = some (some (.d d))) : (eVar i : Sm MX S) ⟨rho, m⟩ = .ok (.d d) ⟨rho, m⟩ := by
 simp only [eVar, h]
theorem fld_set {f : Sm MX S} {x' : D} {m' : List MO} (h0 : f ⟨rho, m⟩ = .ok (.d x') ⟨rho, m'⟩) (hrho : rho[i]? = some (some (.d (.o n)))) (hm : m'[n]? = some (.ins c fs)) (hc : c ∈ cs) (hl : fs.length < 999) : (sFldM cs x f (eVar i) : Sm MX Out) ⟨rho, m⟩ = .ok .nx ⟨rho, m'.set n (.ins c (putFD x x' fs))⟩ := by
 simp only [sFldM, escf, h0, escS, Rs.bind_ok, opd, v_d hrho, insAt, rd, hm]
 rw [if_pos ⟨hc, hl⟩]
theorem fld_get {f : Sm MX S} {m' : List MO} {d : D} (h0 : f ⟨rho, m⟩ = .ok (.d (.o n)) ⟨rho, m'⟩) (hm : m'[n]? = some (.ins c fs)) (hc : c ∈ cs) (hl : fs.lookup x = some d) : (eFld cs x f : Sm MX S) ⟨rho, m⟩ = .ok (.d d) ⟨rho, m'⟩ := by
 simp only [eFld, opd, h0, Rs.bind_ok, insAt, rd, hm]
 rw [if_pos hc, hl]
theorem fld_new (hrho : rho[i]? = some (some (.d (.o n)))) (hm : (m ++ [MO.dK []])[n]? = some (.ins c fs)) (hc : c ∈ cs) (hl : fs.length < 999) : (sFldM cs x eNewD (eVar i) : Sm MX Out) ⟨rho, m⟩ = .ok .nx ⟨rho, (m ++ [MO.dK []]).set n (.ins c (putFD x (.o m.length) fs))⟩ :=
 fld_set (f := eNewD) rfl hrho hm hc hl
theorem fld_cpy (hj : rho[j]? = some (some (.d (.o k)))) (hrho : rho[i]? = some (some (.d (.o n)))) (hk : m[k]? = some (.ins c' gs)) (hc' : c' ∈ cs) (hy : gs.lookup y = some (.o d)) (hd : m[d]? = some (.dK ps)) (hm : (m ++ [MO.dK ps])[n]? = some (.ins c fs)) (hc : c ∈ cs) (hl : fs.length < 999) :
  (sFldM cs x (eDCopy (eFld cs y (eVar j))) (eVar i) : Sm MX Out) ⟨rho, m⟩ = .ok .nx ⟨rho, (m ++ [MO.dK ps]).set n (.ins c (putFD x (.o m.length) fs))⟩ := by
 refine fld_set (f := eDCopy (eFld cs y (eVar j))) ?_ hrho hm hc hl
 simp only [eDCopy, opd, fld_get (v_d hj) hk hc' hy, Rs.bind_ok, dictAt, rd, hd]
end
theorem init_eq {c : Fn → List S → List MO → Rs S (List MO)} (G : List MO) : fnM 1 (m_Known___init__ c) [.d (.o G.length)] (G ++ [.ins "Known" []]) = .ok (.d .non) (G ++ [MO.ins "Known" [((Str.ofString "told_sorts"), D.o (G.length + 1)), ((Str.ofString "told_calls"), D.o (G.length + 2)), ((Str.ofString "told_rels"), D.o (G.length + 3)), ((Str.ofString "told_means"), D.o (G.length + 4)), ((Str.ofString "told_facts"), D.o (G.length + 5))], MO.dK [], MO.dK [], MO.dK [], MO.dK [], MO.dK []]) := by
 have e0 : (sFldM ["Known"] "told_sorts" eNewD (eVar 0) : Sm MX Out) ⟨[some (.d (.o G.length))], G ++ [MO.ins "Known" []]⟩ = .ok .nx ⟨[some (.d (.o G.length))], G ++ [MO.ins "Known" [((Str.ofString "told_sorts"), D.o (G.length + 1))], MO.dK []]⟩ := by
  rw [fld_new (n := G.length) (c := "Known") rfl (by simp only [List.append_assoc, List.cons_append, List.nil_append]; exact gA0 _ _ _) memK (by simp)]
  simp only [List.append_assoc, List.cons_append, List.nil_append, sA0, lA, List.length_cons, List.length_nil, Nat.reduceAdd, pI0]
 have e1 : (sFldM ["Known"] "told_calls" eNewD (eVar 0) : Sm MX Out) ⟨[some (.d (.o G.length))], G ++ [MO.ins "Known" [((Str.ofString "told_sorts"), D.o (G.length + 1))], MO.dK []]⟩ = .ok .nx ⟨[some (.d (.o G.length))], G ++ [MO.ins "Known" [((Str.ofString "told_sorts"), D.o (G.length + 1)), ((Str.ofString "told_calls"), D.o (G.length + 2))], MO.dK [], MO.dK []]⟩ := by
  rw [fld_new (n := G.length) (c := "Known") rfl (by simp only [List.append_assoc, List.cons_append, List.nil_append]; exact gA0 _ _ _) memK (by simp)]
  simp only [List.append_assoc, List.cons_append, List.nil_append, sA0, lA, List.length_cons, List.length_nil, Nat.reduceAdd, pI1]
 have e2 : (sFldM ["Known"] "told_rels" eNewD (eVar 0) : Sm MX Out) ⟨[some (.d (.o G.length))], G ++ [MO.ins "Known" [((Str.ofString "told_sorts"), D.o (G.length + 1)), ((Str.ofString "told_calls"), D.o (G.length + 2))], MO.dK [], MO.dK []]⟩ = .ok .nx ⟨[some (.d (.o G.length))], G ++ [MO.ins "Known" [((Str.ofString "told_sorts"), D.o (G.length + 1)), ((Str.ofString "told_calls"), D.o (G.length + 2)), ((Str.ofString "told_rels"), D.o (G.length + 3))], MO.dK [], MO.dK [], MO.dK []]⟩ := by
  rw [fld_new (n := G.length) (c := "Known") rfl (by simp only [List.append_assoc, List.cons_append, List.nil_append]; exact gA0 _ _ _) memK (by simp)]
  simp only [List.append_assoc, List.cons_append, List.nil_append, sA0, lA, List.length_cons, List.length_nil, Nat.reduceAdd, pI2]
 have e3 : (sFldM ["Known"] "told_means" eNewD (eVar 0) : Sm MX Out) ⟨[some (.d (.o G.length))], G ++ [MO.ins "Known" [((Str.ofString "told_sorts"), D.o (G.length + 1)), ((Str.ofString "told_calls"), D.o (G.length + 2)), ((Str.ofString "told_rels"), D.o (G.length + 3))], MO.dK [], MO.dK [], MO.dK []]⟩ = .ok .nx ⟨[some (.d (.o G.length))], G ++ [MO.ins "Known" [((Str.ofString "told_sorts"), D.o (G.length + 1)), ((Str.ofString "told_calls"), D.o (G.length + 2)), ((Str.ofString "told_rels"), D.o (G.length + 3)), ((Str.ofString "told_means"), D.o (G.length + 4))], MO.dK [], MO.dK [], MO.dK [], MO.dK []]⟩ := by
  rw [fld_new (n := G.length) (c := "Known") rfl (by simp only [List.append_assoc, List.cons_append, List.nil_append]; exact gA0 _ _ _) memK (by simp)]
  simp only [List.append_assoc, List.cons_append, List.nil_append, sA0, lA, List.length_cons, List.length_nil, Nat.reduceAdd, pI3]
 have e4 : (sFldM ["Known"] "told_facts" eNewD (eVar 0) : Sm MX Out) ⟨[some (.d (.o G.length))], G ++ [MO.ins "Known" [((Str.ofString "told_sorts"), D.o (G.length + 1)), ((Str.ofString "told_calls"), D.o (G.length + 2)), ((Str.ofString "told_rels"), D.o (G.length + 3)), ((Str.ofString "told_means"), D.o (G.length + 4))], MO.dK [], MO.dK [], MO.dK [], MO.dK []]⟩ = .ok .nx ⟨[some (.d (.o G.length))], G ++ [MO.ins "Known" [((Str.ofString "told_sorts"), D.o (G.length + 1)), ((Str.ofString "told_calls"), D.o (G.length + 2)), ((Str.ofString "told_rels"), D.o (G.length + 3)), ((Str.ofString "told_means"), D.o (G.length + 4)), ((Str.ofString "told_facts"), D.o (G.length + 5))], MO.dK [], MO.dK [], MO.dK [], MO.dK [], MO.dK []]⟩ := by
  rw [fld_new (n := G.length) (c := "Known") rfl (by simp only [List.append_assoc, List.cons_append, List.nil_append]; exact gA0 _ _ _) memK (by simp)]
  simp only [List.append_assoc, List.cons_append, List.nil_append, sA0, lA, List.length_cons, List.length_nil, Nat.reduceAdd, pI4]
 rw [fnM_R]
 unfold m_Known___init__
 refine Eq.trans (congrArg fnR ?_) (rfl : fnR (.ok .nx ⟨[some (.d (.o G.length))], G ++ [MO.ins "Known" [((Str.ofString "told_sorts"), D.o (G.length + 1)), ((Str.ofString "told_calls"), D.o (G.length + 2)), ((Str.ofString "told_rels"), D.o (G.length + 3)), ((Str.ofString "told_means"), D.o (G.length + 4)), ((Str.ofString "told_facts"), D.o (G.length + 5))], MO.dK [], MO.dK [], MO.dK [], MO.dK [], MO.dK []]⟩) = _)
 show (sSeq _ _ : Sm MX Out) ⟨[some (.d (.o G.length))], G ++ [MO.ins "Known" []]⟩ = _
 rw [seq_nx e0, seq_nx e1, seq_nx e2, seq_nx e3]
 exact e4
theorem make_eq {c : Fn → List S → List MO → Rs S (List MO)} (hc : ∀ G, c .Known___init__ [.d (.o (G : List MO).length)] (G ++ [.ins "Known" []]) = .ok (.d .non) (G ++ [MO.ins "Known" [((Str.ofString "told_sorts"), D.o (G.length + 1)), ((Str.ofString "told_calls"), D.o (G.length + 2)), ((Str.ofString "told_rels"), D.o (G.length + 3)), ((Str.ofString "told_means"), D.o (G.length + 4)), ((Str.ofString "told_facts"), D.o (G.length + 5))], MO.dK [], MO.dK [], MO.dK [], MO.dK [], MO.dK []])) (rho : List (Option S)) (G : List MO) : (eMake "Known" (c .Known___init__) aNil : Sm MX S) ⟨rho, G⟩ = .ok (.d (.o G.length)) ⟨rho, G ++ [MO.ins "Known" [((Str.ofString "told_sorts"), D.o (G.length + 1)), ((Str.ofString "told_calls"), D.o (G.length + 2)), ((Str.ofString "told_rels"), D.o (G.length + 3)), ((Str.ofString "told_means"), D.o (G.length + 4)), ((Str.ofString "told_facts"), D.o (G.length + 5))], MO.dK [], MO.dK [], MO.dK [], MO.dK [], MO.dK []]⟩ := by
 simp only [eMake, aNil, Rs.bind_ok, List.all_nil, if_true]
 rw [hc G]
theorem again_eq {c ci : Fn → List S → List MO → Rs S (List MO)} (hc : ∀ G, ci .Known___init__ [.d (.o (G : List MO).length)] (G ++ [.ins "Known" []]) = .ok (.d .non) (G ++ [MO.ins "Known" [((Str.ofString "told_sorts"), D.o (G.length + 1)), ((Str.ofString "told_calls"), D.o (G.length + 2)), ((Str.ofString "told_rels"), D.o (G.length + 3)), ((Str.ofString "told_means"), D.o (G.length + 4)), ((Str.ofString "told_facts"), D.o (G.length + 5))], MO.dK [], MO.dK [], MO.dK [], MO.dK [], MO.dK []])) (G : List MO) (n n0 n1 n2 n3 n4 : Nat) (s0 s1 s2 s3 s4 : List (Key × D)) (hn : G[n]? = some (MO.ins "Known" [((Str.ofString "told_sorts"), D.o (n0)), ((Str.ofString "told_calls"), D.o (n1)), ((Str.ofString "told_rels"), D.o (n2)), ((Str.ofString "told_means"), D.o (n3)), ((Str.ofString "told_facts"), D.o (n4))])) (h0 : G[n0]? = some (.dK s0)) (h1 : G[n1]? = some (.dK s1)) (h2 : G[n2]? = some (.dK s2)) (h3 : G[n3]? = some (.dK s3)) (h4 : G[n4]? = some (.dK s4)) :
  fnM 2 (m_Known_again c ci) [.d (.o n)] G = .ok (.d (.o G.length)) (G ++ [MO.ins "Known" [((Str.ofString "told_sorts"), D.o (G.length + 6)), ((Str.ofString "told_calls"), D.o (G.length + 7)), ((Str.ofString "told_rels"), D.o (G.length + 8)), ((Str.ofString "told_means"), D.o (G.length + 9)), ((Str.ofString "told_facts"), D.o (G.length + 10))], MO.dK [], MO.dK [], MO.dK [], MO.dK [], MO.dK [], MO.dK s0, MO.dK s1, MO.dK s2, MO.dK s3, MO.dK s4]) := by
 have e0 : (sFldM ["Known"] "told_sorts" (eDCopy (eFld ["Known"] "told_sorts" (eVar 0))) (eVar 1) : Sm MX Out) ⟨[some (.d (.o n)), some (.d (.o G.length))], G ++ [MO.ins "Known" [((Str.ofString "told_sorts"), D.o (G.length + 1)), ((Str.ofString "told_calls"), D.o (G.length + 2)), ((Str.ofString "told_rels"), D.o (G.length + 3)), ((Str.ofString "told_means"), D.o (G.length + 4)), ((Str.ofString "told_facts"), D.o (G.length + 5))], MO.dK [], MO.dK [], MO.dK [], MO.dK [], MO.dK []]⟩ = .ok .nx ⟨[some (.d (.o n)), some (.d (.o G.length))], G ++ [MO.ins "Known" [((Str.ofString "told_sorts"), D.o (G.length + 6)), ((Str.ofString "told_calls"), D.o (G.length + 2)), ((Str.ofString "told_rels"), D.o (G.length + 3)), ((Str.ofString "told_means"), D.o (G.length + 4)), ((Str.ofString "told_facts"), D.o (G.length + 5))], MO.dK [], MO.dK [], MO.dK [], MO.dK [], MO.dK [], MO.dK s0]⟩ := by
  rw [fld_cpy (n := G.length) (c := "Known") (c' := "Known") (k := n) (d := n0) (ps := s0) rfl rfl (gP hn) memK (lF0 _ _ _ _ _) (gP h0) (by simp only [List.append_assoc, List.cons_append, List.nil_append]; exact gA0 _ _ _) memK (by simp)]
  simp only [List.append_assoc, List.cons_append, List.nil_append, sA0, lA, List.length_cons, List.length_nil, Nat.reduceAdd, pF0]
 have e1 : (sFldM ["Known"] "told_calls" (eDCopy (eFld ["Known"] "told_calls" (eVar 0))) (eVar 1) : Sm MX Out) ⟨[some (.d (.o n)), some (.d (.o G.length))], G ++ [MO.ins "Known" [((Str.ofString "told_sorts"), D.o (G.length + 6)), ((Str.ofString "told_calls"), D.o (G.length + 2)), ((Str.ofString "told_rels"), D.o (G.length + 3)), ((Str.ofString "told_means"), D.o (G.length + 4)), ((Str.ofString "told_facts"), D.o (G.length + 5))], MO.dK [], MO.dK [], MO.dK [], MO.dK [], MO.dK [], MO.dK s0]⟩ = .ok .nx ⟨[some (.d (.o n)), some (.d (.o G.length))], G ++ [MO.ins "Known" [((Str.ofString "told_sorts"), D.o (G.length + 6)), ((Str.ofString "told_calls"), D.o (G.length + 7)), ((Str.ofString "told_rels"), D.o (G.length + 3)), ((Str.ofString "told_means"), D.o (G.length + 4)), ((Str.ofString "told_facts"), D.o (G.length + 5))], MO.dK [], MO.dK [], MO.dK [], MO.dK [], MO.dK [], MO.dK s0, MO.dK s1]⟩ := by
  rw [fld_cpy (n := G.length) (c := "Known") (c' := "Known") (k := n) (d := n1) (ps := s1) rfl rfl (gP hn) memK (lF1 _ _ _ _ _) (gP h1) (by simp only [List.append_assoc, List.cons_append, List.nil_append]; exact gA0 _ _ _) memK (by simp)]
  simp only [List.append_assoc, List.cons_append, List.nil_append, sA0, lA, List.length_cons, List.length_nil, Nat.reduceAdd, pF1]
 have e2 : (sFldM ["Known"] "told_rels" (eDCopy (eFld ["Known"] "told_rels" (eVar 0))) (eVar 1) : Sm MX Out) ⟨[some (.d (.o n)), some (.d (.o G.length))], G ++ [MO.ins "Known" [((Str.ofString "told_sorts"), D.o (G.length + 6)), ((Str.ofString "told_calls"), D.o (G.length + 7)), ((Str.ofString "told_rels"), D.o (G.length + 3)), ((Str.ofString "told_means"), D.o (G.length + 4)), ((Str.ofString "told_facts"), D.o (G.length + 5))], MO.dK [], MO.dK [], MO.dK [], MO.dK [], MO.dK [], MO.dK s0, MO.dK s1]⟩ = .ok .nx ⟨[some (.d (.o n)), some (.d (.o G.length))], G ++ [MO.ins "Known" [((Str.ofString "told_sorts"), D.o (G.length + 6)), ((Str.ofString "told_calls"), D.o (G.length + 7)), ((Str.ofString "told_rels"), D.o (G.length + 8)), ((Str.ofString "told_means"), D.o (G.length + 4)), ((Str.ofString "told_facts"), D.o (G.length + 5))], MO.dK [], MO.dK [], MO.dK [], MO.dK [], MO.dK [], MO.dK s0, MO.dK s1, MO.dK s2]⟩ := by
  rw [fld_cpy (n := G.length) (c := "Known") (c' := "Known") (k := n) (d := n2) (ps := s2) rfl rfl (gP hn) memK (lF2 _ _ _ _ _) (gP h2) (by simp only [List.append_assoc, List.cons_append, List.nil_append]; exact gA0 _ _ _) memK (by simp)]
  simp only [List.append_assoc, List.cons_append, List.nil_append, sA0, lA, List.length_cons, List.length_nil, Nat.reduceAdd, pF2]
 have e3 : (sFldM ["Known"] "told_means" (eDCopy (eFld ["Known"] "told_means" (eVar 0))) (eVar 1) : Sm MX Out) ⟨[some (.d (.o n)), some (.d (.o G.length))], G ++ [MO.ins "Known" [((Str.ofString "told_sorts"), D.o (G.length + 6)), ((Str.ofString "told_calls"), D.o (G.length + 7)), ((Str.ofString "told_rels"), D.o (G.length + 8)), ((Str.ofString "told_means"), D.o (G.length + 4)), ((Str.ofString "told_facts"), D.o (G.length + 5))], MO.dK [], MO.dK [], MO.dK [], MO.dK [], MO.dK [], MO.dK s0, MO.dK s1, MO.dK s2]⟩ = .ok .nx ⟨[some (.d (.o n)), some (.d (.o G.length))], G ++ [MO.ins "Known" [((Str.ofString "told_sorts"), D.o (G.length + 6)), ((Str.ofString "told_calls"), D.o (G.length + 7)), ((Str.ofString "told_rels"), D.o (G.length + 8)), ((Str.ofString "told_means"), D.o (G.length + 9)), ((Str.ofString "told_facts"), D.o (G.length + 5))], MO.dK [], MO.dK [], MO.dK [], MO.dK [], MO.dK [], MO.dK s0, MO.dK s1, MO.dK s2, MO.dK s3]⟩ := by
  rw [fld_cpy (n := G.length) (c := "Known") (c' := "Known") (k := n) (d := n3) (ps := s3) rfl rfl (gP hn) memK (lF3 _ _ _ _ _) (gP h3) (by simp only [List.append_assoc, List.cons_append, List.nil_append]; exact gA0 _ _ _) memK (by simp)]
  simp only [List.append_assoc, List.cons_append, List.nil_append, sA0, lA, List.length_cons, List.length_nil, Nat.reduceAdd, pF3]
 have e4 : (sFldM ["Known"] "told_facts" (eDCopy (eFld ["Known"] "told_facts" (eVar 0))) (eVar 1) : Sm MX Out) ⟨[some (.d (.o n)), some (.d (.o G.length))], G ++ [MO.ins "Known" [((Str.ofString "told_sorts"), D.o (G.length + 6)), ((Str.ofString "told_calls"), D.o (G.length + 7)), ((Str.ofString "told_rels"), D.o (G.length + 8)), ((Str.ofString "told_means"), D.o (G.length + 9)), ((Str.ofString "told_facts"), D.o (G.length + 5))], MO.dK [], MO.dK [], MO.dK [], MO.dK [], MO.dK [], MO.dK s0, MO.dK s1, MO.dK s2, MO.dK s3]⟩ = .ok .nx ⟨[some (.d (.o n)), some (.d (.o G.length))], G ++ [MO.ins "Known" [((Str.ofString "told_sorts"), D.o (G.length + 6)), ((Str.ofString "told_calls"), D.o (G.length + 7)), ((Str.ofString "told_rels"), D.o (G.length + 8)), ((Str.ofString "told_means"), D.o (G.length + 9)), ((Str.ofString "told_facts"), D.o (G.length + 10))], MO.dK [], MO.dK [], MO.dK [], MO.dK [], MO.dK [], MO.dK s0, MO.dK s1, MO.dK s2, MO.dK s3, MO.dK s4]⟩ := by
  rw [fld_cpy (n := G.length) (c := "Known") (c' := "Known") (k := n) (d := n4) (ps := s4) rfl rfl (gP hn) memK (lF4 _ _ _ _ _) (gP h4) (by simp only [List.append_assoc, List.cons_append, List.nil_append]; exact gA0 _ _ _) memK (by simp)]
  simp only [List.append_assoc, List.cons_append, List.nil_append, sA0, lA, List.length_cons, List.length_nil, Nat.reduceAdd, pF4]
 have e : (sSet 1 (eMake "Known" (ci .Known___init__) aNil) : Sm MX Out) ⟨[some (.d (.o n)), none], G⟩ = .ok .nx ⟨[some (.d (.o n)), some (.d (.o G.length))], G ++ [MO.ins "Known" [((Str.ofString "told_sorts"), D.o (G.length + 1)), ((Str.ofString "told_calls"), D.o (G.length + 2)), ((Str.ofString "told_rels"), D.o (G.length + 3)), ((Str.ofString "told_means"), D.o (G.length + 4)), ((Str.ofString "told_facts"), D.o (G.length + 5))], MO.dK [], MO.dK [], MO.dK [], MO.dK [], MO.dK []]⟩ := by
  simp only [sSet, una, make_eq hc, Rs.bind_ok, List.set_cons_succ, List.set_cons_zero]
 rw [fnM_R]
 unfold m_Known_again
 refine Eq.trans (congrArg fnR ?_) (rfl : fnR (.ok (.rt (.d (.o G.length))) ⟨[some (.d (.o n)), some (.d (.o G.length))], G ++ [MO.ins "Known" [((Str.ofString "told_sorts"), D.o (G.length + 6)), ((Str.ofString "told_calls"), D.o (G.length + 7)), ((Str.ofString "told_rels"), D.o (G.length + 8)), ((Str.ofString "told_means"), D.o (G.length + 9)), ((Str.ofString "told_facts"), D.o (G.length + 10))], MO.dK [], MO.dK [], MO.dK [], MO.dK [], MO.dK [], MO.dK s0, MO.dK s1, MO.dK s2, MO.dK s3, MO.dK s4]⟩) = _)
 show (sSeq _ _ : Sm MX Out) ⟨[some (.d (.o n)), none], G⟩ = _
 rw [seq_nx e, seq_nx e0, seq_nx e1, seq_nx e2, seq_nx e3, seq_nx e4]
 rfl
structure Ent where
  so : List (Str × List Str)
  ca : List (Str × (List Str × Str))
  re : List (Str × List Str)
  me : List (Str × D)
  fa : List (Str × D)
noncomputable def fnd {α : Type} : List (Str × α) → Str → Option α
 | [], _ => none
 | p :: r, k => if p.1 = k then some p.2 else fnd r k
noncomputable def dk {α : Type} (f : α → D) (l : List (Str × α)) : List (Key × D) := l.map fun p => (.inr p.1, f p.2)
theorem val_dk {α : Type} (f : α → D) : ∀ (l : List (Str × α)) (k : Str), valD (dk f l) (.inr k) = (fnd l k).map f
 | [], _ => rfl
 | p :: r, k => by
  rw [dk, List.map_cons, valD, fnd]
  by_cases h : p.1 = k
  ·rw [if_pos (by show Sum.inr p.1 = Sum.inr k; rw [h]), if_pos h]; rfl
  ·rw [if_neg (fun e => h (Sum.inr.inj e)), if_neg h]
   exact val_dk f r k
noncomputable abbrev knFs (n0 n1 n2 n3 n4 : Nat) : List (Str × D) := [((Str.ofString "told_sorts"), D.o n0), ((Str.ofString "told_calls"), D.o n1), ((Str.ofString "told_rels"), D.o n2), ((Str.ofString "told_means"), D.o n3), ((Str.ofString "told_facts"), D.o n4)]
structure Dks (E : Ent) (m : List MO) (k n0 n1 n2 n3 n4 : Nat) : Prop where
  h0 : m[n0]? = some (.dK (dk arD E.so))
  h1 : m[n1]? = some (.dK (dk sgD E.ca))
  h2 : m[n2]? = some (.dK (dk arD E.re))
  h3 : m[n3]? = some (.dK (dk id E.me))
  h4 : m[n4]? = some (.dK (dk id E.fa))
  b : 3 ≤ k ∧ 3 ≤ n0 ∧ 3 ≤ n1 ∧ 3 ≤ n2 ∧ 3 ≤ n3 ∧ 3 ≤ n4
noncomputable def Kno (m : List MO) (k : Nat) (E : Ent) : Prop := ∃ n0 n1 n2 n3 n4, m[k]? = some (.ins "Known" (knFs n0 n1 n2 n3 n4)) ∧ Dks E m k n0 n1 n2 n3 n4
section
variable {m : List MO} {k : Nat} {E : Ent}
theorem kn_members (hk : Kno m k E) (n : Nat) (x : Str) : mir (n + 1) .Known_members [.d (.o k), .d (.str x)] m = .ok (.d (((fnd E.so x).map arD).getD .non)) m := by
 obtain ⟨n0, n1, n2, n3, n4, hn, h⟩ := hk
 have h0 := h.h0
 have q : (eFld ["Known"] "told_sorts" (eVar 0) : Sm MX S) ⟨[some (.d (.o k)), some (.d (.str x))], m⟩ = .ok (.d (.o n0)) ⟨[some (.d (.o k)), some (.d (.str x))], m⟩ := fld_get (n := k) (c := "Known") (v_d rfl) hn memK (lF0 _ _ _ _ _)
 show fnM 2 (m_Known_members (mir n)) _ _ = _
 unfold m_Known_members
 walk_at "z"
 simp only [eDGet2, opd, q, Rs.bind_ok, dictAt, rd, h0, eVar, List.getElem?_cons_succ, List.getElem?_cons_zero, escf, eC, escS, keyD, Option.bind_some, val_dk]
theorem kn_func (hk : Kno m k E) (n : Nat) (x : Str) : mir (n + 1) .Known_func [.d (.o k), .d (.str x)] m = .ok (.d (((fnd E.ca x).map sgD).getD .non)) m := by
 obtain ⟨n0, n1, n2, n3, n4, hn, h⟩ := hk
 have h0 := h.h1
 have q : (eFld ["Known"] "told_calls" (eVar 0) : Sm MX S) ⟨[some (.d (.o k)), some (.d (.str x))], m⟩ = .ok (.d (.o n1)) ⟨[some (.d (.o k)), some (.d (.str x))], m⟩ := fld_get (n := k) (c := "Known") (v_d rfl) hn memK (lF1 _ _ _ _ _)
 show fnM 2 (m_Known_func (mir n)) _ _ = _
 unfold m_Known_func
 walk_at "z"
 simp only [eDGet2, opd, q, Rs.bind_ok, dictAt, rd, h0, eVar, List.getElem?_cons_succ, List.getElem?_cons_zero, escf, eC, escS, keyD, Option.bind_some, val_dk]
theorem kn_rel (hk : Kno m k E) (n : Nat) (x : Str) : mir (n + 1) .Known_rel [.d (.o k), .d (.str x)] m = .ok (.d (((fnd E.re x).map arD).getD .non)) m := by
 obtain ⟨n0, n1, n2, n3, n4, hn, h⟩ := hk
 have h0 := h.h2
 have q : (eFld ["Known"] "told_rels" (eVar 0) : Sm MX S) ⟨[some (.d (.o k)), some (.d (.str x))], m⟩ = .ok (.d (.o n2)) ⟨[some (.d (.o k)), some (.d (.str x))], m⟩ := fld_get (n := k) (c := "Known") (v_d rfl) hn memK (lF2 _ _ _ _ _)
 show fnM 2 (m_Known_rel (mir n)) _ _ = _
 unfold m_Known_rel
 walk_at "z"
 simp only [eDGet2, opd, q, Rs.bind_ok, dictAt, rd, h0, eVar, List.getElem?_cons_succ, List.getElem?_cons_zero, escf, eC, escS, keyD, Option.bind_some, val_dk]
end
theorem lays_str : ∀ ss : List Str, (∀ s ∈ ss, PyData.strOk s = true) → lays (ss.map D.str) = true
 | [], _ => rfl
 | s :: r, h => by
  rw [List.map_cons, lays, lays_str r (fun x hx => h x (List.mem_cons_of_mem _ hx)), Bool.and_true, lay]
  exact h s (List.mem_cons_self ..)
theorem deps_str : ∀ ss : List Str, deps (ss.map D.str) = 0
 | [] => rfl
 | s :: r => by rw [List.map_cons, deps, deps_str r]; simp [dep]
noncomputable abbrev rolPs (n0 n1 n2 n3 n4 : Nat) : List (Key × D) := [(.inr (Str.ofString "sorts"), .o n0), (.inr (Str.ofString "calls"), .o n1), (.inr (Str.ofString "rels"), .o n2), (.inr (Str.ofString "means"), .o n3), (.inr (Str.ofString "facts"), .o n4)]
noncomputable def Rol (m : List MO) (r : Nat) (E : Ent) : Prop := ∃ n0 n1 n2 n3 n4, m[r]? = some (.dK (rolPs n0 n1 n2 n3 n4)) ∧ Dks E m r n0 n1 n2 n3 n4 ∧ (n0 ≠ r ∧ n1 ≠ r ∧ n2 ≠ r ∧ n3 ≠ r ∧ n4 ≠ r)
theorem rv0 (n0 n1 n2 n3 n4 : Nat) : valD (rolPs n0 n1 n2 n3 n4) (.inr (Str.ofString "sorts")) = some (.o n0) := by kernel_rfl
theorem rv1 (n0 n1 n2 n3 n4 : Nat) : valD (rolPs n0 n1 n2 n3 n4) (.inr (Str.ofString "calls")) = some (.o n1) := by kernel_rfl
theorem rv2 (n0 n1 n2 n3 n4 : Nat) : valD (rolPs n0 n1 n2 n3 n4) (.inr (Str.ofString "rels")) = some (.o n2) := by kernel_rfl
theorem rv3 (n0 n1 n2 n3 n4 : Nat) : valD (rolPs n0 n1 n2 n3 n4) (.inr (Str.ofString "means")) = some (.o n3) := by kernel_rfl
theorem rv4 (n0 n1 n2 n3 n4 : Nat) : valD (rolPs n0 n1 n2 n3 n4) (.inr (Str.ofString "facts")) = some (.o n4) := by kernel_rfl
theorem dix_at {rho : List (Option S)} {m : List MO} {i n : Nat} {x : Str} {ps : List (Key × D)} {d : D} (hi : rho[i]? = some (some (.d (.o n)))) (hm : m[n]? = some (.dK ps)) (hv : valD ps (.inr x) = some d) : (eDIx (eVar i) (eC (.str x)) : Sm MX S) ⟨rho, m⟩ = .ok (.d d) ⟨rho, m⟩ := by
 simp only [eDIx, opd, eVar, hi, Rs.bind_ok, eC, dictAt, rd, hm, keyD, Option.bind_some, hv]
theorem dix_of {f g : Sm MX S} {z z1 z2 : Z (List MO)} {n : Nat} {x : Str} {ps : List (Key × D)} (hf : f z = .ok (.d (.o n)) z1) (hg : g z1 = .ok (.d (.str x)) z2) (hm : z2.m[n]? = some (.dK ps)) : (eDIx f g : Sm MX S) z = (match valD ps (.inr x) with
  | some d => .ok (.d d) z2
  | none => .bad) := by
 simp only [eDIx, opd, hf, hg, Rs.bind_ok, dictAt, rd, hm, keyD, Option.bind_some]
 all_goals (cases valD ps (.inr x) <;> rfl)
mutual
noncomputable def psz : D → Nat
 | .tup xs => pszs xs + 1
 | _ => 0
noncomputable def pszs : List D → Nat
 | [] => 0
 | x :: r => psz x + pszs r
end
section
variable {m : List MO} {r : Nat} {E : Ent}
end
noncomputable def kst (G : List MO) (s0 s1 s2 s3 s4 : List (Key × D)) : List MO := G ++ [MO.ins "Known" [((Str.ofString "told_sorts"), D.o (G.length + 6)), ((Str.ofString "told_calls"), D.o (G.length + 7)), ((Str.ofString "told_rels"), D.o (G.length + 8)), ((Str.ofString "told_means"), D.o (G.length + 9)), ((Str.ofString "told_facts"), D.o (G.length + 10))], MO.dK [], MO.dK [], MO.dK [], MO.dK [], MO.dK [], MO.dK s0, MO.dK s1, MO.dK s2, MO.dK s3, MO.dK s4]
noncomputable def wIf : Sm MX Out := (sIf (tOf (eBin dEq (eVar 3) (eC (.str "sort")))) (sSeq (sDPutM (eBin dIx (eVar 1) (eC (.int 2))) (eFld ["Known"] "told_sorts" (eVar 2)) (eVar 4))
  (sFor (iAnyM (eBin dIx (eVar 1) (eC (.int 2)))) (kName 5) (sDPutM (eTup (aCons (escf (eTup aNil)) (aCons (escf (eVar 4)) aNil))) (eFld ["Known"] "told_calls" (eVar 2)) (eVar 5)))) (sIf (tOf (eBin dEq (eVar 3) (eC (.str "func")))) (sDPutM (eTup (aCons (escf (eBin dIx (eVar 1) (eC (.int 2)))) (aCons (escf (eBin dIx (eVar 1) (eC (.int 3)))) aNil))) (eFld ["Known"] "told_calls" (eVar 2)) (eVar 4)) (sIf (tOf (eBin dIn (eVar 3) (eTup (aCons (escf (eC (.str "taken"))) (aCons (escf (eC (.str "shown"))) aNil))))) (sDPutM (eBin dIx (eVar 1) (eC (.int 2))) (eFld ["Known"] "told_facts" (eVar 2)) (eVar 4)) (sSeq (sDPutM (eBin dIx (eVar 1) (eC (.int 2))) (eFld ["Known"] "told_rels" (eVar 2)) (eVar 4))
  (sIf (tOf (eBin dEq (eVar 3) (eC (.str "mean")))) (sDPutM (eBin dIx (eVar 1) (eC (.int 3))) (eFld ["Known"] "told_means" (eVar 2)) (eVar 4)) sNil)))))
theorem if_t {t : Sm MX Bool} {a b : Sm MX Out} {z z1 : Z (List MO)} (h : t z = .ok true z1) : sIf t a b z = a z1 := by
 simp only [sIf, h, Rs.bind_ok, kIf, if_true]
theorem if_f {t : Sm MX Bool} {a b : Sm MX Out} {z z1 : Z (List MO)} (h : t z = .ok false z1) : sIf t a b z = b z1 := by
 simp only [sIf, h, Rs.bind_ok, kIf, Bool.false_eq_true, if_false]
theorem dput0 {rho : List (Option S)} {G : List MO} {s0 s1 s2 s3 s4 : List (Key × D)} {fv fk : Sm MX S} {x : D} {k : Key} {kd : D} (hv : escf fv ⟨rho, kst G s0 s1 s2 s3 s4⟩ = .ok (.d x) ⟨rho, kst G s0 s1 s2 s3 s4⟩) (hrho : rho[2]? = some (some (.d (.o G.length)))) (hk : opd fk ⟨rho, kst G s0 s1 s2 s3 s4⟩ = .ok (.d kd) ⟨rho, kst G s0 s1 s2 s3 s4⟩) (hq : keyD kd = some k) (hl : s0.length < lim) : (sDPutM fv (eFld ["Known"] "told_sorts" (eVar 2)) fk : Sm MX Out) ⟨rho, kst G s0 s1 s2 s3 s4⟩ = .ok .nx ⟨rho, kst G (putD s0 k x) s1 s2 s3 s4⟩ := by
 have q : (eFld ["Known"] "told_sorts" (eVar 2) : Sm MX S) ⟨rho, kst G s0 s1 s2 s3 s4⟩ = .ok (.d (.o (G.length + 6))) ⟨rho, kst G s0 s1 s2 s3 s4⟩ := fld_get (n := G.length) (c := "Known") (v_d hrho) (gA0 _ _ _) memK (lF0 _ _ _ _ _)
 have e : (kst G s0 s1 s2 s3 s4)[G.length + 6]? = some (.dK s0) := gAk _ _ _
 have q2 : opd (eFld ["Known"] "told_sorts" (eVar 2) : Sm MX S) ⟨rho, kst G s0 s1 s2 s3 s4⟩ = .ok (.d (.o (G.length + 6))) ⟨rho, kst G s0 s1 s2 s3 s4⟩ := by simp only [opd, q, Rs.bind_ok]
 simp only [sDPutM, hv, q2, hk, Rs.bind_ok, dictAt, rd, e, Option.bind_some, hq]
 rw [if_pos hl]
 unfold kst
 rw [sAk]
 rfl
theorem dput1 {rho : List (Option S)} {G : List MO} {s0 s1 s2 s3 s4 : List (Key × D)} {fv fk : Sm MX S} {x : D} {k : Key} {kd : D} (hv : escf fv ⟨rho, kst G s0 s1 s2 s3 s4⟩ = .ok (.d x) ⟨rho, kst G s0 s1 s2 s3 s4⟩) (hrho : rho[2]? = some (some (.d (.o G.length)))) (hk : opd fk ⟨rho, kst G s0 s1 s2 s3 s4⟩ = .ok (.d kd) ⟨rho, kst G s0 s1 s2 s3 s4⟩) (hq : keyD kd = some k) (hl : s1.length < lim) : (sDPutM fv (eFld ["Known"] "told_calls" (eVar 2)) fk : Sm MX Out) ⟨rho, kst G s0 s1 s2 s3 s4⟩ = .ok .nx ⟨rho, kst G s0 (putD s1 k x) s2 s3 s4⟩ := by
 have q : (eFld ["Known"] "told_calls" (eVar 2) : Sm MX S) ⟨rho, kst G s0 s1 s2 s3 s4⟩ = .ok (.d (.o (G.length + 7))) ⟨rho, kst G s0 s1 s2 s3 s4⟩ := fld_get (n := G.length) (c := "Known") (v_d hrho) (gA0 _ _ _) memK (lF1 _ _ _ _ _)
 have e : (kst G s0 s1 s2 s3 s4)[G.length + 7]? = some (.dK s1) := gAk _ _ _
 have q2 : opd (eFld ["Known"] "told_calls" (eVar 2) : Sm MX S) ⟨rho, kst G s0 s1 s2 s3 s4⟩ = .ok (.d (.o (G.length + 7))) ⟨rho, kst G s0 s1 s2 s3 s4⟩ := by simp only [opd, q, Rs.bind_ok]
 simp only [sDPutM, hv, q2, hk, Rs.bind_ok, dictAt, rd, e, Option.bind_some, hq]
 rw [if_pos hl]
 unfold kst
 rw [sAk]
 rfl
theorem dput2 {rho : List (Option S)} {G : List MO} {s0 s1 s2 s3 s4 : List (Key × D)} {fv fk : Sm MX S} {x : D} {k : Key} {kd : D} (hv : escf fv ⟨rho, kst G s0 s1 s2 s3 s4⟩ = .ok (.d x) ⟨rho, kst G s0 s1 s2 s3 s4⟩) (hrho : rho[2]? = some (some (.d (.o G.length)))) (hk : opd fk ⟨rho, kst G s0 s1 s2 s3 s4⟩ = .ok (.d kd) ⟨rho, kst G s0 s1 s2 s3 s4⟩) (hq : keyD kd = some k) (hl : s2.length < lim) : (sDPutM fv (eFld ["Known"] "told_rels" (eVar 2)) fk : Sm MX Out) ⟨rho, kst G s0 s1 s2 s3 s4⟩ = .ok .nx ⟨rho, kst G s0 s1 (putD s2 k x) s3 s4⟩ := by
 have q : (eFld ["Known"] "told_rels" (eVar 2) : Sm MX S) ⟨rho, kst G s0 s1 s2 s3 s4⟩ = .ok (.d (.o (G.length + 8))) ⟨rho, kst G s0 s1 s2 s3 s4⟩ := fld_get (n := G.length) (c := "Known") (v_d hrho) (gA0 _ _ _) memK (lF2 _ _ _ _ _)
 have e : (kst G s0 s1 s2 s3 s4)[G.length + 8]? = some (.dK s2) := gAk _ _ _
 have q2 : opd (eFld ["Known"] "told_rels" (eVar 2) : Sm MX S) ⟨rho, kst G s0 s1 s2 s3 s4⟩ = .ok (.d (.o (G.length + 8))) ⟨rho, kst G s0 s1 s2 s3 s4⟩ := by simp only [opd, q, Rs.bind_ok]
 simp only [sDPutM, hv, q2, hk, Rs.bind_ok, dictAt, rd, e, Option.bind_some, hq]
 rw [if_pos hl]
 unfold kst
 rw [sAk]
 rfl
theorem dput3 {rho : List (Option S)} {G : List MO} {s0 s1 s2 s3 s4 : List (Key × D)} {fv fk : Sm MX S} {x : D} {k : Key} {kd : D} (hv : escf fv ⟨rho, kst G s0 s1 s2 s3 s4⟩ = .ok (.d x) ⟨rho, kst G s0 s1 s2 s3 s4⟩) (hrho : rho[2]? = some (some (.d (.o G.length)))) (hk : opd fk ⟨rho, kst G s0 s1 s2 s3 s4⟩ = .ok (.d kd) ⟨rho, kst G s0 s1 s2 s3 s4⟩) (hq : keyD kd = some k) (hl : s3.length < lim) : (sDPutM fv (eFld ["Known"] "told_means" (eVar 2)) fk : Sm MX Out) ⟨rho, kst G s0 s1 s2 s3 s4⟩ = .ok .nx ⟨rho, kst G s0 s1 s2 (putD s3 k x) s4⟩ := by
 have q : (eFld ["Known"] "told_means" (eVar 2) : Sm MX S) ⟨rho, kst G s0 s1 s2 s3 s4⟩ = .ok (.d (.o (G.length + 9))) ⟨rho, kst G s0 s1 s2 s3 s4⟩ := fld_get (n := G.length) (c := "Known") (v_d hrho) (gA0 _ _ _) memK (lF3 _ _ _ _ _)
 have e : (kst G s0 s1 s2 s3 s4)[G.length + 9]? = some (.dK s3) := gAk _ _ _
 have q2 : opd (eFld ["Known"] "told_means" (eVar 2) : Sm MX S) ⟨rho, kst G s0 s1 s2 s3 s4⟩ = .ok (.d (.o (G.length + 9))) ⟨rho, kst G s0 s1 s2 s3 s4⟩ := by simp only [opd, q, Rs.bind_ok]
 simp only [sDPutM, hv, q2, hk, Rs.bind_ok, dictAt, rd, e, Option.bind_some, hq]
 rw [if_pos hl]
 unfold kst
 rw [sAk]
 rfl
theorem dput4 {rho : List (Option S)} {G : List MO} {s0 s1 s2 s3 s4 : List (Key × D)} {fv fk : Sm MX S} {x : D} {k : Key} {kd : D} (hv : escf fv ⟨rho, kst G s0 s1 s2 s3 s4⟩ = .ok (.d x) ⟨rho, kst G s0 s1 s2 s3 s4⟩) (hrho : rho[2]? = some (some (.d (.o G.length)))) (hk : opd fk ⟨rho, kst G s0 s1 s2 s3 s4⟩ = .ok (.d kd) ⟨rho, kst G s0 s1 s2 s3 s4⟩) (hq : keyD kd = some k) (hl : s4.length < lim) : (sDPutM fv (eFld ["Known"] "told_facts" (eVar 2)) fk : Sm MX Out) ⟨rho, kst G s0 s1 s2 s3 s4⟩ = .ok .nx ⟨rho, kst G s0 s1 s2 s3 (putD s4 k x)⟩ := by
 have q : (eFld ["Known"] "told_facts" (eVar 2) : Sm MX S) ⟨rho, kst G s0 s1 s2 s3 s4⟩ = .ok (.d (.o (G.length + 10))) ⟨rho, kst G s0 s1 s2 s3 s4⟩ := fld_get (n := G.length) (c := "Known") (v_d hrho) (gA0 _ _ _) memK (lF4 _ _ _ _ _)
 have e : (kst G s0 s1 s2 s3 s4)[G.length + 10]? = some (.dK s4) := gAk _ _ _
 have q2 : opd (eFld ["Known"] "told_facts" (eVar 2) : Sm MX S) ⟨rho, kst G s0 s1 s2 s3 s4⟩ = .ok (.d (.o (G.length + 10))) ⟨rho, kst G s0 s1 s2 s3 s4⟩ := by simp only [opd, q, Rs.bind_ok]
 simp only [sDPutM, hv, q2, hk, Rs.bind_ok, dictAt, rd, e, Option.bind_some, hq]
 rw [if_pos hl]
 unfold kst
 rw [sAk]
 rfl
theorem wif_func (G : List MO) (s0 s1 s2 s3 s4 : List (Key × D)) (n0 : Nat) (nm : Str) (a r : D) (h0 : s0.length < lim) (h1 : s1.length < lim) (h2 : s2.length < lim) (h3 : s3.length < lim) (h4 : s4.length < lim) : wIf ⟨[some (.d (.o n0)), some (.d (.tup [.str "func", .str nm, a, r])), some (.d (.o G.length)), some (.d (.str "func")), some (.d (.str nm)), none], kst G s0 s1 s2 s3 s4⟩ = .ok .nx ⟨[some (.d (.o n0)), some (.d (.tup [.str "func", .str nm, a, r])), some (.d (.o G.length)), some (.d (.str "func")), some (.d (.str nm)), none], kst G s0 (putD s1 (.inr nm) (.tup [a, r])) s2 s3 s4⟩ := by
 unfold wIf
 have t1 : ((tOf (eBin dEq (eVar 3) (eC (.str "sort")))) : Sm MX Bool) ⟨[some (.d (.o n0)), some (.d (.tup [.str "func", .str nm, a, r])), some (.d (.o G.length)), some (.d (.str "func")), some (.d (.str nm)), none], kst G s0 s1 s2 s3 s4⟩ = .ok false ⟨[some (.d (.o n0)), some (.d (.tup [.str "func", .str nm, a, r])), some (.d (.o G.length)), some (.d (.str "func")), some (.d (.str nm)), none], kst G s0 s1 s2 s3 s4⟩ := by kernel_rfl
 have t2 : ((tOf (eBin dEq (eVar 3) (eC (.str "func")))) : Sm MX Bool) ⟨[some (.d (.o n0)), some (.d (.tup [.str "func", .str nm, a, r])), some (.d (.o G.length)), some (.d (.str "func")), some (.d (.str nm)), none], kst G s0 s1 s2 s3 s4⟩ = .ok true ⟨[some (.d (.o n0)), some (.d (.tup [.str "func", .str nm, a, r])), some (.d (.o G.length)), some (.d (.str "func")), some (.d (.str nm)), none], kst G s0 s1 s2 s3 s4⟩ := by kernel_rfl
 rw [if_f t1]
 rw [if_t t2]
 exact dput1 (kd := .str nm) (by kernel_rfl) rfl (by kernel_rfl) rfl h1
theorem wif_rel (G : List MO) (s0 s1 s2 s3 s4 : List (Key × D)) (n0 : Nat) (nm : Str) (a : D) (h0 : s0.length < lim) (h1 : s1.length < lim) (h2 : s2.length < lim) (h3 : s3.length < lim) (h4 : s4.length < lim) : wIf ⟨[some (.d (.o n0)), some (.d (.tup [.str "rel", .str nm, a])), some (.d (.o G.length)), some (.d (.str "rel")), some (.d (.str nm)), none], kst G s0 s1 s2 s3 s4⟩ = .ok .nx ⟨[some (.d (.o n0)), some (.d (.tup [.str "rel", .str nm, a])), some (.d (.o G.length)), some (.d (.str "rel")), some (.d (.str nm)), none], kst G s0 s1 (putD s2 (.inr nm) a) s3 s4⟩ := by
 unfold wIf
 have t1 : ((tOf (eBin dEq (eVar 3) (eC (.str "sort")))) : Sm MX Bool) ⟨[some (.d (.o n0)), some (.d (.tup [.str "rel", .str nm, a])), some (.d (.o G.length)), some (.d (.str "rel")), some (.d (.str nm)), none], kst G s0 s1 s2 s3 s4⟩ = .ok false ⟨[some (.d (.o n0)), some (.d (.tup [.str "rel", .str nm, a])), some (.d (.o G.length)), some (.d (.str "rel")), some (.d (.str nm)), none], kst G s0 s1 s2 s3 s4⟩ := by kernel_rfl
 have t2 : ((tOf (eBin dEq (eVar 3) (eC (.str "func")))) : Sm MX Bool) ⟨[some (.d (.o n0)), some (.d (.tup [.str "rel", .str nm, a])), some (.d (.o G.length)), some (.d (.str "rel")), some (.d (.str nm)), none], kst G s0 s1 s2 s3 s4⟩ = .ok false ⟨[some (.d (.o n0)), some (.d (.tup [.str "rel", .str nm, a])), some (.d (.o G.length)), some (.d (.str "rel")), some (.d (.str nm)), none], kst G s0 s1 s2 s3 s4⟩ := by kernel_rfl
 rw [if_f t1]
 rw [if_f t2]
 have t3 : ((tOf (eBin dIn (eVar 3) (eTup (aCons (escf (eC (.str "taken"))) (aCons (escf (eC (.str "shown"))) aNil))))) : Sm MX Bool) ⟨[some (.d (.o n0)), some (.d (.tup [.str "rel", .str nm, a])), some (.d (.o G.length)), some (.d (.str "rel")), some (.d (.str nm)), none], kst G s0 s1 s2 s3 s4⟩ = .ok false ⟨[some (.d (.o n0)), some (.d (.tup [.str "rel", .str nm, a])), some (.d (.o G.length)), some (.d (.str "rel")), some (.d (.str nm)), none], kst G s0 s1 s2 s3 s4⟩ := by kernel_rfl
 rw [if_f t3]
 have p1 : ((sDPutM (eBin dIx (eVar 1) (eC (.int 2))) (eFld ["Known"] "told_rels" (eVar 2)) (eVar 4)) : Sm MX Out) ⟨[some (.d (.o n0)), some (.d (.tup [.str "rel", .str nm, a])), some (.d (.o G.length)), some (.d (.str "rel")), some (.d (.str nm)), none], kst G s0 s1 s2 s3 s4⟩ = .ok .nx ⟨[some (.d (.o n0)), some (.d (.tup [.str "rel", .str nm, a])), some (.d (.o G.length)), some (.d (.str "rel")), some (.d (.str nm)), none], kst G s0 s1 (putD s2 (.inr nm) a) s3 s4⟩ := dput2 (kd := .str nm) (by kernel_rfl) rfl (by kernel_rfl) rfl h2
 rw [seq_nx p1]
 have t4 : ((tOf (eBin dEq (eVar 3) (eC (.str "mean")))) : Sm MX Bool) ⟨[some (.d (.o n0)), some (.d (.tup [.str "rel", .str nm, a])), some (.d (.o G.length)), some (.d (.str "rel")), some (.d (.str nm)), none], kst G s0 s1 (putD s2 (.inr nm) a) s3 s4⟩ = .ok false ⟨[some (.d (.o n0)), some (.d (.tup [.str "rel", .str nm, a])), some (.d (.o G.length)), some (.d (.str "rel")), some (.d (.str nm)), none], kst G s0 s1 (putD s2 (.inr nm) a) s3 s4⟩ := by kernel_rfl
 rw [if_f t4]
 rfl
theorem wif_mean (G : List MO) (s0 s1 s2 s3 s4 : List (Key × D)) (n0 : Nat) (nm : Str) (a s : D) (h0 : s0.length < lim) (h1 : s1.length < lim) (h2 : s2.length < lim) (h3 : s3.length < lim) (h4 : s4.length < lim) : wIf ⟨[some (.d (.o n0)), some (.d (.tup [.str "mean", .str nm, a, s])), some (.d (.o G.length)), some (.d (.str "mean")), some (.d (.str nm)), none], kst G s0 s1 s2 s3 s4⟩ = .ok .nx ⟨[some (.d (.o n0)), some (.d (.tup [.str "mean", .str nm, a, s])), some (.d (.o G.length)), some (.d (.str "mean")), some (.d (.str nm)), none], kst G s0 s1 (putD s2 (.inr nm) a) (putD s3 (.inr nm) s) s4⟩ := by
 unfold wIf
 have t1 : ((tOf (eBin dEq (eVar 3) (eC (.str "sort")))) : Sm MX Bool) ⟨[some (.d (.o n0)), some (.d (.tup [.str "mean", .str nm, a, s])), some (.d (.o G.length)), some (.d (.str "mean")), some (.d (.str nm)), none], kst G s0 s1 s2 s3 s4⟩ = .ok false ⟨[some (.d (.o n0)), some (.d (.tup [.str "mean", .str nm, a, s])), some (.d (.o G.length)), some (.d (.str "mean")), some (.d (.str nm)), none], kst G s0 s1 s2 s3 s4⟩ := by kernel_rfl
 have t2 : ((tOf (eBin dEq (eVar 3) (eC (.str "func")))) : Sm MX Bool) ⟨[some (.d (.o n0)), some (.d (.tup [.str "mean", .str nm, a, s])), some (.d (.o G.length)), some (.d (.str "mean")), some (.d (.str nm)), none], kst G s0 s1 s2 s3 s4⟩ = .ok false ⟨[some (.d (.o n0)), some (.d (.tup [.str "mean", .str nm, a, s])), some (.d (.o G.length)), some (.d (.str "mean")), some (.d (.str nm)), none], kst G s0 s1 s2 s3 s4⟩ := by kernel_rfl
 rw [if_f t1]
 rw [if_f t2]
 have t3 : ((tOf (eBin dIn (eVar 3) (eTup (aCons (escf (eC (.str "taken"))) (aCons (escf (eC (.str "shown"))) aNil))))) : Sm MX Bool) ⟨[some (.d (.o n0)), some (.d (.tup [.str "mean", .str nm, a, s])), some (.d (.o G.length)), some (.d (.str "mean")), some (.d (.str nm)), none], kst G s0 s1 s2 s3 s4⟩ = .ok false ⟨[some (.d (.o n0)), some (.d (.tup [.str "mean", .str nm, a, s])), some (.d (.o G.length)), some (.d (.str "mean")), some (.d (.str nm)), none], kst G s0 s1 s2 s3 s4⟩ := by kernel_rfl
 rw [if_f t3]
 have p1 : ((sDPutM (eBin dIx (eVar 1) (eC (.int 2))) (eFld ["Known"] "told_rels" (eVar 2)) (eVar 4)) : Sm MX Out) ⟨[some (.d (.o n0)), some (.d (.tup [.str "mean", .str nm, a, s])), some (.d (.o G.length)), some (.d (.str "mean")), some (.d (.str nm)), none], kst G s0 s1 s2 s3 s4⟩ = .ok .nx ⟨[some (.d (.o n0)), some (.d (.tup [.str "mean", .str nm, a, s])), some (.d (.o G.length)), some (.d (.str "mean")), some (.d (.str nm)), none], kst G s0 s1 (putD s2 (.inr nm) a) s3 s4⟩ := dput2 (kd := .str nm) (by kernel_rfl) rfl (by kernel_rfl) rfl h2
 rw [seq_nx p1]
 have t4 : ((tOf (eBin dEq (eVar 3) (eC (.str "mean")))) : Sm MX Bool) ⟨[some (.d (.o n0)), some (.d (.tup [.str "mean", .str nm, a, s])), some (.d (.o G.length)), some (.d (.str "mean")), some (.d (.str nm)), none], kst G s0 s1 (putD s2 (.inr nm) a) s3 s4⟩ = .ok true ⟨[some (.d (.o n0)), some (.d (.tup [.str "mean", .str nm, a, s])), some (.d (.o G.length)), some (.d (.str "mean")), some (.d (.str nm)), none], kst G s0 s1 (putD s2 (.inr nm) a) s3 s4⟩ := by kernel_rfl
 rw [if_t t4]
 exact dput3 (kd := .str nm) (by kernel_rfl) rfl (by kernel_rfl) rfl h3
theorem wif_taken (G : List MO) (s0 s1 s2 s3 s4 : List (Key × D)) (n0 : Nat) (nm : Str) (t : D) (h0 : s0.length < lim) (h1 : s1.length < lim) (h2 : s2.length < lim) (h3 : s3.length < lim) (h4 : s4.length < lim) : wIf ⟨[some (.d (.o n0)), some (.d (.tup [.str "taken", .str nm, t])), some (.d (.o G.length)), some (.d (.str "taken")), some (.d (.str nm)), none], kst G s0 s1 s2 s3 s4⟩ = .ok .nx ⟨[some (.d (.o n0)), some (.d (.tup [.str "taken", .str nm, t])), some (.d (.o G.length)), some (.d (.str "taken")), some (.d (.str nm)), none], kst G s0 s1 s2 s3 (putD s4 (.inr nm) t)⟩ := by
 unfold wIf
 have t1 : ((tOf (eBin dEq (eVar 3) (eC (.str "sort")))) : Sm MX Bool) ⟨[some (.d (.o n0)), some (.d (.tup [.str "taken", .str nm, t])), some (.d (.o G.length)), some (.d (.str "taken")), some (.d (.str nm)), none], kst G s0 s1 s2 s3 s4⟩ = .ok false ⟨[some (.d (.o n0)), some (.d (.tup [.str "taken", .str nm, t])), some (.d (.o G.length)), some (.d (.str "taken")), some (.d (.str nm)), none], kst G s0 s1 s2 s3 s4⟩ := by kernel_rfl
 have t2 : ((tOf (eBin dEq (eVar 3) (eC (.str "func")))) : Sm MX Bool) ⟨[some (.d (.o n0)), some (.d (.tup [.str "taken", .str nm, t])), some (.d (.o G.length)), some (.d (.str "taken")), some (.d (.str nm)), none], kst G s0 s1 s2 s3 s4⟩ = .ok false ⟨[some (.d (.o n0)), some (.d (.tup [.str "taken", .str nm, t])), some (.d (.o G.length)), some (.d (.str "taken")), some (.d (.str nm)), none], kst G s0 s1 s2 s3 s4⟩ := by kernel_rfl
 rw [if_f t1]
 rw [if_f t2]
 have t3 : ((tOf (eBin dIn (eVar 3) (eTup (aCons (escf (eC (.str "taken"))) (aCons (escf (eC (.str "shown"))) aNil))))) : Sm MX Bool) ⟨[some (.d (.o n0)), some (.d (.tup [.str "taken", .str nm, t])), some (.d (.o G.length)), some (.d (.str "taken")), some (.d (.str nm)), none], kst G s0 s1 s2 s3 s4⟩ = .ok true ⟨[some (.d (.o n0)), some (.d (.tup [.str "taken", .str nm, t])), some (.d (.o G.length)), some (.d (.str "taken")), some (.d (.str nm)), none], kst G s0 s1 s2 s3 s4⟩ := by kernel_rfl
 rw [if_t t3]
 exact dput4 (kd := .str nm) (by kernel_rfl) rfl (by kernel_rfl) rfl h4
inductive En where
  | sort (n : Str) (ms : List Str)
  | func (n : Str) (as : List Str) (s : Str)
  | rel (n : Str) (as : List Str)
  | mean (n : Str) (as : List Str) (d : D)
  | taken (n : Str) (d : D)
noncomputable def enD : En → D
 | .sort n ms => .tup [.str (Str.ofString "sort"), .str n, arD ms]
 | .func n as s => .tup [.str (Str.ofString "func"), .str n, arD as, .str s]
 | .rel n as => .tup [.str (Str.ofString "rel"), .str n, arD as]
 | .mean n as d => .tup [.str (Str.ofString "mean"), .str n, arD as, d]
 | .taken n d => .tup [.str (Str.ofString "taken"), .str n, d]
noncomputable def En.kd : En → Str
 | .sort _ _ => Str.ofString "sort"
 | .func _ _ _ => Str.ofString "func"
 | .rel _ _ => Str.ofString "rel"
 | .mean _ _ _ => Str.ofString "mean"
 | .taken _ _ => Str.ofString "taken"
noncomputable def En.nm : En → Str
 | .sort n _ => n
 | .func n _ _ => n
 | .rel n _ => n
 | .mean n _ _ => n
 | .taken n _ => n
noncomputable def putL {α : Type} (l : List (Str × α)) (k : Str) (v : α) : List (Str × α) := if (l.any fun p => decide (p.1 = k)) = true then l.map (fun p => if p.1 = k then (p.1, v) else p) else l ++ [(k, v)]
theorem put_dk {α : Type} (f : α → D) (l : List (Str × α)) (k : Str) (v : α) : putD (dk f l) (.inr k) (f v) = dk f (putL l k v) := by
 have e1 : ((dk f l).any fun kv => decide (kv.1 = (.inr k : Key))) = (l.any fun p => decide (p.1 = k)) := by
  induction l with
  | nil => rfl
  | cons p r ih =>
   rw [dk, List.map_cons, List.any_cons, List.any_cons]
   have ih' : ((r.map fun p => ((.inr p.1 : Key), f p.2)).any fun kv => decide (kv.1 = (.inr k : Key))) = (r.any fun p => decide (p.1 = k)) := ih
   rw [ih']
   congr 1
   exact decide_eq_decide.mpr ⟨fun h => Sum.inr.inj h, fun h => by rw [h]⟩
 unfold putD putL
 rw [e1]
 by_cases h : (l.any fun p => decide (p.1 = k)) = true
 ·rw [if_pos h, if_pos h]
  unfold dk
  rw [List.map_map, List.map_map]
  refine List.map_congr_left fun p _ => ?_
  by_cases e : p.1 = k
  ·simp [e]
  ·simp [e]
 ·rw [if_neg h, if_neg h]
  unfold dk
  rw [List.map_append]
  rfl
theorem putL_len {α : Type} (l : List (Str × α)) (k : Str) (v : α) : (putL l k v).length ≤ l.length + 1 := by
 unfold putL
 split
 ·rw [List.length_map]; omega
 ·rw [List.length_append]; simp
noncomputable def memC (n : Str) (ms : List Str) (c : List (Str × (List Str × Str))) : List (Str × (List Str × Str)) := ms.foldl (fun c m => putL c m ([], n)) c
theorem memC_len (n : Str) : ∀ (ms : List Str) (c : List (Str × (List Str × Str))), (memC n ms c).length ≤ c.length + ms.length
 | [], c => Nat.le_refl _
 | m :: r, c => by
  have := memC_len n r (putL c m ([], n))
  have := putL_len c m (([] : List Str), n)
  show (memC n r (putL c m ([], n))).length ≤ _
  rw [List.length_cons]
  omega
noncomputable def addE (E : Ent) : En → Ent
 | .sort n ms => { E with so := putL E.so n ms, ca := memC n ms E.ca }
 | .func n as s => { E with ca := putL E.ca n (as, s) }
 | .rel n as => { E with re := putL E.re n as }
 | .mean n as d => { E with re := putL E.re n as, me := putL E.me n d }
 | .taken n d => { E with fa := putL E.fa n d }
noncomputable def En.w : En → Nat
 | .sort _ ms => ms.length + 1
 | _ => 1
noncomputable def Ent.big (E : Ent) (B : Nat) : Prop := E.so.length ≤ B ∧ E.ca.length ≤ B ∧ E.re.length ≤ B ∧ E.me.length ≤ B ∧ E.fa.length ≤ B
theorem Ent.big_add {E : Ent} {B : Nat} (h : E.big B) (e : En) : (addE E e).big (B + e.w) := by
 obtain ⟨h0, h1, h2, h3, h4⟩ := h
 have p1 : ∀ {α : Type} (l : List (Str × α)) (k : Str) (v : α), l.length ≤ B → (putL l k v).length ≤ B + 1 := fun l k v h => Nat.le_trans (putL_len l k v) (by omega)
 cases e with
 | sort n ms => exact ⟨Nat.le_trans (p1 _ _ _ h0) (by simp only [En.w]; omega), Nat.le_trans (memC_len n ms _) (by simp only [En.w]; omega), by simp only [En.w]; exact Nat.le_trans h2 (by omega), Nat.le_trans h3 (by omega), Nat.le_trans h4 (by omega)⟩
 | func n as s => exact ⟨Nat.le_trans h0 (by omega), p1 _ _ _ h1, Nat.le_trans h2 (by omega), Nat.le_trans h3 (by omega), Nat.le_trans h4 (by omega)⟩
 | rel n as => exact ⟨Nat.le_trans h0 (by omega), Nat.le_trans h1 (by omega), p1 _ _ _ h2, Nat.le_trans h3 (by omega), Nat.le_trans h4 (by omega)⟩
 | mean n as d => exact ⟨Nat.le_trans h0 (by omega), Nat.le_trans h1 (by omega), p1 _ _ _ h2, p1 _ _ _ h3, Nat.le_trans h4 (by omega)⟩
 | taken n d => exact ⟨Nat.le_trans h0 (by omega), Nat.le_trans h1 (by omega), Nat.le_trans h2 (by omega), Nat.le_trans h3 (by omega), p1 _ _ _ h4⟩
theorem dk_len {α : Type} (f : α → D) (l : List (Str × α)) : (dk f l).length = l.length := List.length_map _
theorem ws_loop (G : List MO) (s0 s2 s3 s4 : List (Key × D)) (n0 : Nat) (X : D) (nm : Str) : ∀ (ls : List Str) (c : List (Str × (List Str × Str))) (x : Option S), c.length + ls.length < lim → ∃ x', forL (M := MX) (kName 5) (sDPutM (eTup (aCons (escf (eTup aNil)) (aCons (escf (eVar 4)) aNil))) (eFld ["Known"] "told_calls" (eVar 2)) (eVar 5)) (ls.map D.str) ⟨[some (.d (.o n0)), some (.d X), some (.d (.o G.length)), some (.d (.str (Str.ofString "sort"))), some (.d (.str nm)), x], kst G s0 (dk sgD c) s2 s3 s4⟩ = .ok .nx ⟨[some (.d (.o n0)), some (.d X), some (.d (.o G.length)), some (.d (.str (Str.ofString "sort"))), some (.d (.str nm)), x'], kst G s0 (dk sgD (memC nm ls c)) s2 s3 s4⟩
 | [], c, x, _ => ⟨x, rfl⟩
 | k :: r, c, x, h => by
  rw [List.length_cons] at h
  have e := dput1 (rho := [some (.d (.o n0)), some (.d X), some (.d (.o G.length)), some (.d (.str (Str.ofString "sort"))), some (.d (.str nm)), some (.d (.str k))]) (G := G) (s0 := s0) (s1 := dk sgD c) (s2 := s2) (s3 := s3) (s4 := s4) (fv := (eTup (aCons (escf (eTup aNil)) (aCons (escf (eVar 4)) aNil)))) (fk := eVar 5) (x := .tup [.tup [], .str nm]) (k := .inr k) (kd := .str k) (by kernel_rfl) rfl (by kernel_rfl) rfl (by rw [dk_len]; omega)
  obtain ⟨x', i⟩ := ws_loop G s0 s2 s3 s4 n0 X nm r (putL c k ([], nm)) (some (.d (.str k))) (by have := putL_len c k (([] : List Str), nm); omega)
  refine ⟨x', ?_⟩
  have ep : putD (dk sgD c) (.inr k) (.tup [.tup [], .str nm]) = dk sgD (putL c k ([], nm)) := put_dk sgD c k ([], nm)
  rw [ep] at e
  rw [List.map_cons]
  show (((sDPutM (eTup (aCons (escf (eTup aNil)) (aCons (escf (eVar 4)) aNil))) (eFld ["Known"] "told_calls" (eVar 2)) (eVar 5)) : Sm MX Out) ⟨[some (.d (.o n0)), some (.d X), some (.d (.o G.length)), some (.d (.str (Str.ofString "sort"))), some (.d (.str nm)), some (.d (.str k))], kst G s0 (dk sgD c) s2 s3 s4⟩).bind _ = _
  rw [e]
  exact i
theorem wif_sort (G : List MO) (E : Ent) (s2 s3 s4 : List (Key × D)) (n0 : Nat) (nm : Str) (ks : List Str) (h0 : E.so.length < lim) (h1 : E.ca.length + ks.length < lim) : ∃ x', wIf ⟨[some (.d (.o n0)), some (.d (.tup [.str (Str.ofString "sort"), .str nm, arD ks])), some (.d (.o G.length)), some (.d (.str (Str.ofString "sort"))), some (.d (.str nm)), none], kst G (dk arD E.so) (dk sgD E.ca) s2 s3 s4⟩ = .ok .nx ⟨[some (.d (.o n0)), some (.d (.tup [.str (Str.ofString "sort"), .str nm, arD ks])), some (.d (.o G.length)), some (.d (.str (Str.ofString "sort"))), some (.d (.str nm)), x'], kst G (dk arD (putL E.so nm ks)) (dk sgD (memC nm ks E.ca)) s2 s3 s4⟩ := by
 obtain ⟨x', e⟩ := ws_loop G (dk arD (putL E.so nm ks)) s2 s3 s4 n0 (.tup [.str (Str.ofString "sort"), .str nm, arD ks]) nm ks E.ca none h1
 refine ⟨x', ?_⟩
 unfold wIf
 have t1 : ((tOf (eBin dEq (eVar 3) (eC (.str "sort")))) : Sm MX Bool) ⟨[some (.d (.o n0)), some (.d (.tup [.str (Str.ofString "sort"), .str nm, arD ks])), some (.d (.o G.length)), some (.d (.str (Str.ofString "sort"))), some (.d (.str nm)), none], kst G (dk arD E.so) (dk sgD E.ca) s2 s3 s4⟩ = .ok true ⟨[some (.d (.o n0)), some (.d (.tup [.str (Str.ofString "sort"), .str nm, arD ks])), some (.d (.o G.length)), some (.d (.str (Str.ofString "sort"))), some (.d (.str nm)), none], kst G (dk arD E.so) (dk sgD E.ca) s2 s3 s4⟩ := by kernel_rfl
 rw [if_t t1]
 have p1 := dput0 (rho := [some (.d (.o n0)), some (.d (.tup [.str (Str.ofString "sort"), .str nm, arD ks])), some (.d (.o G.length)), some (.d (.str (Str.ofString "sort"))), some (.d (.str nm)), none]) (G := G) (s0 := dk arD E.so) (s1 := dk sgD E.ca) (s2 := s2) (s3 := s3) (s4 := s4) (fv := (eBin dIx (eVar 1) (eC (.int 2)))) (fk := eVar 4) (x := arD ks) (k := .inr nm) (kd := .str nm) (by kernel_rfl) rfl (by kernel_rfl) rfl (by rw [dk_len]; exact h0)
 rw [put_dk] at p1
 rw [seq_nx p1]
 show (sFor (iAnyM (eBin dIx (eVar 1) (eC (.int 2)))) (kName 5) _ : Sm MX Out) _ = _
 have i0 : (iAnyM (eBin dIx (eVar 1) (eC (.int 2))) : Sm MX (List D)) ⟨[some (.d (.o n0)), some (.d (.tup [.str (Str.ofString "sort"), .str nm, arD ks])), some (.d (.o G.length)), some (.d (.str (Str.ofString "sort"))), some (.d (.str nm)), none], kst G (dk arD (putL E.so nm ks)) (dk sgD E.ca) s2 s3 s4⟩ = .ok (ks.map D.str) ⟨[some (.d (.o n0)), some (.d (.tup [.str (Str.ofString "sort"), .str nm, arD ks])), some (.d (.o G.length)), some (.d (.str (Str.ofString "sort"))), some (.d (.str nm)), none], kst G (dk arD (putL E.so nm ks)) (dk sgD E.ca) s2 s3 s4⟩ := by kernel_rfl
 simp only [sFor, i0, Rs.bind_ok]
 exact e
theorem kno_kst (G : List MO) (E : Ent) (hG : 3 ≤ G.length) : Kno (kst G (dk arD E.so) (dk sgD E.ca) (dk arD E.re) (dk id E.me) (dk id E.fa)) G.length E :=
 ⟨G.length + 6, G.length + 7, G.length + 8, G.length + 9, G.length + 10, gA0 _ _ _, ⟨gAk _ _ 6, gAk _ _ 7, gAk _ _ 8, gAk _ _ 9, gAk _ _ 10, by omega⟩⟩
theorem we_head {c : Fn → List S → List MO → Rs S (List MO)} {C : Sm MX Out} (G : List MO) (s0 s1 s2 s3 s4 : List (Key × D)) (n0 : Nat) (gs : List (Str × D)) (e : En) (hn : G[n0]? = some (.ins "Known" gs)) (hg : gs.lookup (Str.ofString "again") = none) (ha : c .Known_again [.d (.o n0)] G = .ok (.d (.o G.length)) (kst G s0 s1 s2 s3 s4)) :
  (sSeq (sSet 2 (eCall (c .Known_again) (aMeth "Known" "again" (eVar 0) aNil))) (sSeq (sAsg (eSl dSl (eVar 1) (fun z => .ok none z) (oInt (eC (.int 2)))) (kTup 2 (ksCons (kName 3) (ksCons (kName 4) ksNil)))) C) : Sm MX Out) ⟨[some (.d (.o n0)), some (.d (enD e)), none, none, none, none], G⟩ = C ⟨[some (.d (.o n0)), some (.d (enD e)), some (.d (.o G.length)), some (.d (.str e.kd)), some (.d (.str e.nm)), none], kst G s0 s1 s2 s3 s4⟩ := by
 have e1 : ((sSet 2 (eCall (c .Known_again) (aMeth "Known" "again" (eVar 0) aNil))) : Sm MX Out) ⟨[some (.d (.o n0)), some (.d (enD e)), none, none, none, none], G⟩ = .ok .nx ⟨[some (.d (.o n0)), some (.d (enD e)), some (.d (.o G.length)), none, none, none], kst G s0 s1 s2 s3 s4⟩ := by
  have q : (aMeth "Known" "again" (eVar 0) aNil : Sm MX (List S)) ⟨[some (.d (.o n0)), some (.d (enD e)), none, none, none, none], G⟩ = .ok [.d (.o n0)] ⟨[some (.d (.o n0)), some (.d (enD e)), none, none, none, none], G⟩ := by
   simp only [aMeth, opd, eVar, List.getElem?_cons_zero, Rs.bind_ok, insAt, rd, hn]
   rw [if_pos ⟨trivial, hg⟩]
   rfl
  simp only [sSet, una, eCall, q, Rs.bind_ok, List.all_cons, okArg, List.all_nil, Bool.and_self, if_true, ha, List.set_cons_succ, List.set_cons_zero]
 rw [seq_nx e1]
 refine seq_nx ?_
 cases e <;> kernel_rfl
theorem we_eq {c : Fn → List S → List MO → Rs S (List MO)} (ha : ∀ (G : List MO) (n n0 n1 n2 n3 n4 : Nat) (s0 s1 s2 s3 s4 : List (Key × D)), G[n]? = some (MO.ins "Known" (knFs n0 n1 n2 n3 n4)) → G[n0]? = some (.dK s0) → G[n1]? = some (.dK s1) → G[n2]? = some (.dK s2) → G[n3]? = some (.dK s3) → G[n4]? = some (.dK s4) → c .Known_again [.d (.o n)] G = .ok (.d (.o G.length)) (kst G s0 s1 s2 s3 s4))
  (G : List MO) (n B : Nat) (E : Ent) (e : En) (hG : 3 ≤ G.length) (hk : Kno G n E) (hb : E.big B) (hB : B + e.w < lim) : ∃ ext, fnM 6 (m_Known_with_entry c) [.d (.o n), .d (enD e)] G = .ok (.d (.o G.length)) (G ++ ext) ∧ Kno (G ++ ext) G.length (addE E e) := by
 obtain ⟨n0, n1, n2, n3, n4, hn, hd⟩ := hk
 have A := ha G n n0 n1 n2 n3 n4 _ _ _ _ _ hn hd.h0 hd.h1 hd.h2 hd.h3 hd.h4
 obtain ⟨b0, b1, b2, b3, b4⟩ := hb
 have wp : 1 ≤ e.w := by cases e <;> simp [En.w]
 have key : ∃ (x' : Option S), wIf ⟨[some (.d (.o n)), some (.d (enD e)), some (.d (.o G.length)), some (.d (.str e.kd)), some (.d (.str e.nm)), none], kst G (dk arD E.so) (dk sgD E.ca) (dk arD E.re) (dk id E.me) (dk id E.fa)⟩ = .ok .nx ⟨[some (.d (.o n)), some (.d (enD e)), some (.d (.o G.length)), some (.d (.str e.kd)), some (.d (.str e.nm)), x'], kst G (dk arD (addE E e).so) (dk sgD (addE E e).ca) (dk arD (addE E e).re) (dk id (addE E e).me) (dk id (addE E e).fa)⟩ := by
  cases e with
  | sort nm ks => exact wif_sort G E (dk arD E.re) (dk id E.me) (dk id E.fa) n nm ks (by omega) (by simp only [En.w] at hB; omega)
  | func nm as s =>
   have q := wif_func G (dk arD E.so) (dk sgD E.ca) (dk arD E.re) (dk id E.me) (dk id E.fa) n nm (arD as) (.str s) (by rw [dk_len]; omega) (by rw [dk_len]; omega) (by rw [dk_len]; omega) (by rw [dk_len]; omega) (by rw [dk_len]; omega)
   have ep : putD (dk sgD E.ca) (.inr nm) (.tup [arD as, .str s]) = dk sgD (putL E.ca nm (as, s)) := put_dk sgD E.ca nm (as, s)
   rw [ep] at q
   exact ⟨_, q⟩
  | rel nm as =>
   have q := wif_rel G (dk arD E.so) (dk sgD E.ca) (dk arD E.re) (dk id E.me) (dk id E.fa) n nm (arD as) (by rw [dk_len]; omega) (by rw [dk_len]; omega) (by rw [dk_len]; omega) (by rw [dk_len]; omega) (by rw [dk_len]; omega)
   rw [put_dk] at q
   exact ⟨_, q⟩
  | mean nm as d =>
   have q := wif_mean G (dk arD E.so) (dk sgD E.ca) (dk arD E.re) (dk id E.me) (dk id E.fa) n nm (arD as) d (by rw [dk_len]; omega) (by rw [dk_len]; omega) (by rw [dk_len]; omega) (by rw [dk_len]; omega) (by rw [dk_len]; omega)
   have ep : putD (dk id E.me) (.inr nm) d = dk id (putL E.me nm d) := put_dk id E.me nm d
   rw [put_dk, ep] at q
   exact ⟨_, q⟩
  | taken nm d =>
   have q := wif_taken G (dk arD E.so) (dk sgD E.ca) (dk arD E.re) (dk id E.me) (dk id E.fa) n nm d (by rw [dk_len]; omega) (by rw [dk_len]; omega) (by rw [dk_len]; omega) (by rw [dk_len]; omega) (by rw [dk_len]; omega)
   have ep : putD (dk id E.fa) (.inr nm) d = dk id (putL E.fa nm d) := put_dk id E.fa nm d
   rw [ep] at q
   exact ⟨_, q⟩
 obtain ⟨x', q⟩ := key
 refine ⟨_, ?_, kno_kst G (addE E e) hG⟩
 rw [fnM_R]
 unfold m_Known_with_entry
 have h := we_head (c := c) (C := (sSeq wIf (sRet (eVar 2)))) G _ _ _ _ _ n _ e hn (lM_again _ _ _ _ _) A
 refine Eq.trans (congrArg fnR ?_) (rfl : fnR (.ok (.rt (.d (.o G.length))) ⟨[some (.d (.o n)), some (.d (enD e)), some (.d (.o G.length)), some (.d (.str e.kd)), some (.d (.str e.nm)), x'], kst G (dk arD (addE E e).so) (dk sgD (addE E e).ca) (dk arD (addE E e).re) (dk id (addE E e).me) (dk id (addE E e).fa)⟩) = _)
 refine Eq.trans h ?_
 rw [seq_nx q]
 rfl
theorem init_mir (n : Nat) (G : List MO) : mir (n + 1) .Known___init__ [.d (.o G.length)] (G ++ [.ins "Known" []]) = .ok (.d .non) (G ++ [MO.ins "Known" (knFs (G.length + 1) (G.length + 2) (G.length + 3) (G.length + 4) (G.length + 5)), MO.dK [], MO.dK [], MO.dK [], MO.dK [], MO.dK []]) := init_eq (c := mir n) G
theorem again_mir (n : Nat) (G : List MO) (k n0 n1 n2 n3 n4 : Nat) (s0 s1 s2 s3 s4 : List (Key × D)) (hn : G[k]? = some (MO.ins "Known" (knFs n0 n1 n2 n3 n4))) (h0 : G[n0]? = some (.dK s0)) (h1 : G[n1]? = some (.dK s1)) (h2 : G[n2]? = some (.dK s2)) (h3 : G[n3]? = some (.dK s3)) (h4 : G[n4]? = some (.dK s4)) : mir (n + 3) .Known_again [.d (.o k)] G = .ok (.d (.o G.length)) (kst G s0 s1 s2 s3 s4) :=
 again_eq (c := mir (n + 2)) (ci := mirI (n + 2)) (fun G => init_mir n G) G k n0 n1 n2 n3 n4 s0 s1 s2 s3 s4 hn h0 h1 h2 h3 h4
theorem we_mir (n : Nat) (G : List MO) (k B : Nat) (E : Ent) (e : En) (hG : 3 ≤ G.length) (hk : Kno G k E) (hb : E.big B) (hB : B + e.w < lim) : ∃ ext, mir (n + 4) .Known_with_entry [.d (.o k), .d (enD e)] G = .ok (.d (.o G.length)) (G ++ ext) ∧ Kno (G ++ ext) G.length (addE E e) :=
 we_eq (c := mir (n + 3)) (again_mir n) G k B E e hG hk hb hB
noncomputable def E0 : Ent := ⟨[], [], [], [], []⟩
theorem E0_big (B : Nat) : E0.big B := ⟨Nat.zero_le _, Nat.zero_le _, Nat.zero_le _, Nat.zero_le _, Nat.zero_le _⟩
theorem make_mir (n : Nat) (rho : List (Option S)) (G : List MO) (hG : 3 ≤ G.length) : ∃ ext, (eMake "Known" (mir (n + 1) .Known___init__) aNil : Sm MX S) ⟨rho, G⟩ = .ok (.d (.o G.length)) ⟨rho, G ++ ext⟩ ∧ Kno (G ++ ext) G.length E0 :=
 ⟨_, make_eq (c := mir (n + 1)) (init_mir n) rho G, G.length + 1, G.length + 2, G.length + 3, G.length + 4, G.length + 5, gA0 _ _ _, ⟨gAk _ _ 1, gAk _ _ 2, gAk _ _ 3, gAk _ _ 4, gAk _ _ 5, by omega⟩⟩
noncomputable def rst (G : List MO) (s0 s1 s2 s3 s4 : List (Key × D)) : List MO := G ++ [MO.dK s0, MO.dK s1, MO.dK s2, MO.dK s3, MO.dK s4, MO.dK (rolPs G.length (G.length + 1) (G.length + 2) (G.length + 3) (G.length + 4))]
theorem rol_rst (G : List MO) (E : Ent) (hG : 3 ≤ G.length) : Rol (rst G (dk arD E.so) (dk sgD E.ca) (dk arD E.re) (dk id E.me) (dk id E.fa)) (G.length + 5) E :=
 ⟨G.length, G.length + 1, G.length + 2, G.length + 3, G.length + 4, gAk _ _ 5, ⟨gA0 _ _ _, gAk _ _ 1, gAk _ _ 2, gAk _ _ 3, gAk _ _ 4, by omega⟩, by omega, by omega, by omega, by omega, by omega⟩
theorem roll_eq {c : Fn → List S → List MO → Rs S (List MO)} (G : List MO) (hG : 3 ≤ G.length) : ∃ ext, fnM 0 (m__law_roll c) [] G = .ok (.d (.o G.length)) (G ++ ext) ∧ Rol (G ++ ext) G.length E0 := by
 refine ⟨[MO.dK (rolPs (G.length + 1) (G.length + 2) (G.length + 3) (G.length + 4) (G.length + 5)), MO.dK [], MO.dK [], MO.dK [], MO.dK [], MO.dK []], ?_, G.length + 1, G.length + 2, G.length + 3, G.length + 4, G.length + 5, gA0 _ _ _, ⟨gAk _ _ 1, gAk _ _ 2, gAk _ _ 3, gAk _ _ 4, gAk _ _ 5, by omega⟩, by omega, by omega, by omega, by omega, by omega⟩
 rw [fnM_R]
 unfold m__law_roll
 simp only [sRet, una, eDispG, dKs, eNewD, escf, escS, Rs.bind_ok, List.append_assoc, List.cons_append, List.nil_append, gA0, List.length_cons, List.length_nil, Nat.reduceAdd, Nat.reduceLeDiff, if_true, sA0, lA, List.map_nil, List.replicate, Nat.reduceSub]
 have mg : ∀ a b c d e : Nat, mergeD [] [((.inr (Str.ofString "sorts") : Key), D.o a), (.inr (Str.ofString "calls"), D.o b), (.inr (Str.ofString "rels"), D.o c), (.inr (Str.ofString "means"), D.o d), (.inr (Str.ofString "facts"), D.o e)] = rolPs a b c d e := fun a b c d e => by kernel_rfl
 rw [mg]
 rfl
theorem w_step {r n : Nat} {od : Obj} {kvs : List (Key × V)} {ps : List (Key × D)} {x : Str} {s : List (Key × D)} {rho1 : Option S} {M ext : List MO} (hm : M[r]? = some (.fz od kvs ps)) (hv : valD ps (.inr x) = some (.o n)) (hn : M[n]? = some (.dK s)) (ds acc : List D) (ha : acc.length < lim) :
  lcLF (r, od, kvs, ps) (kName 4) (fun z => .ok true z) (eTup (aCons (escf (eVar 4)) (aCons (escf (eDCopy (eDIxF (eVar 0) (eVar 4)))) aNil))) [4] (.str x :: ds) acc ⟨[some (.d (.o r)), rho1, none, none, none], M ++ ext⟩ = lcLF (r, od, kvs, ps) (kName 4) (fun z => .ok true z) (eTup (aCons (escf (eVar 4)) (aCons (escf (eDCopy (eDIxF (eVar 0) (eVar 4)))) aNil))) [4] ds (acc ++ [.tup [.str x, .o (M.length + ext.length)]]) ⟨[some (.d (.o r)), rho1, none, none, none], M ++ (ext ++ [.dK s])⟩ := by
 conv => lhs; unfold lcLF
 rw [if_pos (gfB_t (g := (r, od, kvs, ps)) (m := M ++ ext) (gP hm))]
 have e1 : (escf (eTup (aCons (escf (eVar 4)) (aCons (escf (eDCopy (eDIxF (eVar 0) (eVar 4)))) aNil))) : Sm MX S) ⟨[some (.d (.o r)), rho1, none, none, some (.d (.str x))], M ++ ext⟩ = .ok (.d (.tup [.str x, .o (M.length + ext.length)])) ⟨[some (.d (.o r)), rho1, none, none, some (.d (.str x))], M ++ (ext ++ [.dK s])⟩ := by
  have h1 : (M ++ ext)[r]? = some (.fz od kvs ps) := gP hm
  have h2 : (M ++ ext)[n]? = some (.dK s) := gP hn
  walk_at "z"
  simp only [eDCopy, eDIxF, opd, eVar, List.getElem?_cons_zero, List.getElem?_cons_succ, Rs.bind_ok, fzAt, rd, h1, keyD, Option.bind_some, hv, dictAt, h2, List.length_append, List.append_assoc]
  walk_at "z"
 simp only [kName, List.set_cons_succ, List.set_cons_zero, nox, Rs.bind_ok, if_true, e1]
 rw [if_pos ha]
 rfl
theorem w_copy {r n0 n1 n2 n3 n4 : Nat} {s0 s1 s2 s3 s4 : List (Key × D)} {rho1 : Option S} {G : List MO} (hm : G[r]? = some (.dK (rolPs n0 n1 n2 n3 n4))) (h0 : G[n0]? = some (.dK s0)) (h1 : G[n1]? = some (.dK s1)) (h2 : G[n2]? = some (.dK s2)) (h3 : G[n3]? = some (.dK s3)) (h4 : G[n4]? = some (.dK s4)) (d0 : n0 ≠ r) (d1 : n1 ≠ r) (d2 : n2 ≠ r) (d3 : n3 ≠ r) (d4 : n4 ≠ r) :
  (eLk 0 (eDPairs (eLcF (iKyF (eVar 0)) (kName 4) (fun z => .ok true z) (eTup (aCons (escf (eVar 4)) (aCons (escf (eDCopy (eDIxF (eVar 0) (eVar 4)))) aNil))) [4])) : Sm MX S) ⟨[some (.d (.o r)), rho1, none, none, none], G⟩ = .ok (.d (.o (G.length + 5))) ⟨[some (.d (.o r)), rho1, none, none, none], rst G s0 s1 s2 s3 s4⟩ := by
 unfold eLk
 simp only [List.getElem?_cons_zero, hm]
 haveI : Nonempty (Obj × List (Key × V)) := ⟨⟨{ cls := .none, data := .fields #[] }, []⟩⟩
 refine lkR_eq fun q => ?_
 obtain ⟨od, kvs⟩ := q
 have hr : r < G.length := (List.getElem?_eq_some_iff.mp hm).1
 have hM : (G.set r (.fz od kvs (rolPs n0 n1 n2 n3 n4)))[r]? = some (.fz od kvs (rolPs n0 n1 n2 n3 n4)) := List.getElem?_set_self hr
 have hne : ∀ {n : Nat} {o : MO}, n ≠ r → G[n]? = some o → (G.set r (.fz od kvs (rolPs n0 n1 n2 n3 n4)))[n]? = some o := fun h e => by rw [List.getElem?_set_ne (Ne.symm h)]; exact e
 have hl : (G.set r (.fz od kvs (rolPs n0 n1 n2 n3 n4))).length = G.length := List.length_set
 have hb : (G.set r (.fz od kvs (rolPs n0 n1 n2 n3 n4))).set r (.dK (rolPs n0 n1 n2 n3 n4)) = G := by
  rw [List.set_set]
  exact List.ext_getElem? fun k => by
   by_cases hk : k = r
   ·rw [hk, List.getElem?_set_self hr, hm]
   ·rw [List.getElem?_set_ne (Ne.symm hk)]
 generalize G.set r (.fz od kvs (rolPs n0 n1 n2 n3 n4)) = M at hM hne hl hb ⊢
 have it : (iKyF (eVar 0) : Sm MX (List D × Gf)) ⟨[some (.d (.o r)), rho1, none, none, none], M⟩ = .ok ([.str (Str.ofString "sorts"), .str (Str.ofString "calls"), .str (Str.ofString "rels"), .str (Str.ofString "means"), .str (Str.ofString "facts")], (r, od, kvs, rolPs n0 n1 n2 n3 n4)) ⟨[some (.d (.o r)), rho1, none, none, none], M⟩ := by
  simp only [iKyF, escf, eVar, List.getElem?_cons_zero, Rs.bind_ok, escS, hM]
  rfl
 have lc : (eLcF (iKyF (eVar 0)) (kName 4) (fun z => .ok true z) (eTup (aCons (escf (eVar 4)) (aCons (escf (eDCopy (eDIxF (eVar 0) (eVar 4)))) aNil))) [4] : Sm MX S) ⟨[some (.d (.o r)), rho1, none, none, none], M⟩ = .ok (.l [.tup [.str (Str.ofString "sorts"), .o M.length], .tup [.str (Str.ofString "calls"), .o (M.length + 1)], .tup [.str (Str.ofString "rels"), .o (M.length + 2)], .tup [.str (Str.ofString "means"), .o (M.length + 3)], .tup [.str (Str.ofString "facts"), .o (M.length + 4)]]) ⟨[some (.d (.o r)), rho1, none, none, none], M ++ [.dK s0, .dK s1, .dK s2, .dK s3, .dK s4]⟩ := by
  unfold eLcF
  rw [it, Rs.bind_ok, if_pos (by rfl)]
  have wz : wipeZ (M := MX) ⟨[some (.d (.o r)), rho1, none, none, none], M⟩ [4] = ⟨[some (.d (.o r)), rho1, none, none, none], M ++ []⟩ := by rw [List.append_nil]; rfl
  show (lcLF (r, od, kvs, rolPs n0 n1 n2 n3 n4) _ _ _ _ _ [] (wipeZ (M := MX) ⟨[some (.d (.o r)), rho1, none, none, none], M⟩ [4])).bind _ = _
  rw [wz, w_step hM (rv0 _ _ _ _ _) (hne d0 h0) _ _ (by show _ < 1000000; simp), w_step hM (rv1 _ _ _ _ _) (hne d1 h1) _ _ (by show _ < 1000000; simp), w_step hM (rv2 _ _ _ _ _) (hne d2 h2) _ _ (by show _ < 1000000; simp), w_step hM (rv3 _ _ _ _ _) (hne d3 h3) _ _ (by show _ < 1000000; simp), w_step hM (rv4 _ _ _ _ _) (hne d4 h4) _ _ (by show _ < 1000000; simp)]
  unfold lcLF
  rw [if_pos (gfB_t (g := (r, od, kvs, rolPs n0 n1 n2 n3 n4)) (gP hM))]
  rfl
 have pr : prsD [.tup [.str (Str.ofString "sorts"), .o M.length], .tup [.str (Str.ofString "calls"), .o (M.length + 1)], .tup [.str (Str.ofString "rels"), .o (M.length + 2)], .tup [.str (Str.ofString "means"), .o (M.length + 3)], .tup [.str (Str.ofString "facts"), .o (M.length + 4)]] = some (rolPs M.length (M.length + 1) (M.length + 2) (M.length + 3) (M.length + 4)) := rfl
 have mg : mergeD [] (rolPs M.length (M.length + 1) (M.length + 2) (M.length + 3) (M.length + 4)) = rolPs M.length (M.length + 1) (M.length + 2) (M.length + 3) (M.length + 4) := by kernel_rfl
 have ee : (eDPairs (eLcF (iKyF (eVar 0)) (kName 4) (fun z => .ok true z) (eTup (aCons (escf (eVar 4)) (aCons (escf (eDCopy (eDIxF (eVar 0) (eVar 4)))) aNil))) [4]) : Sm MX S) ⟨[some (.d (.o r)), rho1, none, none, none], M⟩ = .ok (.d (.o (M.length + 5))) ⟨[some (.d (.o r)), rho1, none, none, none], M ++ [.dK s0, .dK s1, .dK s2, .dK s3, .dK s4, .dK (rolPs M.length (M.length + 1) (M.length + 2) (M.length + 3) (M.length + 4))]⟩ := by
  simp only [eDPairs, opd, lc, Rs.bind_ok, rd, pr, mg, List.length_append, List.length_cons, List.length_nil, List.append_assoc, List.cons_append, List.nil_append]
 rw [ee]
 show (if gfB (r, od, kvs, rolPs n0 n1 n2 n3 n4) (M ++ _) = true then _ else _) = _
 rw [if_pos (gfB_t (g := (r, od, kvs, rolPs n0 n1 n2 n3 n4)) (gP hM))]
 simp only [List.set_append_left _ _ (show r < M.length by rw [hl]; exact hr), hb, hl]
 rfl
theorem rput0 {rho : List (Option S)} {G : List MO} {s0 s1 s2 s3 s4 : List (Key × D)} {fv fk : Sm MX S} {x : D} {k : Key} {kd : D} (hv : escf fv ⟨rho, rst G s0 s1 s2 s3 s4⟩ = .ok (.d x) ⟨rho, rst G s0 s1 s2 s3 s4⟩) (hrho : rho[2]? = some (some (.d (.o (G.length + 5))))) (hk : opd fk ⟨rho, rst G s0 s1 s2 s3 s4⟩ = .ok (.d kd) ⟨rho, rst G s0 s1 s2 s3 s4⟩) (hq : keyD kd = some k) (hl : s0.length < lim) : (sDPutM fv (eDIx (eVar 2) (eC (.str (Str.ofString "sorts")))) fk : Sm MX Out) ⟨rho, rst G s0 s1 s2 s3 s4⟩ = .ok .nx ⟨rho, rst G (putD s0 k x) s1 s2 s3 s4⟩ := by
 have hr : (rst G s0 s1 s2 s3 s4)[G.length + 5]? = some (.dK (rolPs G.length (G.length + 1) (G.length + 2) (G.length + 3) (G.length + 4))) := gAk _ _ 5
 have q : (eDIx (eVar 2) (eC (.str (Str.ofString "sorts"))) : Sm MX S) ⟨rho, rst G s0 s1 s2 s3 s4⟩ = .ok (.d (.o G.length)) ⟨rho, rst G s0 s1 s2 s3 s4⟩ := dix_at hrho hr (rv0 _ _ _ _ _)
 have e : (rst G s0 s1 s2 s3 s4)[G.length]? = some (.dK s0) := gA0 _ _ _
 have q2 : opd (eDIx (eVar 2) (eC (.str (Str.ofString "sorts"))) : Sm MX S) ⟨rho, rst G s0 s1 s2 s3 s4⟩ = .ok (.d (.o G.length)) ⟨rho, rst G s0 s1 s2 s3 s4⟩ := by simp only [opd, q, Rs.bind_ok]
 simp only [sDPutM, hv, q2, hk, Rs.bind_ok, dictAt, rd, e, Option.bind_some, hq]
 rw [if_pos hl]
 unfold rst
 rw [sA0]
theorem rput1 {rho : List (Option S)} {G : List MO} {s0 s1 s2 s3 s4 : List (Key × D)} {fv fk : Sm MX S} {x : D} {k : Key} {kd : D} (hv : escf fv ⟨rho, rst G s0 s1 s2 s3 s4⟩ = .ok (.d x) ⟨rho, rst G s0 s1 s2 s3 s4⟩) (hrho : rho[2]? = some (some (.d (.o (G.length + 5))))) (hk : opd fk ⟨rho, rst G s0 s1 s2 s3 s4⟩ = .ok (.d kd) ⟨rho, rst G s0 s1 s2 s3 s4⟩) (hq : keyD kd = some k) (hl : s1.length < lim) : (sDPutM fv (eDIx (eVar 2) (eC (.str (Str.ofString "calls")))) fk : Sm MX Out) ⟨rho, rst G s0 s1 s2 s3 s4⟩ = .ok .nx ⟨rho, rst G s0 (putD s1 k x) s2 s3 s4⟩ := by
 have hr : (rst G s0 s1 s2 s3 s4)[G.length + 5]? = some (.dK (rolPs G.length (G.length + 1) (G.length + 2) (G.length + 3) (G.length + 4))) := gAk _ _ 5
 have q : (eDIx (eVar 2) (eC (.str (Str.ofString "calls"))) : Sm MX S) ⟨rho, rst G s0 s1 s2 s3 s4⟩ = .ok (.d (.o (G.length + 1))) ⟨rho, rst G s0 s1 s2 s3 s4⟩ := dix_at hrho hr (rv1 _ _ _ _ _)
 have e : (rst G s0 s1 s2 s3 s4)[(G.length + 1)]? = some (.dK s1) := gAk _ _ 1
 have q2 : opd (eDIx (eVar 2) (eC (.str (Str.ofString "calls"))) : Sm MX S) ⟨rho, rst G s0 s1 s2 s3 s4⟩ = .ok (.d (.o (G.length + 1))) ⟨rho, rst G s0 s1 s2 s3 s4⟩ := by simp only [opd, q, Rs.bind_ok]
 simp only [sDPutM, hv, q2, hk, Rs.bind_ok, dictAt, rd, e, Option.bind_some, hq]
 rw [if_pos hl]
 unfold rst
 rw [sAk]
 rfl
theorem rput2 {rho : List (Option S)} {G : List MO} {s0 s1 s2 s3 s4 : List (Key × D)} {fv fk : Sm MX S} {x : D} {k : Key} {kd : D} (hv : escf fv ⟨rho, rst G s0 s1 s2 s3 s4⟩ = .ok (.d x) ⟨rho, rst G s0 s1 s2 s3 s4⟩) (hrho : rho[2]? = some (some (.d (.o (G.length + 5))))) (hk : opd fk ⟨rho, rst G s0 s1 s2 s3 s4⟩ = .ok (.d kd) ⟨rho, rst G s0 s1 s2 s3 s4⟩) (hq : keyD kd = some k) (hl : s2.length < lim) : (sDPutM fv (eDIx (eVar 2) (eC (.str (Str.ofString "rels")))) fk : Sm MX Out) ⟨rho, rst G s0 s1 s2 s3 s4⟩ = .ok .nx ⟨rho, rst G s0 s1 (putD s2 k x) s3 s4⟩ := by
 have hr : (rst G s0 s1 s2 s3 s4)[G.length + 5]? = some (.dK (rolPs G.length (G.length + 1) (G.length + 2) (G.length + 3) (G.length + 4))) := gAk _ _ 5
 have q : (eDIx (eVar 2) (eC (.str (Str.ofString "rels"))) : Sm MX S) ⟨rho, rst G s0 s1 s2 s3 s4⟩ = .ok (.d (.o (G.length + 2))) ⟨rho, rst G s0 s1 s2 s3 s4⟩ := dix_at hrho hr (rv2 _ _ _ _ _)
 have e : (rst G s0 s1 s2 s3 s4)[(G.length + 2)]? = some (.dK s2) := gAk _ _ 2
 have q2 : opd (eDIx (eVar 2) (eC (.str (Str.ofString "rels"))) : Sm MX S) ⟨rho, rst G s0 s1 s2 s3 s4⟩ = .ok (.d (.o (G.length + 2))) ⟨rho, rst G s0 s1 s2 s3 s4⟩ := by simp only [opd, q, Rs.bind_ok]
 simp only [sDPutM, hv, q2, hk, Rs.bind_ok, dictAt, rd, e, Option.bind_some, hq]
 rw [if_pos hl]
 unfold rst
 rw [sAk]
 rfl
theorem rput3 {rho : List (Option S)} {G : List MO} {s0 s1 s2 s3 s4 : List (Key × D)} {fv fk : Sm MX S} {x : D} {k : Key} {kd : D} (hv : escf fv ⟨rho, rst G s0 s1 s2 s3 s4⟩ = .ok (.d x) ⟨rho, rst G s0 s1 s2 s3 s4⟩) (hrho : rho[2]? = some (some (.d (.o (G.length + 5))))) (hk : opd fk ⟨rho, rst G s0 s1 s2 s3 s4⟩ = .ok (.d kd) ⟨rho, rst G s0 s1 s2 s3 s4⟩) (hq : keyD kd = some k) (hl : s3.length < lim) : (sDPutM fv (eDIx (eVar 2) (eC (.str (Str.ofString "means")))) fk : Sm MX Out) ⟨rho, rst G s0 s1 s2 s3 s4⟩ = .ok .nx ⟨rho, rst G s0 s1 s2 (putD s3 k x) s4⟩ := by
 have hr : (rst G s0 s1 s2 s3 s4)[G.length + 5]? = some (.dK (rolPs G.length (G.length + 1) (G.length + 2) (G.length + 3) (G.length + 4))) := gAk _ _ 5
 have q : (eDIx (eVar 2) (eC (.str (Str.ofString "means"))) : Sm MX S) ⟨rho, rst G s0 s1 s2 s3 s4⟩ = .ok (.d (.o (G.length + 3))) ⟨rho, rst G s0 s1 s2 s3 s4⟩ := dix_at hrho hr (rv3 _ _ _ _ _)
 have e : (rst G s0 s1 s2 s3 s4)[(G.length + 3)]? = some (.dK s3) := gAk _ _ 3
 have q2 : opd (eDIx (eVar 2) (eC (.str (Str.ofString "means"))) : Sm MX S) ⟨rho, rst G s0 s1 s2 s3 s4⟩ = .ok (.d (.o (G.length + 3))) ⟨rho, rst G s0 s1 s2 s3 s4⟩ := by simp only [opd, q, Rs.bind_ok]
 simp only [sDPutM, hv, q2, hk, Rs.bind_ok, dictAt, rd, e, Option.bind_some, hq]
 rw [if_pos hl]
 unfold rst
 rw [sAk]
 rfl
theorem rput4 {rho : List (Option S)} {G : List MO} {s0 s1 s2 s3 s4 : List (Key × D)} {fv fk : Sm MX S} {x : D} {k : Key} {kd : D} (hv : escf fv ⟨rho, rst G s0 s1 s2 s3 s4⟩ = .ok (.d x) ⟨rho, rst G s0 s1 s2 s3 s4⟩) (hrho : rho[2]? = some (some (.d (.o (G.length + 5))))) (hk : opd fk ⟨rho, rst G s0 s1 s2 s3 s4⟩ = .ok (.d kd) ⟨rho, rst G s0 s1 s2 s3 s4⟩) (hq : keyD kd = some k) (hl : s4.length < lim) : (sDPutM fv (eDIx (eVar 2) (eC (.str (Str.ofString "facts")))) fk : Sm MX Out) ⟨rho, rst G s0 s1 s2 s3 s4⟩ = .ok .nx ⟨rho, rst G s0 s1 s2 s3 (putD s4 k x)⟩ := by
 have hr : (rst G s0 s1 s2 s3 s4)[G.length + 5]? = some (.dK (rolPs G.length (G.length + 1) (G.length + 2) (G.length + 3) (G.length + 4))) := gAk _ _ 5
 have q : (eDIx (eVar 2) (eC (.str (Str.ofString "facts"))) : Sm MX S) ⟨rho, rst G s0 s1 s2 s3 s4⟩ = .ok (.d (.o (G.length + 4))) ⟨rho, rst G s0 s1 s2 s3 s4⟩ := dix_at hrho hr (rv4 _ _ _ _ _)
 have e : (rst G s0 s1 s2 s3 s4)[(G.length + 4)]? = some (.dK s4) := gAk _ _ 4
 have q2 : opd (eDIx (eVar 2) (eC (.str (Str.ofString "facts"))) : Sm MX S) ⟨rho, rst G s0 s1 s2 s3 s4⟩ = .ok (.d (.o (G.length + 4))) ⟨rho, rst G s0 s1 s2 s3 s4⟩ := by simp only [opd, q, Rs.bind_ok]
 simp only [sDPutM, hv, q2, hk, Rs.bind_ok, dictAt, rd, e, Option.bind_some, hq]
 rw [if_pos hl]
 unfold rst
 rw [sAk]
 rfl
noncomputable def rIf : Sm MX Out := (sIf (tOf (eBin dEq (eBin dIx (eVar 1) (eC (.int 0))) (eC (.str "sort")))) (sSeq (sDPutM (eBin dIx (eVar 1) (eC (.int 2))) (eDIx (eVar 2) (eC (.str "sorts"))) (eBin dIx (eVar 1) (eC (.int 1))))
  (sFor (iAnyM (eBin dIx (eVar 1) (eC (.int 2)))) (kName 3) (sDPutM (eTup (aCons (escf (eTup aNil)) (aCons (escf (eBin dIx (eVar 1) (eC (.int 1)))) aNil))) (eDIx (eVar 2) (eC (.str "calls"))) (eVar 3)))) (sIf (tOf (eBin dEq (eBin dIx (eVar 1) (eC (.int 0))) (eC (.str "func")))) (sDPutM (eSl dSl (eVar 1) (oInt (eC (.int 2))) (fun z => .ok none z)) (eDIx (eVar 2) (eC (.str "calls"))) (eBin dIx (eVar 1) (eC (.int 1)))) (sIf (tOf (eBin (dInW false) (eBin dIx (eVar 1) (eC (.int 0))) (eTup (aCons (escf (eC (.str "rel"))) (aCons (escf (eC (.str "mean"))) aNil))))) (sSeq (sDPutM (eBin dIx (eVar 1) (eC (.int 2))) (eDIx (eVar 2) (eC (.str "rels"))) (eBin dIx (eVar 1) (eC (.int 1))))
  (sIf (tOf (eBin dEq (eBin dIx (eVar 1) (eC (.int 0))) (eC (.str "mean")))) (sDPutM (eBin dIx (eVar 1) (eC (.int 3))) (eDIx (eVar 2) (eC (.str "means"))) (eBin dIx (eVar 1) (eC (.int 1)))) sNil)) (sDPutM (eBin dIx (eVar 1) (eC (.int 2))) (eDIx (eVar 2) (eC (.str "facts"))) (eBin dIx (eVar 1) (eC (.int 1)))))))
theorem rs_loop (G : List MO) (s0 s2 s3 s4 : List (Key × D)) (r : Nat) (ks : List Str) (nm : Str) : ∀ (ls : List Str) (c : List (Str × (List Str × Str))) (x : Option S), c.length + ls.length < lim → ∃ x', forL (M := MX) (kName 3) (sDPutM (eTup (aCons (escf (eTup aNil)) (aCons (escf (eBin dIx (eVar 1) (eC (.int 1)))) aNil))) (eDIx (eVar 2) (eC (.str (Str.ofString "calls")))) (eVar 3)) (ls.map D.str) ⟨[some (.d (.o r)), some (.d (.tup [.str (Str.ofString "sort"), .str nm, arD ks])), some (.d (.o (G.length + 5))), x, none], rst G s0 (dk sgD c) s2 s3 s4⟩ = .ok .nx ⟨[some (.d (.o r)), some (.d (.tup [.str (Str.ofString "sort"), .str nm, arD ks])), some (.d (.o (G.length + 5))), x', none], rst G s0 (dk sgD (memC nm ls c)) s2 s3 s4⟩
 | [], c, x, _ => ⟨x, rfl⟩
 | k :: t, c, x, h => by
  rw [List.length_cons] at h
  have e := rput1 (rho := [some (.d (.o r)), some (.d (.tup [.str (Str.ofString "sort"), .str nm, arD ks])), some (.d (.o (G.length + 5))), some (.d (.str k)), none]) (G := G) (s0 := s0) (s1 := dk sgD c) (s2 := s2) (s3 := s3) (s4 := s4) (fv := (eTup (aCons (escf (eTup aNil)) (aCons (escf (eBin dIx (eVar 1) (eC (.int 1)))) aNil)))) (fk := eVar 3) (x := .tup [.tup [], .str nm]) (k := .inr k) (kd := .str k) (by kernel_rfl) rfl (by kernel_rfl) rfl (by rw [dk_len]; omega)
  obtain ⟨x', i⟩ := rs_loop G s0 s2 s3 s4 r ks nm t (putL c k ([], nm)) (some (.d (.str k))) (by have := putL_len c k (([] : List Str), nm); omega)
  refine ⟨x', ?_⟩
  have ep : putD (dk sgD c) (.inr k) (.tup [.tup [], .str nm]) = dk sgD (putL c k ([], nm)) := put_dk sgD c k ([], nm)
  rw [ep] at e
  rw [List.map_cons]
  show (((sDPutM (eTup (aCons (escf (eTup aNil)) (aCons (escf (eBin dIx (eVar 1) (eC (.int 1)))) aNil))) (eDIx (eVar 2) (eC (.str (Str.ofString "calls")))) (eVar 3)) : Sm MX Out) ⟨[some (.d (.o r)), some (.d (.tup [.str (Str.ofString "sort"), .str nm, arD ks])), some (.d (.o (G.length + 5))), some (.d (.str k)), none], rst G s0 (dk sgD c) s2 s3 s4⟩).bind _ = _
  rw [e]
  exact i
theorem rif_eq (G : List MO) (E : Ent) (r B : Nat) (e : En) (hb : E.big B) (hB : B + e.w < lim) : ∃ x', rIf ⟨[some (.d (.o r)), some (.d (enD e)), some (.d (.o (G.length + 5))), none, none], rst G (dk arD E.so) (dk sgD E.ca) (dk arD E.re) (dk id E.me) (dk id E.fa)⟩ = .ok .nx ⟨[some (.d (.o r)), some (.d (enD e)), some (.d (.o (G.length + 5))), x', none], rst G (dk arD (addE E e).so) (dk sgD (addE E e).ca) (dk arD (addE E e).re) (dk id (addE E e).me) (dk id (addE E e).fa)⟩ := by
 obtain ⟨b0, b1, b2, b3, b4⟩ := hb
 have wp : 1 ≤ e.w := by cases e <;> simp [En.w]
 unfold rIf
 cases e with
 | sort nm ks =>
  have t1 : ((tOf (eBin dEq (eBin dIx (eVar 1) (eC (.int 0))) (eC (.str "sort")))) : Sm MX Bool) ⟨[some (.d (.o r)), some (.d (enD (.sort nm ks))), some (.d (.o (G.length + 5))), none, none], rst G (dk arD E.so) (dk sgD E.ca) (dk arD E.re) (dk id E.me) (dk id E.fa)⟩ = .ok true ⟨[some (.d (.o r)), some (.d (enD (.sort nm ks))), some (.d (.o (G.length + 5))), none, none], rst G (dk arD E.so) (dk sgD E.ca) (dk arD E.re) (dk id E.me) (dk id E.fa)⟩ := by kernel_rfl
  rw [if_t t1]
  have p1 := rput0 (rho := [some (.d (.o r)), some (.d (enD (.sort nm ks))), some (.d (.o (G.length + 5))), none, none]) (G := G) (s0 := dk arD E.so) (s1 := dk sgD E.ca) (s2 := dk arD E.re) (s3 := dk id E.me) (s4 := dk id E.fa) (fv := (eBin dIx (eVar 1) (eC (.int 2)))) (fk := (eBin dIx (eVar 1) (eC (.int 1)))) (x := arD ks) (k := .inr nm) (kd := .str nm) (by kernel_rfl) rfl (by kernel_rfl) rfl (by rw [dk_len]; omega)
  rw [put_dk] at p1
  rw [seq_nx p1]
  obtain ⟨x', q⟩ := rs_loop G (dk arD (putL E.so nm ks)) (dk arD E.re) (dk id E.me) (dk id E.fa) r ks nm ks E.ca none (by simp only [En.w] at hB; omega)
  refine ⟨x', ?_⟩
  have i0 : (iAnyM (eBin dIx (eVar 1) (eC (.int 2))) : Sm MX (List D)) ⟨[some (.d (.o r)), some (.d (enD (.sort nm ks))), some (.d (.o (G.length + 5))), none, none], rst G (dk arD (putL E.so nm ks)) (dk sgD E.ca) (dk arD E.re) (dk id E.me) (dk id E.fa)⟩ = .ok (ks.map D.str) ⟨[some (.d (.o r)), some (.d (enD (.sort nm ks))), some (.d (.o (G.length + 5))), none, none], rst G (dk arD (putL E.so nm ks)) (dk sgD E.ca) (dk arD E.re) (dk id E.me) (dk id E.fa)⟩ := by kernel_rfl
  simp only [sFor, i0, Rs.bind_ok]
  exact q
 | func nm as s =>
  have t1 : ((tOf (eBin dEq (eBin dIx (eVar 1) (eC (.int 0))) (eC (.str "sort")))) : Sm MX Bool) ⟨[some (.d (.o r)), some (.d (enD (.func nm as s))), some (.d (.o (G.length + 5))), none, none], rst G (dk arD E.so) (dk sgD E.ca) (dk arD E.re) (dk id E.me) (dk id E.fa)⟩ = .ok false ⟨[some (.d (.o r)), some (.d (enD (.func nm as s))), some (.d (.o (G.length + 5))), none, none], rst G (dk arD E.so) (dk sgD E.ca) (dk arD E.re) (dk id E.me) (dk id E.fa)⟩ := by kernel_rfl
  rw [if_f t1]
  have t2 : ((tOf (eBin dEq (eBin dIx (eVar 1) (eC (.int 0))) (eC (.str "func")))) : Sm MX Bool) ⟨[some (.d (.o r)), some (.d (enD (.func nm as s))), some (.d (.o (G.length + 5))), none, none], rst G (dk arD E.so) (dk sgD E.ca) (dk arD E.re) (dk id E.me) (dk id E.fa)⟩ = .ok true ⟨[some (.d (.o r)), some (.d (enD (.func nm as s))), some (.d (.o (G.length + 5))), none, none], rst G (dk arD E.so) (dk sgD E.ca) (dk arD E.re) (dk id E.me) (dk id E.fa)⟩ := by kernel_rfl
  rw [if_t t2]
  have p1 := rput1 (rho := [some (.d (.o r)), some (.d (enD (.func nm as s))), some (.d (.o (G.length + 5))), none, none]) (G := G) (s0 := dk arD E.so) (s1 := dk sgD E.ca) (s2 := dk arD E.re) (s3 := dk id E.me) (s4 := dk id E.fa) (fv := (eSl dSl (eVar 1) (oInt (eC (.int 2))) (fun z => .ok none z))) (fk := (eBin dIx (eVar 1) (eC (.int 1)))) (x := .tup [arD as, .str s]) (k := .inr nm) (kd := .str nm) (by kernel_rfl) rfl (by kernel_rfl) rfl (by rw [dk_len]; omega)
  have ep : putD (dk sgD E.ca) (.inr nm) (.tup [arD as, .str s]) = dk sgD (putL E.ca nm (as, s)) := put_dk sgD E.ca nm (as, s)
  rw [ep] at p1
  exact ⟨_, p1⟩
 | rel nm as =>
  have t1 : ((tOf (eBin dEq (eBin dIx (eVar 1) (eC (.int 0))) (eC (.str "sort")))) : Sm MX Bool) ⟨[some (.d (.o r)), some (.d (enD (.rel nm as))), some (.d (.o (G.length + 5))), none, none], rst G (dk arD E.so) (dk sgD E.ca) (dk arD E.re) (dk id E.me) (dk id E.fa)⟩ = .ok false ⟨[some (.d (.o r)), some (.d (enD (.rel nm as))), some (.d (.o (G.length + 5))), none, none], rst G (dk arD E.so) (dk sgD E.ca) (dk arD E.re) (dk id E.me) (dk id E.fa)⟩ := by kernel_rfl
  rw [if_f t1]
  have t2 : ((tOf (eBin dEq (eBin dIx (eVar 1) (eC (.int 0))) (eC (.str "func")))) : Sm MX Bool) ⟨[some (.d (.o r)), some (.d (enD (.rel nm as))), some (.d (.o (G.length + 5))), none, none], rst G (dk arD E.so) (dk sgD E.ca) (dk arD E.re) (dk id E.me) (dk id E.fa)⟩ = .ok false ⟨[some (.d (.o r)), some (.d (enD (.rel nm as))), some (.d (.o (G.length + 5))), none, none], rst G (dk arD E.so) (dk sgD E.ca) (dk arD E.re) (dk id E.me) (dk id E.fa)⟩ := by kernel_rfl
  rw [if_f t2]
  have t3 : ((tOf (eBin (dInW false) (eBin dIx (eVar 1) (eC (.int 0))) (eTup (aCons (escf (eC (.str "rel"))) (aCons (escf (eC (.str "mean"))) aNil))))) : Sm MX Bool) ⟨[some (.d (.o r)), some (.d (enD (.rel nm as))), some (.d (.o (G.length + 5))), none, none], rst G (dk arD E.so) (dk sgD E.ca) (dk arD E.re) (dk id E.me) (dk id E.fa)⟩ = .ok true ⟨[some (.d (.o r)), some (.d (enD (.rel nm as))), some (.d (.o (G.length + 5))), none, none], rst G (dk arD E.so) (dk sgD E.ca) (dk arD E.re) (dk id E.me) (dk id E.fa)⟩ := by kernel_rfl
  rw [if_t t3]
  have p1 := rput2 (rho := [some (.d (.o r)), some (.d (enD (.rel nm as))), some (.d (.o (G.length + 5))), none, none]) (G := G) (s0 := dk arD E.so) (s1 := dk sgD E.ca) (s2 := dk arD E.re) (s3 := dk id E.me) (s4 := dk id E.fa) (fv := (eBin dIx (eVar 1) (eC (.int 2)))) (fk := (eBin dIx (eVar 1) (eC (.int 1)))) (x := arD as) (k := .inr nm) (kd := .str nm) (by kernel_rfl) rfl (by kernel_rfl) rfl (by rw [dk_len]; omega)
  rw [put_dk] at p1
  rw [seq_nx p1]
  have t4 : ((tOf (eBin dEq (eBin dIx (eVar 1) (eC (.int 0))) (eC (.str "mean")))) : Sm MX Bool) ⟨[some (.d (.o r)), some (.d (enD (.rel nm as))), some (.d (.o (G.length + 5))), none, none], rst G (dk arD E.so) (dk sgD E.ca) (dk arD (putL E.re nm as)) (dk id E.me) (dk id E.fa)⟩ = .ok false ⟨[some (.d (.o r)), some (.d (enD (.rel nm as))), some (.d (.o (G.length + 5))), none, none], rst G (dk arD E.so) (dk sgD E.ca) (dk arD (putL E.re nm as)) (dk id E.me) (dk id E.fa)⟩ := by kernel_rfl
  rw [if_f t4]
  exact ⟨none, rfl⟩
 | mean nm as d =>
  have t1 : ((tOf (eBin dEq (eBin dIx (eVar 1) (eC (.int 0))) (eC (.str "sort")))) : Sm MX Bool) ⟨[some (.d (.o r)), some (.d (enD (.mean nm as d))), some (.d (.o (G.length + 5))), none, none], rst G (dk arD E.so) (dk sgD E.ca) (dk arD E.re) (dk id E.me) (dk id E.fa)⟩ = .ok false ⟨[some (.d (.o r)), some (.d (enD (.mean nm as d))), some (.d (.o (G.length + 5))), none, none], rst G (dk arD E.so) (dk sgD E.ca) (dk arD E.re) (dk id E.me) (dk id E.fa)⟩ := by kernel_rfl
  rw [if_f t1]
  have t2 : ((tOf (eBin dEq (eBin dIx (eVar 1) (eC (.int 0))) (eC (.str "func")))) : Sm MX Bool) ⟨[some (.d (.o r)), some (.d (enD (.mean nm as d))), some (.d (.o (G.length + 5))), none, none], rst G (dk arD E.so) (dk sgD E.ca) (dk arD E.re) (dk id E.me) (dk id E.fa)⟩ = .ok false ⟨[some (.d (.o r)), some (.d (enD (.mean nm as d))), some (.d (.o (G.length + 5))), none, none], rst G (dk arD E.so) (dk sgD E.ca) (dk arD E.re) (dk id E.me) (dk id E.fa)⟩ := by kernel_rfl
  rw [if_f t2]
  have t3 : ((tOf (eBin (dInW false) (eBin dIx (eVar 1) (eC (.int 0))) (eTup (aCons (escf (eC (.str "rel"))) (aCons (escf (eC (.str "mean"))) aNil))))) : Sm MX Bool) ⟨[some (.d (.o r)), some (.d (enD (.mean nm as d))), some (.d (.o (G.length + 5))), none, none], rst G (dk arD E.so) (dk sgD E.ca) (dk arD E.re) (dk id E.me) (dk id E.fa)⟩ = .ok true ⟨[some (.d (.o r)), some (.d (enD (.mean nm as d))), some (.d (.o (G.length + 5))), none, none], rst G (dk arD E.so) (dk sgD E.ca) (dk arD E.re) (dk id E.me) (dk id E.fa)⟩ := by kernel_rfl
  rw [if_t t3]
  have p1 := rput2 (rho := [some (.d (.o r)), some (.d (enD (.mean nm as d))), some (.d (.o (G.length + 5))), none, none]) (G := G) (s0 := dk arD E.so) (s1 := dk sgD E.ca) (s2 := dk arD E.re) (s3 := dk id E.me) (s4 := dk id E.fa) (fv := (eBin dIx (eVar 1) (eC (.int 2)))) (fk := (eBin dIx (eVar 1) (eC (.int 1)))) (x := arD as) (k := .inr nm) (kd := .str nm) (by kernel_rfl) rfl (by kernel_rfl) rfl (by rw [dk_len]; omega)
  rw [put_dk] at p1
  rw [seq_nx p1]
  have t4 : ((tOf (eBin dEq (eBin dIx (eVar 1) (eC (.int 0))) (eC (.str "mean")))) : Sm MX Bool) ⟨[some (.d (.o r)), some (.d (enD (.mean nm as d))), some (.d (.o (G.length + 5))), none, none], rst G (dk arD E.so) (dk sgD E.ca) (dk arD (putL E.re nm as)) (dk id E.me) (dk id E.fa)⟩ = .ok true ⟨[some (.d (.o r)), some (.d (enD (.mean nm as d))), some (.d (.o (G.length + 5))), none, none], rst G (dk arD E.so) (dk sgD E.ca) (dk arD (putL E.re nm as)) (dk id E.me) (dk id E.fa)⟩ := by kernel_rfl
  rw [if_t t4]
  have p2 := rput3 (rho := [some (.d (.o r)), some (.d (enD (.mean nm as d))), some (.d (.o (G.length + 5))), none, none]) (G := G) (s0 := dk arD E.so) (s1 := dk sgD E.ca) (s2 := dk arD (putL E.re nm as)) (s3 := dk id E.me) (s4 := dk id E.fa) (fv := (eBin dIx (eVar 1) (eC (.int 3)))) (fk := (eBin dIx (eVar 1) (eC (.int 1)))) (x := d) (k := .inr nm) (kd := .str nm) (by kernel_rfl) rfl (by kernel_rfl) rfl (by rw [dk_len]; omega)
  have ep : putD (dk id E.me) (.inr nm) d = dk id (putL E.me nm d) := put_dk id E.me nm d
  rw [ep] at p2
  exact ⟨_, p2⟩
 | taken nm d =>
  have t1 : ((tOf (eBin dEq (eBin dIx (eVar 1) (eC (.int 0))) (eC (.str "sort")))) : Sm MX Bool) ⟨[some (.d (.o r)), some (.d (enD (.taken nm d))), some (.d (.o (G.length + 5))), none, none], rst G (dk arD E.so) (dk sgD E.ca) (dk arD E.re) (dk id E.me) (dk id E.fa)⟩ = .ok false ⟨[some (.d (.o r)), some (.d (enD (.taken nm d))), some (.d (.o (G.length + 5))), none, none], rst G (dk arD E.so) (dk sgD E.ca) (dk arD E.re) (dk id E.me) (dk id E.fa)⟩ := by kernel_rfl
  rw [if_f t1]
  have t2 : ((tOf (eBin dEq (eBin dIx (eVar 1) (eC (.int 0))) (eC (.str "func")))) : Sm MX Bool) ⟨[some (.d (.o r)), some (.d (enD (.taken nm d))), some (.d (.o (G.length + 5))), none, none], rst G (dk arD E.so) (dk sgD E.ca) (dk arD E.re) (dk id E.me) (dk id E.fa)⟩ = .ok false ⟨[some (.d (.o r)), some (.d (enD (.taken nm d))), some (.d (.o (G.length + 5))), none, none], rst G (dk arD E.so) (dk sgD E.ca) (dk arD E.re) (dk id E.me) (dk id E.fa)⟩ := by kernel_rfl
  rw [if_f t2]
  have t3 : ((tOf (eBin (dInW false) (eBin dIx (eVar 1) (eC (.int 0))) (eTup (aCons (escf (eC (.str "rel"))) (aCons (escf (eC (.str "mean"))) aNil))))) : Sm MX Bool) ⟨[some (.d (.o r)), some (.d (enD (.taken nm d))), some (.d (.o (G.length + 5))), none, none], rst G (dk arD E.so) (dk sgD E.ca) (dk arD E.re) (dk id E.me) (dk id E.fa)⟩ = .ok false ⟨[some (.d (.o r)), some (.d (enD (.taken nm d))), some (.d (.o (G.length + 5))), none, none], rst G (dk arD E.so) (dk sgD E.ca) (dk arD E.re) (dk id E.me) (dk id E.fa)⟩ := by kernel_rfl
  rw [if_f t3]
  have p1 := rput4 (rho := [some (.d (.o r)), some (.d (enD (.taken nm d))), some (.d (.o (G.length + 5))), none, none]) (G := G) (s0 := dk arD E.so) (s1 := dk sgD E.ca) (s2 := dk arD E.re) (s3 := dk id E.me) (s4 := dk id E.fa) (fv := (eBin dIx (eVar 1) (eC (.int 2)))) (fk := (eBin dIx (eVar 1) (eC (.int 1)))) (x := d) (k := .inr nm) (kd := .str nm) (by kernel_rfl) rfl (by kernel_rfl) rfl (by rw [dk_len]; omega)
  have ep : putD (dk id E.fa) (.inr nm) d = dk id (putL E.fa nm d) := put_dk id E.fa nm d
  rw [ep] at p1
  exact ⟨_, p1⟩
theorem with_eq {c : Fn → List S → List MO → Rs S (List MO)} (G : List MO) (r B : Nat) (E : Ent) (e : En) (hG : 3 ≤ G.length) (hr : Rol G r E) (hb : E.big B) (hB : B + e.w < lim) : ∃ ext, fnM 5 (m__law_with c) [.d (.o r), .d (enD e)] G = .ok (.d (.o (G.length + 5))) (G ++ ext) ∧ Rol (G ++ ext) (G.length + 5) (addE E e) := by
 obtain ⟨n0, n1, n2, n3, n4, hm, hd, d0, d1, d2, d3, d4⟩ := hr
 have w := w_copy (rho1 := some (.d (enD e))) hm hd.h0 hd.h1 hd.h2 hd.h3 hd.h4 d0 d1 d2 d3 d4
 obtain ⟨x', q⟩ := rif_eq G E r B e hb hB
 refine ⟨_, ?_, rol_rst G (addE E e) hG⟩
 rw [fnM_R]
 unfold m__law_with
 refine Eq.trans (congrArg fnR ?_) (rfl : fnR (.ok (.rt (.d (.o (G.length + 5)))) ⟨[some (.d (.o r)), some (.d (enD e)), some (.d (.o (G.length + 5))), x', none], rst G (dk arD (addE E e).so) (dk sgD (addE E e).ca) (dk arD (addE E e).re) (dk id (addE E e).me) (dk id (addE E e).fa)⟩) = _)
 have s1 : (sSet 2 (eLk 0 (eDPairs (eLcF (iKyF (eVar 0)) (kName 4) (fun z => .ok true z) (eTup (aCons (escf (eVar 4)) (aCons (escf (eDCopy (eDIxF (eVar 0) (eVar 4)))) aNil))) [4]))) : Sm MX Out) ⟨[some (.d (.o r)), some (.d (enD e)), none, none, none], G⟩ = .ok .nx ⟨[some (.d (.o r)), some (.d (enD e)), some (.d (.o (G.length + 5))), none, none], rst G (dk arD E.so) (dk sgD E.ca) (dk arD E.re) (dk id E.me) (dk id E.fa)⟩ := by
  simp only [sSet, una, w, Rs.bind_ok, List.set_cons_succ, List.set_cons_zero]
 refine (seq_nx s1).trans ?_
 refine (seq_nx q).trans ?_
 rfl
theorem dMul_l (i j : Int) (h : -(2 ^ 64) < i ∧ i < 2 ^ 64) : dMul (.int i) (.int j) = some (.d (.int (i * j))) := by
 unfold dMul dI
 simp only
 rw [if_pos (decide_eq_true (.inl h))]
theorem dMul_r (i j : Int) (h : -(2 ^ 64) < j ∧ j < 2 ^ 64) : dMul (.int i) (.int j) = some (.d (.int (i * j))) := by
 unfold dMul dI
 simp only
 rw [if_pos (decide_eq_true (.inr h))]
theorem dMod_p (i j : Int) (h : 0 < j) : dMod (.int i) (.int j) = some (.d (.int (i % j))) := by
 unfold dMod dI
 simp only
 rw [if_pos (decide_eq_true h)]
theorem dFdiv_p (i j : Int) (h : 0 < j ∧ j < 1073741824) : dFdiv (.int i) (.int j) = some (.d (.int (i / j))) := by
 unfold dFdiv dI
 simp only
 rw [if_pos (decide_eq_true h)]
noncomputable abbrev drD (a : Nat) (cs : List Int) : List (Key × D) := [(.inr (Str.ofString "cells"), .lst (cs.map D.int)), (.inr (Str.ofString "at"), .int (a : Int)), (.inr (Str.ofString "left"), .o 1)]
structure Dr (m : List MO) (a : Nat) (cs : List Int) : Prop where
  h0 : m[0]? = some (.dK (drD a cs))
  h1 : ∃ ls : List Int, ls.length = cs.length ∧ m[1]? = some (.lst (ls.map D.int))
  hc : cs.length ≤ 63
noncomputable def Fr (b : Nat) (m m' : List MO) : Prop := m'.length = m.length ∧ ∀ k, b ≤ k → m'[k]? = m[k]?
theorem Fr.refl (b : Nat) (m : List MO) : Fr b m m := ⟨rfl, fun _ _ => rfl⟩
theorem Fr.trans {b : Nat} {m m' m'' : List MO} (h : Fr b m m') (h' : Fr b m' m'') : Fr b m m'' := ⟨h'.1.trans h.1, fun k hk => (h'.2 k hk).trans (h.2 k hk)⟩
theorem Fr.up {b c : Nat} {m m' : List MO} (h : Fr b m m') (hb : b ≤ c) : Fr c m m' := ⟨h.1, fun k hk => h.2 k (Nat.le_trans hb hk)⟩
theorem dv_cells (a : Nat) (cs : List Int) : valD (drD a cs) (.inr (Str.ofString "cells")) = some (.lst (cs.map D.int)) := by kernel_rfl
theorem dv_at (a : Nat) (cs : List Int) : valD (drD a cs) (.inr (Str.ofString "at")) = some (.int (a : Int)) := by kernel_rfl
theorem dv_left (a : Nat) (cs : List Int) : valD (drD a cs) (.inr (Str.ofString "left")) = some (.o 1) := by kernel_rfl
theorem dp_at (a b : Nat) (cs : List Int) : putD (drD a cs) (.inr (Str.ofString "at")) (.int (b : Int)) = drD b cs := by kernel_rfl
noncomputable def drLim : Nat := 1000000000000000000
theorem num_gen {k1 k2 k3 k4 k5 k6 k7 k8 k9 k10 a many cell x1 x2 x3 x4 x5 x6 x7 y1 y2 y3 y4 r : Int} {m : List MO} {s0 s3 s4 s5 : Option S} (h1 : dMul (.int k1) (.int a) = some (.d (.int x1))) (h2 : dMul (.int x1) (.int a) = some (.d (.int x2))) (h3 : dMul (.int k2) (.int a) = some (.d (.int x3))) (h4 : dMul (.int (cell + x2 + x3)) (.int k3) = some (.d (.int x4))) (h5 : dMod (.int x4) (.int k4) = some (.d (.int x5))) (h6 : dMul (.int x5) (.int k5) = some (.d (.int x6))) (h7 : dMod (.int x6) (.int k6) = some (.d (.int x7)))
  (g1 : dFdiv (.int x7) (.int k7) = some (.d (.int y1))) (g2 : dMul (.int y1) (.int k8) = some (.d (.int y2))) (g3 : dMod (.int y2) (.int k9) = some (.d (.int y3))) (g4 : dFdiv (.int y3) (.int k10) = some (.d (.int y4))) (g5 : dMod (.int y4) (.int many) = some (.d (.int r))) :
  (sSeq (sSet 7 (eBin dMod (eBin dMul (eBin dMod (eBin dMul (eBin dAdd (eBin dAdd (eVar 6) (eBin dMul (eBin dMul (eC (.int k1)) (eVar 2)) (eVar 2))) (eBin dMul (eC (.int k2)) (eVar 2))) (eC (.int k3))) (eC (.int k4))) (eC (.int k5))) (eC (.int k6))))
  (sRet (eBin dMod (eBin dFdiv (eBin dMod (eBin dMul (eBin dFdiv (eVar 7) (eC (.int k7))) (eC (.int k8))) (eC (.int k9))) (eC (.int k10))) (eVar 1))) : Sm MX Out) ⟨[s0, some (.d (.int many)), some (.d (.int a)), s3, s4, s5, some (.d (.int cell)), none], m⟩ = .ok (.rt (.d (.int r))) ⟨[s0, some (.d (.int many)), some (.d (.int a)), s3, s4, s5, some (.d (.int cell)), some (.d (.int x7))], m⟩ := by
 walk_at "z"
 rw [h1]
 walk_at "z"
 rw [h2]
 walk_at "z"
 rw [h3]
 walk_at "z"
 rw [h4]
 walk_at "z"
 rw [h5]
 walk_at "z"
 rw [h6]
 walk_at "z"
 rw [h7]
 walk_at "z"
 rw [g1]
 walk_at "z"
 rw [g2]
 walk_at "z"
 rw [g3]
 walk_at "z"
 rw [g4]
 walk_at "z"
 rw [g5]
 walk_at "z"
theorem ix_cells {cs : List Int} {i : Int} (h0 : 0 ≤ i) (h1 : i < (cs.length : Nat)) : ∃ c, dIx (.lst (cs.map D.int)) (.int i) = some (.d (.int c)) ∧ atI (cs.map D.int) i = some (D.int c) := by
 obtain ⟨n, rfl⟩ : ∃ n : Nat, i = (n : Int) := ⟨i.toNat, by omega⟩
 have hn : n < cs.length := by omega
 have e : atI (cs.map D.int) (n : Int) = some (D.int cs[n]) := atI_nat (v := D.int cs[n]) (by rw [List.getElem?_map, List.getElem?_eq_getElem hn]; rfl)
 exact ⟨cs[n], by show (atI (cs.map D.int) (n : Int)).map R.d = _; rw [e]; rfl, e⟩
theorem num_ok {many : Int} (hm : 0 < many) (cell : Int) (a : Nat) (ha : a < drLim) (m : List MO) (s0 s3 s4 s5 : Option S) : ∃ (r x7 : Int), 0 ≤ r ∧ r < many ∧
  (sSeq (sSet 7 (eBin dMod (eBin dMul (eBin dMod (eBin dMul (eBin dAdd (eBin dAdd (eVar 6) (eBin dMul (eBin dMul (eC (.int 7919)) (eVar 2)) (eVar 2))) (eBin dMul (eC (.int 31)) (eVar 2))) (eC (.int 48271))) (eC (.int 2147483647))) (eC (.int 69621))) (eC (.int 2147483629))))
  (sRet (eBin dMod (eBin dFdiv (eBin dMod (eBin dMul (eBin dFdiv (eVar 7) (eC (.int 64))) (eC (.int 16807))) (eC (.int 2147483647))) (eC (.int 32))) (eVar 1))) : Sm MX Out) ⟨[s0, some (.d (.int many)), some (.d (.int (a : Int))), s3, s4, s5, some (.d (.int cell)), none], m⟩ = .ok (.rt (.d (.int r))) ⟨[s0, some (.d (.int many)), some (.d (.int (a : Int))), s3, s4, s5, some (.d (.int cell)), some (.d (.int x7))], m⟩ := by
 have ha' : (a : Int) < 1000000000000000000 := by unfold drLim at ha; omega
 refine ⟨_, _, Int.emod_nonneg _ (by omega), Int.emod_lt_of_pos _ hm, num_gen (dMul_l 7919 _ (by decide)) (dMul_r _ (a : Int) (by omega)) (dMul_l 31 _ (by decide)) (dMul_r _ 48271 (by decide)) (dMod_p _ 2147483647 (by decide)) (dMul_r _ 69621 (by decide)) (dMod_p _ 2147483629 (by decide)) (dFdiv_p _ 64 (by decide)) (dMul_r _ 16807 (by decide)) (dMod_p _ 2147483647 (by decide)) (dFdiv_p _ 32 (by decide)) (dMod_p _ many hm)⟩
theorem Dr.at0 {m : List MO} {a : Nat} {cs : List Int} (h : Dr m a cs) : 2 ≤ m.length := by
 obtain ⟨ls, _, h1⟩ := h.h1
 exact (List.getElem?_eq_some_iff.mp h1).1
theorem next_eq {c : Fn → List S → List MO → Rs S (List MO)} {m : List MO} {a : Nat} {cs : List Int} (h : Dr m a cs) {many : Int} (hm : 0 < many) (hm2 : many < 1073741824) (ha : a < drLim) :
  ∃ r m', fnM 8 (m__law_next c) [.d (.o 0), .d (.int many)] m = .ok (.d (.int r)) m' ∧ 0 ≤ r ∧ r < many ∧ Dr m' (a + 1) cs ∧ Fr 2 m m' := by
 have l2 := h.at0
 obtain ⟨ls, hls, h1⟩ := h.h1
 have m0 : (m.set 0 (.dK (drD (a + 1) cs)))[0]? = some (.dK (drD (a + 1) cs)) := List.getElem?_set_self (by omega)
 have m1 : (m.set 0 (.dK (drD (a + 1) cs)))[1]? = some (.lst (ls.map D.int)) := by rw [List.getElem?_set_ne (by omega)]; exact h1
 have f1 : Fr 2 m (m.set 0 (.dK (drD (a + 1) cs))) := ⟨List.length_set, fun k hk => List.getElem?_set_ne (by omega)⟩
 have d1 : Dr (m.set 0 (.dK (drD (a + 1) cs))) (a + 1) cs := ⟨m0, ⟨ls, hls, m1⟩, h.hc⟩
 have e1 : (sSet 2 (eDIx (eVar 0) (eC (.str "at"))) : Sm MX Out) ⟨[some (.d (.o 0)), some (.d (.int many)), none, none, none, none, none, none], m⟩ = .ok .nx ⟨[some (.d (.o 0)), some (.d (.int many)), some (.d (.int (a : Int))), none, none, none, none, none], m⟩ := by
  have q : (eDIx (eVar 0) (eC (.str (Str.ofString "at"))) : Sm MX S) ⟨[some (.d (.o 0)), some (.d (.int many)), none, none, none, none, none, none], m⟩ = .ok (.d (.int (a : Int))) ⟨[some (.d (.o 0)), some (.d (.int many)), none, none, none, none, none, none], m⟩ := dix_at rfl h.h0 (dv_at a cs)
  simp only [sSet, una, q, Rs.bind_ok, List.set_cons_succ, List.set_cons_zero]
 have e2 : (sDPutM (eBin dAdd (eVar 2) (eC (.int 1))) (eVar 0) (eC (.str "at")) : Sm MX Out) ⟨[some (.d (.o 0)), some (.d (.int many)), some (.d (.int (a : Int))), none, none, none, none, none], m⟩ = .ok .nx ⟨[some (.d (.o 0)), some (.d (.int many)), some (.d (.int (a : Int))), none, none, none, none, none], m.set 0 (.dK (drD (a + 1) cs))⟩ := by
  have q : (eBin dAdd (eVar 2) (eC (.int 1)) : Sm MX S) ⟨[some (.d (.o 0)), some (.d (.int many)), some (.d (.int (a : Int))), none, none, none, none, none], m⟩ = .ok (.d (.int ((a + 1 : Nat) : Int))) ⟨[some (.d (.o 0)), some (.d (.int many)), some (.d (.int (a : Int))), none, none, none, none, none], m⟩ := by walk_at "z"; rfl
  simp only [sDPutM, escf, q, escS, Rs.bind_ok, opd, eVar, List.getElem?_cons_zero, eC, dictAt, rd, h.h0, keyD, Option.bind_some]
  rw [if_pos (by show _ < 1000000; simp), dp_at]
 have e3 : (sSet 3 (eDIx (eVar 0) (eC (.str "cells"))) : Sm MX Out) ⟨[some (.d (.o 0)), some (.d (.int many)), some (.d (.int (a : Int))), none, none, none, none, none], m.set 0 (.dK (drD (a + 1) cs))⟩ = .ok .nx ⟨[some (.d (.o 0)), some (.d (.int many)), some (.d (.int (a : Int))), some (.d (.lst (cs.map D.int))), none, none, none, none], m.set 0 (.dK (drD (a + 1) cs))⟩ := by
  have q : (eDIx (eVar 0) (eC (.str (Str.ofString "cells"))) : Sm MX S) ⟨[some (.d (.o 0)), some (.d (.int many)), some (.d (.int (a : Int))), none, none, none, none, none], m.set 0 (.dK (drD (a + 1) cs))⟩ = .ok (.d (.lst (cs.map D.int))) ⟨[some (.d (.o 0)), some (.d (.int many)), some (.d (.int (a : Int))), none, none, none, none, none], m.set 0 (.dK (drD (a + 1) cs))⟩ := dix_at rfl m0 (dv_cells (a + 1) cs)
  simp only [sSet, una, q, Rs.bind_ok, List.set_cons_succ, List.set_cons_zero]
 generalize m.set 0 (.dK (drD (a + 1) cs)) = M at *
 have mx : ∃ w : Int, fMax [.int 1, .int (cs.length : Nat)] = some (.d (.int w)) ∧ 0 < w ∧ (0 < cs.length → w ≤ (cs.length : Nat)) := by
  refine ⟨_, rfl, ?_, fun hp => ?_⟩
  ·split <;> omega
  ·split <;> omega
 obtain ⟨w, hw, hw0, hw1⟩ := mx
 have i0 : 0 ≤ (a : Int) % w := Int.emod_nonneg _ (by omega)
 have i1 : (a : Int) % w < w := Int.emod_lt_of_pos _ hw0
 have e4 : (sSet 4 (eBin dMod (eVar 2) (eFn fMax (aCons (opd (eC (.int 1))) (aCons (opd (eFn fLen (aCons (opd (eVar 3)) aNil))) aNil)))) : Sm MX Out) ⟨[some (.d (.o 0)), some (.d (.int many)), some (.d (.int (a : Int))), some (.d (.lst (cs.map D.int))), none, none, none, none], M⟩ = .ok .nx ⟨[some (.d (.o 0)), some (.d (.int many)), some (.d (.int (a : Int))), some (.d (.lst (cs.map D.int))), some (.d (.int ((a : Int) % w))), none, none, none], M⟩ := by
  have hw' : (if ((cs.length : Nat) : Int) > 1 then ((cs.length : Nat) : Int) else 1) = w := by
   have := hw
   unfold fMax at this
   injection this with this; injection this with this; injection this with this
  have dm := dMod_p (a : Int) w hw0
  walk_at "z"
  rw [List.length_map, hw', dm]
  walk_at "z"
 generalize (a : Int) % w = i at *
 have nil3 : ∀ rho5 : List (Option S), (tOf (eBin (dEq0 true) (eVar 3) (eLst aNil)) : Sm MX Bool) ⟨some (.d (.o 0)) :: some (.d (.int many)) :: some (.d (.int (a : Int))) :: some (.d (.lst (cs.map D.int))) :: rho5, M⟩ = .ok (!cs.isEmpty) ⟨some (.d (.o 0)) :: some (.d (.int many)) :: some (.d (.int (a : Int))) :: some (.d (.lst (cs.map D.int))) :: rho5, M⟩ := fun rho5 => by
  have q : dEq0 true (.lst (cs.map D.int)) (.lst []) = some (.d (.bl (!cs.isEmpty))) := by
   unfold dEq0
   simp only
   rw [Bool.true_xor]
   cases cs <;> rfl
  walk_at "z"
  rw [q]
  walk_at "z"
 have fin : ∀ (cell : Int) (s5 : Option S), ∃ r m', fnR ((sSeq (sSet 7 (eBin dMod (eBin dMul (eBin dMod (eBin dMul (eBin dAdd (eBin dAdd (eVar 6) (eBin dMul (eBin dMul (eC (.int 7919)) (eVar 2)) (eVar 2))) (eBin dMul (eC (.int 31)) (eVar 2))) (eC (.int 48271))) (eC (.int 2147483647))) (eC (.int 69621))) (eC (.int 2147483629))))
  (sRet (eBin dMod (eBin dFdiv (eBin dMod (eBin dMul (eBin dFdiv (eVar 7) (eC (.int 64))) (eC (.int 16807))) (eC (.int 2147483647))) (eC (.int 32))) (eVar 1))) : Sm MX Out) ⟨[some (.d (.o 0)), some (.d (.int many)), some (.d (.int (a : Int))), some (.d (.lst (cs.map D.int))), some (.d (.int i)), s5, some (.d (.int cell)), none], M⟩) = .ok (.d (.int r)) m' ∧ 0 ≤ r ∧ r < many ∧ Dr m' (a + 1) cs ∧ Fr 2 m m' := fun cell s5 => by
  obtain ⟨r, x7, r0, r1, q⟩ := num_ok hm cell a ha M (some (.d (.o 0))) (some (.d (.lst (cs.map D.int)))) (some (.d (.int i))) s5
  exact ⟨r, M, by rw [q]; rfl, r0, r1, d1, f1⟩
 rw [fnM_R]
 show ∃ r m', fnR (m__law_next c ⟨[some (.d (.o 0)), some (.d (.int many)), none, none, none, none, none, none], m⟩) = _ ∧ _
 have body : ∀ (A B : Sm MX Out) (z : Z (List MO)), m__law_next c = sSeq (sSet 2 (eDIx (eVar 0) (eC (.str "at")))) A → True := fun _ _ _ _ => trivial
 unfold m__law_next
 rw [seq_nx e1, seq_nx e2, seq_nx e3, seq_nx e4]
 cases hcs : cs with
 | nil =>
  subst hcs
  have t1 : (tAndM (tOf (eBin (dEq0 true) (eVar 3) (eLst aNil))) (tOf (eBin dGt (eIxO (eDIx (eVar 0) (eC (.str "left"))) (eVar 4)) (eC (.int 0)))) : Sm MX Bool) ⟨[some (.d (.o 0)), some (.d (.int many)), some (.d (.int (a : Int))), some (.d (.lst (([] : List Int).map D.int))), some (.d (.int i)), none, none, none], M⟩ = .ok false ⟨[some (.d (.o 0)), some (.d (.int many)), some (.d (.int (a : Int))), some (.d (.lst (([] : List Int).map D.int))), some (.d (.int i)), none, none, none], M⟩ := by
   simp only [tAndM, nil3, Rs.bind_ok]
   rfl
  rw [seq_nx (show (sIf _ _ sNil : Sm MX Out) _ = _ from if_f t1)]
  rw [seq_nx (show (sSet 6 (eC (.int 17)) : Sm MX Out) ⟨[some (.d (.o 0)), some (.d (.int many)), some (.d (.int (a : Int))), some (.d (.lst (([] : List Int).map D.int))), some (.d (.int i)), none, none, none], M⟩ = .ok .nx ⟨[some (.d (.o 0)), some (.d (.int many)), some (.d (.int (a : Int))), some (.d (.lst (([] : List Int).map D.int))), some (.d (.int i)), none, some (.d (.int 17)), none], M⟩ from rfl)]
  rw [seq_nx (show (sIf _ _ sNil : Sm MX Out) _ = _ from if_f (nil3 _))]
  exact fin 17 none
 | cons c0 cr =>
  have hp : 0 < cs.length := by rw [hcs]; simp
  rw [← hcs]
  have hi : i < (cs.length : Nat) := by have := hw1 hp; omega
  have ne : (!cs.isEmpty) = true := by rw [hcs]; rfl
  obtain ⟨l, _, hl⟩ := ix_cells (cs := ls) i0 (by rw [hls]; exact hi)
  have lf : ∀ (rho : List (Option S)), (eIxO (eDIx (eVar 0) (eC (.str "left"))) (eVar 4) : Sm MX S) ⟨some (.d (.o 0)) :: some (.d (.int many)) :: some (.d (.int (a : Int))) :: some (.d (.lst (cs.map D.int))) :: some (.d (.int i)) :: rho, M⟩ = .ok (.d (.int l)) ⟨some (.d (.o 0)) :: some (.d (.int many)) :: some (.d (.int (a : Int))) :: some (.d (.lst (cs.map D.int))) :: some (.d (.int i)) :: rho, M⟩ := fun rho => by
   have q : (eDIx (eVar 0) (eC (.str (Str.ofString "left"))) : Sm MX S) ⟨some (.d (.o 0)) :: some (.d (.int many)) :: some (.d (.int (a : Int))) :: some (.d (.lst (cs.map D.int))) :: some (.d (.int i)) :: rho, M⟩ = .ok (.d (.o 1)) ⟨some (.d (.o 0)) :: some (.d (.int many)) :: some (.d (.int (a : Int))) :: some (.d (.lst (cs.map D.int))) :: some (.d (.int i)) :: rho, M⟩ := dix_at rfl m0 (dv_left (a + 1) cs)
   simp only [eIxO, opd, q, Rs.bind_ok, eVar, List.getElem?_cons_succ, List.getElem?_cons_zero, listAt, rd, m1, hl]
  have t1 : (tAndM (tOf (eBin (dEq0 true) (eVar 3) (eLst aNil))) (tOf (eBin dGt (eIxO (eDIx (eVar 0) (eC (.str "left"))) (eVar 4)) (eC (.int 0)))) : Sm MX Bool) ⟨[some (.d (.o 0)), some (.d (.int many)), some (.d (.int (a : Int))), some (.d (.lst (cs.map D.int))), some (.d (.int i)), none, none, none], M⟩ = .ok (decide (0 < l)) ⟨[some (.d (.o 0)), some (.d (.int many)), some (.d (.int (a : Int))), some (.d (.lst (cs.map D.int))), some (.d (.int i)), none, none, none], M⟩ := by
   simp only [tAndM, nil3, ne, Rs.bind_ok, if_true]
   walk_at "z"
   rw [lf]
   walk_at "z"
  by_cases hl0 : 0 < l
  ·rw [decide_eq_true hl0] at t1
   have s5 : (sSet 5 (eBin dMod (eIxO (eDIx (eVar 0) (eC (.str "left"))) (eVar 4)) (eVar 1)) : Sm MX Out) ⟨[some (.d (.o 0)), some (.d (.int many)), some (.d (.int (a : Int))), some (.d (.lst (cs.map D.int))), some (.d (.int i)), none, none, none], M⟩ = .ok .nx ⟨[some (.d (.o 0)), some (.d (.int many)), some (.d (.int (a : Int))), some (.d (.lst (cs.map D.int))), some (.d (.int i)), some (.d (.int (l % many))), none, none], M⟩ := by
    have dm := dMod_p l many hm
    walk_at "z"
    rw [lf]
    walk_at "z"
    rw [dm]
    walk_at "z"
   have s6 : (sLPutM (eBin dFdiv (eIxO (eDIx (eVar 0) (eC (.str "left"))) (eVar 4)) (eVar 1)) (eDIx (eVar 0) (eC (.str "left"))) (eVar 4) : Sm MX Out) ⟨[some (.d (.o 0)), some (.d (.int many)), some (.d (.int (a : Int))), some (.d (.lst (cs.map D.int))), some (.d (.int i)), some (.d (.int (l % many))), none, none], M⟩ = .ok .nx ⟨[some (.d (.o 0)), some (.d (.int many)), some (.d (.int (a : Int))), some (.d (.lst (cs.map D.int))), some (.d (.int i)), some (.d (.int (l % many))), none, none], M.set 1 (.lst ((ls.set i.toNat (l / many)).map D.int))⟩ := by
    have dm := dFdiv_p l many ⟨hm, hm2⟩
    have q1 : (eBin dFdiv (eIxO (eDIx (eVar 0) (eC (.str "left"))) (eVar 4)) (eVar 1) : Sm MX S) ⟨[some (.d (.o 0)), some (.d (.int many)), some (.d (.int (a : Int))), some (.d (.lst (cs.map D.int))), some (.d (.int i)), some (.d (.int (l % many))), none, none], M⟩ = .ok (.d (.int (l / many))) ⟨[some (.d (.o 0)), some (.d (.int many)), some (.d (.int (a : Int))), some (.d (.lst (cs.map D.int))), some (.d (.int i)), some (.d (.int (l % many))), none, none], M⟩ := by
     walk_at "z"
     rw [lf]
     walk_at "z"
     rw [dm]
     walk_at "z"
    have q : (eDIx (eVar 0) (eC (.str (Str.ofString "left"))) : Sm MX S) ⟨[some (.d (.o 0)), some (.d (.int many)), some (.d (.int (a : Int))), some (.d (.lst (cs.map D.int))), some (.d (.int i)), some (.d (.int (l % many))), none, none], M⟩ = .ok (.d (.o 1)) ⟨[some (.d (.o 0)), some (.d (.int many)), some (.d (.int (a : Int))), some (.d (.lst (cs.map D.int))), some (.d (.int i)), some (.d (.int (l % many))), none, none], M⟩ := dix_at rfl m0 (dv_left (a + 1) cs)
    have ix : ixN (ls.map D.int).length i = some i.toNat := by
     unfold ixN
     rw [if_pos i0, if_pos (by rw [List.length_map, hls]; exact hi)]
    simp only [sLPutM, escf, q1, escS, Rs.bind_ok, opd, q, eVar, List.getElem?_cons_succ, List.getElem?_cons_zero, listAt, rd, m1, ix, List.map_set]
   rw [show (sSeq (sIf _ _ sNil) _ : Sm MX Out) _ = _ from seq_rt ((if_t t1).trans ((seq_nx s5).trans ((seq_nx s6).trans (rfl : (sRet (eVar 5) : Sm MX Out) _ = .ok (.rt (.d (.int (l % many)))) _))))]
   refine ⟨l % many, _, rfl, Int.emod_nonneg _ (by omega), Int.emod_lt_of_pos _ hm, ⟨?_, ⟨ls.set i.toNat (l / many), by rw [List.length_set]; exact hls, ?_⟩, h.hc⟩, ?_⟩
   ·rw [List.getElem?_set_ne (by omega)]; exact m0
   ·exact List.getElem?_set_self (by have := f1.1; omega)
   ·exact f1.trans ⟨List.length_set, fun k hk => List.getElem?_set_ne (by omega)⟩
  ·rw [decide_eq_false hl0] at t1
   rw [seq_nx (show (sIf _ _ sNil : Sm MX Out) _ = _ from if_f t1)]
   rw [seq_nx (show (sSet 6 (eC (.int 17)) : Sm MX Out) ⟨[some (.d (.o 0)), some (.d (.int many)), some (.d (.int (a : Int))), some (.d (.lst (cs.map D.int))), some (.d (.int i)), none, none, none], M⟩ = .ok .nx ⟨[some (.d (.o 0)), some (.d (.int many)), some (.d (.int (a : Int))), some (.d (.lst (cs.map D.int))), some (.d (.int i)), none, some (.d (.int 17)), none], M⟩ from rfl)]
   obtain ⟨cv, hcv, _⟩ := ix_cells (cs := cs) i0 hi
   have s6 : (sSet 6 (eBin dMod (eBin dIx (eVar 3) (eVar 4)) (eC (.int 2147483647))) : Sm MX Out) ⟨[some (.d (.o 0)), some (.d (.int many)), some (.d (.int (a : Int))), some (.d (.lst (cs.map D.int))), some (.d (.int i)), none, some (.d (.int 17)), none], M⟩ = .ok .nx ⟨[some (.d (.o 0)), some (.d (.int many)), some (.d (.int (a : Int))), some (.d (.lst (cs.map D.int))), some (.d (.int i)), none, some (.d (.int (cv % 2147483647))), none], M⟩ := by
    have dm := dMod_p cv 2147483647 (by decide)
    generalize (2147483647 : Int) = K at *
    walk_at "z"
    rw [hcv]
    walk_at "z"
    rw [dm]
    walk_at "z"
   have t3 := nil3 [some (.d (.int i)), none, some (.d (.int 17)), none]
   rw [ne] at t3
   rw [seq_nx ((if_t t3).trans s6)]
   exact fin _ none
theorem next_mir (n : Nat) {m : List MO} {a : Nat} {cs : List Int} (h : Dr m a cs) {many : Int} (hm : 0 < many) (hm2 : many < 1073741824) (ha : a < drLim) :
  ∃ r m', mir (n + 1) ._law_next [.d (.o 0), .d (.int many)] m = .ok (.d (.int r)) m' ∧ 0 ≤ r ∧ r < many ∧ Dr m' (a + 1) cs ∧ Fr 2 m m' := next_eq (c := mir n) h hm hm2 ha
noncomputable def DS (b : Nat) (cs : List Int) (M0 : List MO) (A : Nat) (m : List MO) : Prop := ∃ a, Dr m a cs ∧ a ≤ A ∧ Fr b M0 m
theorem DS.le {b : Nat} {cs : List Int} {M0 : List MO} {A B : Nat} {m : List MO} (h : DS b cs M0 A m) (hb : A ≤ B) : DS b cs M0 B m := by
 obtain ⟨a, h1, h2, h3⟩ := h
 exact ⟨a, h1, by omega, h3⟩
theorem DS.up {b c : Nat} {cs : List Int} {M0 : List MO} {A : Nat} {m : List MO} (h : DS b cs M0 A m) (hb : b ≤ c) : DS c cs M0 A m := by
 obtain ⟨a, h1, h2, h3⟩ := h
 exact ⟨a, h1, h2, h3.up hb⟩
theorem next_ds (n : Nat) {b : Nat} (hb : 2 ≤ b) {cs : List Int} {M0 m : List MO} {A : Nat} (h : DS b cs M0 A m) (hA : A < drLim) (many : Int) (hm : 0 < many) (hm2 : many < 1073741824) :
  ∃ r m', mir (n + 1) ._law_next [.d (.o 0), .d (.int many)] m = .ok (.d (.int r)) m' ∧ 0 ≤ r ∧ r < many ∧ DS b cs M0 (A + 1) m' := by
 obtain ⟨a, h1, h2, h3⟩ := h
 obtain ⟨r, m', e, r0, r1, d, f⟩ := next_mir n h1 hm hm2 (by omega)
 exact ⟨r, m', e, r0, r1, a + 1, d, by omega, h3.trans (f.up hb)⟩
theorem rol_fr {m m' : List MO} {r : Nat} {E : Ent} (h : Rol m r E) (f : Fr 3 m m') : Rol m' r E := by
 obtain ⟨n0, n1, n2, n3, n4, h0, hd, hn⟩ := h
 obtain ⟨b, b0, b1, b2, b3, b4⟩ := hd.b
 exact ⟨n0, n1, n2, n3, n4, (f.2 r b).trans h0, ⟨(f.2 n0 b0).trans hd.h0, (f.2 n1 b1).trans hd.h1, (f.2 n2 b2).trans hd.h2, (f.2 n3 b3).trans hd.h3, (f.2 n4 b4).trans hd.h4, hd.b⟩, hn⟩
theorem kno_fr {m m' : List MO} {k : Nat} {E : Ent} (h : Kno m k E) (f : Fr 3 m m') : Kno m' k E := by
 obtain ⟨n0, n1, n2, n3, n4, h0, hd⟩ := h
 obtain ⟨b, b0, b1, b2, b3, b4⟩ := hd.b
 exact ⟨n0, n1, n2, n3, n4, (f.2 k b).trans h0, (f.2 n0 b0).trans hd.h0, (f.2 n1 b1).trans hd.h1, (f.2 n2 b2).trans hd.h2, (f.2 n3 b3).trans hd.h3, (f.2 n4 b4).trans hd.h4, hd.b⟩
theorem dks_app {E : Ent} {m x : List MO} {k n0 n1 n2 n3 n4 : Nat} (h : Dks E m k n0 n1 n2 n3 n4) : Dks E (m ++ x) k n0 n1 n2 n3 n4 := ⟨gP h.h0, gP h.h1, gP h.h2, gP h.h3, gP h.h4, h.b⟩
theorem rol_app {m x : List MO} {r : Nat} {E : Ent} (h : Rol m r E) : Rol (m ++ x) r E := by
 obtain ⟨n0, n1, n2, n3, n4, h0, hd, hn⟩ := h
 exact ⟨n0, n1, n2, n3, n4, gP h0, dks_app hd, hn⟩
theorem kno_app {m x : List MO} {k : Nat} {E : Ent} (h : Kno m k E) : Kno (m ++ x) k E := by
 obtain ⟨n0, n1, n2, n3, n4, h0, hd⟩ := h
 exact ⟨n0, n1, n2, n3, n4, gP h0, dks_app hd⟩
section
variable {its : Sm MX (List D)} {k : D → Z (List MO) → Option (Z (List MO))} {t : Sm MX Bool} {e : Sm MX S} {vs : List Nat} {rho : List (Option S)} {z0 : Z (List MO)}
theorem lcP {m : List MO} {P : D → Prop} : ∀ (ds ac : List D), ac.length + ds.length ≤ lim → (∀ d ∈ ds, ∃ z1 b, k d ⟨rho, m⟩ = some z1 ∧ t z1 = .ok b z1 ∧ wipeZ (M := MX) z1 vs = ⟨rho, m⟩ ∧ (b = true → ∃ y, escf e z1 = .ok (.d y) z1 ∧ P y)) → ∃ ys, lcL (M := MX) k t e vs ds ac ⟨rho, m⟩ = .ok (ac ++ ys) ⟨rho, m⟩ ∧ ys.length ≤ ds.length ∧ ∀ y ∈ ys, P y
 | [], ac, _, _ => ⟨[], by rw [List.append_nil]; rfl, Nat.le_refl _, fun y hy => by cases hy⟩
 | d :: r, ac, hl, h => by
  rw [List.length_cons] at hl
  obtain ⟨z1, b, h1, h2, h3, h4⟩ := h d List.mem_cons_self
  cases b with
  | true =>
   obtain ⟨y, h5, h6⟩ := h4 rfl
   obtain ⟨ys, g1, g2, g3⟩ := lcP r (ac ++ [y]) (by rw [List.length_append, List.length_singleton]; omega) (fun x hx => h x (List.mem_cons_of_mem _ hx))
   refine ⟨y :: ys, ?_, by rw [List.length_cons, List.length_cons]; omega, fun x hx => ?_⟩
   ·conv => lhs; unfold lcL
    simp only [h1, h2, nox, Rs.bind_ok, if_true, h5]
    rw [if_pos (by omega), h3, g1, List.append_assoc]
    rfl
   ·rcases List.mem_cons.mp hx with rfl | hx
    ·exact h6
    ·exact g3 x hx
  | false =>
   obtain ⟨ys, g1, g2, g3⟩ := lcP r ac (by omega) (fun x hx => h x (List.mem_cons_of_mem _ hx))
   refine ⟨ys, ?_, by rw [List.length_cons]; omega, g3⟩
   conv => lhs; unfold lcL
   simp only [h1, h2, nox, Rs.bind_ok, Bool.false_eq_true, if_false]
   rw [h3, g1]
theorem elcP {m : List MO} {P : D → Prop} {ds : List D} (h0 : its z0 = .ok ds ⟨rho, m⟩) (hn : noOwn rho vs = true) (h1 : wipeZ (M := MX) ⟨rho, m⟩ vs = ⟨rho, m⟩) (h2 : restR rho rho vs = rho) (hl : ds.length ≤ lim)
  (h : ∀ d ∈ ds, ∃ z1 b, k d ⟨rho, m⟩ = some z1 ∧ t z1 = .ok b z1 ∧ wipeZ (M := MX) z1 vs = ⟨rho, m⟩ ∧ (b = true → ∃ y, escf e z1 = .ok (.d y) z1 ∧ P y)) : ∃ ys, (eLc its k t e vs : Sm MX S) z0 = .ok (.l ys) ⟨rho, m⟩ ∧ ys.length ≤ ds.length ∧ ∀ y ∈ ys, P y := by
 obtain ⟨ys, g1, g2, g3⟩ := lcP (k := k) (t := t) (e := e) (vs := vs) ds [] (by rw [List.length_nil]; omega) h
 refine ⟨ys, ?_, g2, g3⟩
 unfold eLc
 rw [h0]
 simp only [Rs.bind_ok]
 rw [if_pos hn, h1, g1]
 simp only [Rs.bind_ok, List.nil_append, h2]
theorem lcQ {i : Nat} (hi : rho.set i none = rho) {P : D → Prop} {Q : Nat → List MO → Prop} {dd : List D} (h : ∀ k d m, d ∈ dd → Q (k + 1) m → ∃ y m', escf e ⟨rho.set i (some (.d d)), m⟩ = .ok (.d y) ⟨rho.set i (some (.d d)), m'⟩ ∧ P y ∧ Q k m') : ∀ (ds ac : List D) (m : List MO), (∀ d ∈ ds, d ∈ dd) → ac.length + ds.length ≤ lim → Q ds.length m →
  ∃ ys m', lcL (M := MX) (kName i) (fun z => .ok true z) e [i] ds ac ⟨rho, m⟩ = .ok (ac ++ ys) ⟨rho, m'⟩ ∧ ys.length = ds.length ∧ (∀ y ∈ ys, P y) ∧ Q 0 m'
 | [], ac, m, _, _, q => ⟨[], m, by rw [List.append_nil]; rfl, rfl, fun y hy => (by cases hy), q⟩
 | d :: r, ac, m, hd, hl, q => by
  rw [List.length_cons] at hl
  obtain ⟨y, m1, e1, p1, q1⟩ := h r.length d m (hd d List.mem_cons_self) q
  obtain ⟨ys, m', g1, g2, g3, g4⟩ := lcQ hi h r (ac ++ [y]) m1 (fun x hx => hd x (List.mem_cons_of_mem _ hx)) (by rw [List.length_append, List.length_singleton]; omega) q1
  refine ⟨y :: ys, m', ?_, by rw [List.length_cons, List.length_cons, g2], fun x hx => ?_, g4⟩
  ·have hw : wipeZ (M := MX) ⟨rho.set i (some (.d d)), m1⟩ [i] = ⟨rho, m1⟩ := by unfold wipeZ wipeR wipeR; simp only [List.set_set, hi]
   conv => lhs; unfold lcL
   simp only [kName, nox, Rs.bind_ok, if_true, e1]
   rw [if_pos (by omega), hw, g1, List.append_assoc]
   rfl
  ·rcases List.mem_cons.mp hx with rfl | hx
   ·exact p1
   ·exact g3 x hx
theorem elcQ {i : Nat} (hi : rho.set i none = rho) {P : D → Prop} {Q : Nat → List MO → Prop} {ds : List D} {m : List MO} (h0 : its z0 = .ok ds ⟨rho, m⟩) (hl : ds.length ≤ lim) (q : Q ds.length m) (h : ∀ k d m, d ∈ ds → Q (k + 1) m → ∃ y m', escf e ⟨rho.set i (some (.d d)), m⟩ = .ok (.d y) ⟨rho.set i (some (.d d)), m'⟩ ∧ P y ∧ Q k m') :
  ∃ ys m', (eLc its (kName i) (fun z => .ok true z) e [i] : Sm MX S) z0 = .ok (.l ys) ⟨rho, m'⟩ ∧ ys.length = ds.length ∧ (∀ y ∈ ys, P y) ∧ Q 0 m' := by
 obtain ⟨ys, m', g1, g2, g3, g4⟩ := lcQ hi h ds [] m (fun d hd => hd) (by rw [List.length_nil]; omega) q
 refine ⟨ys, m', ?_, g2, g3, g4⟩
 have hw : wipeZ (M := MX) ⟨rho, m⟩ [i] = ⟨rho, m⟩ := by unfold wipeZ wipeR wipeR; simp only [hi]
 unfold eLc
 rw [h0, Rs.bind_ok, if_pos (noOwn_one hi), hw, g1]
 simp only [Rs.bind_ok, rest_one hi, List.nil_append]
end
theorem pick_l {xs : List D} {i : Int} (h0 : 0 ≤ i) (h1 : i < (xs.length : Nat)) : ∃ x ∈ xs, dIx (.lst xs) (.int i) = some (.d x) := by
 obtain ⟨x, hx, e⟩ := atI_mem h0 h1
 exact ⟨x, hx, by show (atI xs i).map R.d = _; rw [e]; rfl⟩
noncomputable def nmOk (s : Str) : Prop := PyData.strOk s = true ∧ s.length ≤ 10
theorem pick_s {ss : List Str} {i : Int} (h0 : 0 ≤ i) (h1 : i < (ss.length : Nat)) : ∃ s ∈ ss, dIx (.lst (ss.map D.str)) (.int i) = some (.d (.str s)) := by
 obtain ⟨x, hx, e⟩ := pick_l (xs := ss.map D.str) h0 (by rw [List.length_map]; exact h1)
 obtain ⟨s, hs, rfl⟩ := List.mem_map.mp hx
 exact ⟨s, hs, e⟩
theorem dIx_abc {i : Int} (h0 : 0 ≤ i) (h1 : i < 26) : ∃ c, dIx (.str (Str.ofString "abcdefghijklmnopqrstuvwxyz")) (.int i) = some (.d (.str ⟨#[c]⟩)) ∧ okS ⟨#[c]⟩ := by
 have hl : (Str.ofString "abcdefghijklmnopqrstuvwxyz").length = 26 := by decide +kernel
 obtain ⟨c, e, hc⟩ := dIx_s (z := Str.ofString "abcdefghijklmnopqrstuvwxyz") (i := i) (by rw [hl]; decide) (okS_lit _) h0 (by rw [hl]; omega)
 exact ⟨c, e, okS_one hc⟩
theorem begun_eq {c : Fn → List S → List MO → Rs S (List MO)} (ns : List Int) : ∃ m, fnM 3 (m__law_begun c) [.d (.scr ns)] [] = .ok (.d (.o 0)) m ∧ Dr m 0 (ns.take 63) ∧ m.length = 2 := by
 have sl : dSl (.scr ns) none (some 63) = some (.l ((ns.take 63).map D.int)) := by
  show some (R.l ((cutD ns none (some 63)).map D.int)) = _
  have : cutD ns none (some 63) = ns.take 63 := by
   have e1 : HT.sIx ns.length 0 none = 0 := rfl
   have e2 : HT.sIx ns.length ns.length (some 63) = min 63 ns.length := by
    unfold HT.sIx
    simp only
    split <;> omega
   unfold cutD
   rw [e1, e2, List.drop_zero, Nat.sub_zero]
   exact (List.take_eq_take_iff.mpr (by omega))
  rw [this]
 obtain ⟨ls, hls, lc⟩ : ∃ ls : List Int, ls.length = (ns.take 63).length ∧ (eLc (iAnyM (eVar 1)) (kName 2) (fun z => .ok true z) (eBin dMul (eVar 2) (eFn fInt (aCons (opd (eBin dGe (eVar 2) (eBin dPow (eC (.int 10)) (eC (.int 18))))) aNil))) [2] : Sm MX S) ⟨[some (.d (.scr ns)), some (.d (.lst ((ns.take 63).map D.int))), none], [.dK []]⟩ = .ok (.l (ls.map D.int)) ⟨[some (.d (.scr ns)), some (.d (.lst ((ns.take 63).map D.int))), none], [.dK []]⟩ := by
  have i0 : (iAnyM (eVar 1) : Sm MX (List D)) ⟨[some (.d (.scr ns)), some (.d (.lst ((ns.take 63).map D.int))), none], [.dK []]⟩ = .ok ((ns.take 63).map D.int) ⟨[some (.d (.scr ns)), some (.d (.lst ((ns.take 63).map D.int))), none], [.dK []]⟩ := rfl
  have pw : dPow (.int 10) (.int 18) = some (.d (.int 1000000000000000000)) := by kernel_rfl
  refine ⟨(ns.take 63).map fun i => i * (if decide (1000000000000000000 ≤ i) = true then 1 else 0), by rw [List.length_map], ?_⟩
  rw [List.map_map]
  refine elc_map (M := MX) D.int (g := fun i => .int (i * (if decide (1000000000000000000 ≤ i) = true then 1 else 0))) (ts := ns.take 63) (z := ⟨[some (.d (.scr ns)), some (.d (.lst ((ns.take 63).map D.int))), none], [.dK []]⟩) i0 rfl (by show _ ≤ 1000000; rw [List.length_take]; omega) (fun i _ => ?_)
  revert pw
  generalize (1000000000000000000 : Int) = K
  intro pw
  have mm : dMul (.int i) (.int (if decide (K ≤ i) = true then 1 else 0)) = some (.d (.int (i * (if decide (K ≤ i) = true then 1 else 0)))) := dMul_r _ _ (by split <;> decide)
  walk_at "z"
  rw [pw]
  walk_at "z"
  rw [mm]
  walk_at "z"
 refine ⟨[.dK (drD 0 (ns.take 63)), .lst (ls.map D.int)], ?_, ⟨rfl, ⟨ls, hls, rfl⟩, by rw [List.length_take]; omega⟩, rfl⟩
 rw [fnM_R]
 unfold m__law_begun
 have s1 : (sSet 1 (eSl dSl (eVar 0) (fun z => .ok none z) (oInt (eC (.int 63)))) : Sm MX Out) ⟨[some (.d (.scr ns)), none, none], []⟩ = .ok .nx ⟨[some (.d (.scr ns)), some (.l ((ns.take 63).map D.int)), none], []⟩ := by
  walk_at "z"
  rw [sl]
  walk_at "z"
 refine (congrArg fnR (seq_nx s1)).trans ?_
 have mg : mergeD [] [((.inr (Str.ofString "cells") : Key), D.lst ((ns.take 63).map D.int)), (.inr (Str.ofString "at"), .int 0), (.inr (Str.ofString "left"), .o 1)] = drD 0 (ns.take 63) := by kernel_rfl
 have dp : (eDispG [("cells", (eVar 1)), ("at", (eC (.int 0))), ("left", (eSto (eLc (iAnyM (eVar 1)) (kName 2) (fun z => .ok true z) (eBin dMul (eVar 2) (eFn fInt (aCons (opd (eBin dGe (eVar 2) (eBin dPow (eC (.int 10)) (eC (.int 18))))) aNil))) [2])))] : Sm MX S) ⟨[some (.d (.scr ns)), some (.l ((ns.take 63).map D.int)), none], []⟩ = .ok (.d (.o 0)) ⟨[some (.d (.scr ns)), some (.d (.lst ((ns.take 63).map D.int))), none], [.dK (drD 0 (ns.take 63)), .lst (ls.map D.int)]⟩ := by
  simp only [eDispG, dKs, escf, eVar, List.getElem?_cons_zero, List.getElem?_cons_succ, Rs.bind_ok, escS, List.set_cons_succ, List.set_cons_zero, eC, eSto, List.nil_append, lc, List.length_nil, List.length_cons, Nat.reduceAdd, List.cons_append, mg, Nat.reduceLeDiff, if_true]
 have := dp
 simp only [sRet, una, dp, Rs.bind_ok]
 rfl
noncomputable def nmD (h : Str) (k : Nat) : Str := h ++ Str.ofString (toString (((k : Int) * 17) % 40))
theorem nm_dg : ∀ k : Nat, k < 40 → (Str.ofString (toString (((k : Int) * 17) % 40))).length ≤ 2 := by decide +kernel
theorem nm_elt {k1 k2 i x y : Int} {h s r : Str} {s0 s1 : Option S} {m : List MO} (q1 : dMul (.int i) (.int k1) = some (.d (.int x))) (q2 : dMod (.int x) (.int k2) = some (.d (.int y))) (q3 : fStr [.int y] = some (.d (.str s))) (q4 : dAdd (.str h) (.str s) = some (.d (.str r))) :
  escf (eBin dAdd (eVar 2) (eFn fStr (aCons (opd (eBin dMod (eBin dMul (eVar 3) (eC (.int k1))) (eC (.int k2)))) aNil)) : Sm MX S) ⟨[s0, s1, some (.d (.str h)), some (.d (.int i))], m⟩ = .ok (.d (.str r)) ⟨[s0, s1, some (.d (.str h)), some (.d (.int i))], m⟩ := by
 walk_at "z"
 rw [q1]
 walk_at "z"
 rw [q2]
 walk_at "z"
 rw [q3]
 walk_at "z"
 rw [q4]
 walk_at "z"
theorem names_eq (n : Nat) {cs : List Int} {M0 m : List MO} {A : Nat} (h : DS 2 cs M0 A m) (hA : A + 3 < drLim) :
  ∃ (ss : List Str) (m1 : List MO), mir (n + 2) ._law_names [.d (.o 0)] m = .ok (.d (.o m.length)) (m1 ++ [.lst (ss.map D.str)]) ∧ ss.length = 40 ∧ (∀ s ∈ ss, nmOk s) ∧ DS 2 cs M0 (A + 3) m1 ∧ m1.length = m.length := by
 obtain ⟨r1, m1, e1, a0, a1, d1⟩ := next_ds n (Nat.le_refl 2) h (by omega) 26 (by decide) (by decide)
 obtain ⟨c1, x1, k1⟩ := dIx_abc a0 a1
 obtain ⟨r2, m2, e2, b0, b1, d2⟩ := next_ds n (Nat.le_refl 2) d1 (by omega) 26 (by decide) (by decide)
 obtain ⟨c2, x2, k2⟩ := dIx_abc b0 b1
 obtain ⟨r3, m3, e3, g0, g1, d3⟩ := next_ds n (Nat.le_refl 2) d2 (by omega) 3 (by decide) (by decide)
 obtain ⟨y, hy, x3⟩ := pick_l (xs := [.str (Str.ofString ""), .str ⟨#[c2]⟩, .str (Str.ofString "ongname")]) (i := r3) g0 (by show r3 < ((3 : Nat) : Int); omega)
 have hlen : ∀ {b : Nat} {m m' : List MO} {A : Nat}, DS b cs m A m' → m'.length = m.length := fun d => by obtain ⟨_, _, _, f⟩ := d; exact f.1
 have hm3 : m3.length = m.length := (hlen d3).trans (hlen h).symm
 obtain ⟨t, rfl, ht⟩ : ∃ t : Str, y = .str t ∧ okS t ∧ t.length ≤ 7 := by
  rcases List.mem_cons.mp hy with rfl | hy
  ·exact ⟨_, rfl, okS_lit _, by decide +kernel⟩
  ·rcases List.mem_cons.mp hy with rfl | hy
   ·exact ⟨_, rfl, k2, by show 1 ≤ 7; omega⟩
   ·rcases List.mem_cons.mp hy with rfl | hy
    ·exact ⟨_, rfl, okS_lit _, by decide +kernel⟩
    ·cases hy
 have hd : dAdd (.str ⟨#[c1]⟩) (.str t) = some (.d (.str ((⟨#[c1]⟩ : Str) ++ t))) := dAdd_s (by show 1 + t.length ≤ 1000000; omega)
 have hh : okS ((⟨#[c1]⟩ : Str) ++ t) := okS_app k1 ht.1
 have hhl : ((⟨#[c1]⟩ : Str) ++ t).length ≤ 8 := by rw [len_app]; show 1 + t.length ≤ 8; omega
 generalize (⟨#[c1]⟩ : Str) ++ t = hd0 at hd hh hhl
 refine ⟨(List.range 40).map (nmD hd0), m3, ?_, by simp, fun s hs => ?_, d3, hm3⟩
 rotate_left
 ·obtain ⟨k, hk, rfl⟩ := List.mem_map.mp hs
  refine ⟨okS_to (okS_app hh (okS_lit _)), ?_⟩
  unfold nmD
  rw [len_app]
  have := nm_dg k (List.mem_range.mp hk)
  omega
 ·show fnM 4 (m__law_names (mir (n + 1))) _ _ = _
  have lc : (eLc (iRg1M (aCons (opd (eC (.int 40))) aNil)) (kName 3) (fun z => .ok true z) (eBin dAdd (eVar 2) (eFn fStr (aCons (opd (eBin dMod (eBin dMul (eVar 3) (eC (.int 17))) (eC (.int 40)))) aNil))) [3] : Sm MX S) ⟨[some (.d (.o 0)), some (.d (.str (Str.ofString "abcdefghijklmnopqrstuvwxyz"))), some (.d (.str hd0)), none], m3⟩ = .ok (.l (((List.range 40).map (nmD hd0)).map D.str)) ⟨[some (.d (.o 0)), some (.d (.str (Str.ofString "abcdefghijklmnopqrstuvwxyz"))), some (.d (.str hd0)), none], m3⟩ := by
   rw [List.map_map]
   have i0 : (iRg1M (aCons (opd (eC (.int 40))) aNil) : Sm MX (List D)) ⟨[some (.d (.o 0)), some (.d (.str (Str.ofString "abcdefghijklmnopqrstuvwxyz"))), some (.d (.str hd0)), none], m3⟩ = .ok ((List.range 40).map fun (i : Nat) => D.int (0 + (i : Int))) ⟨[some (.d (.o 0)), some (.d (.str (Str.ofString "abcdefghijklmnopqrstuvwxyz"))), some (.d (.str hd0)), none], m3⟩ := by
    simp only [iRg1M, aCons, opd, eC, Rs.bind_ok, kA, aNil]
    rw [if_pos (by decide)]
    rfl
   refine elc_map (M := MX) (fun (i : Nat) => D.int (0 + (i : Int))) (g := D.str ∘ nmD hd0) (ts := List.range 40) (z := ⟨[some (.d (.o 0)), some (.d (.str (Str.ofString "abcdefghijklmnopqrstuvwxyz"))), some (.d (.str hd0)), none], m3⟩) i0 rfl (by show _ ≤ 1000000; simp) (fun k hk => ?_)
   have hk := List.mem_range.mp hk
   have q1 := dMul_r (0 + (k : Int)) 17 (by decide)
   have q2 := dMod_p ((0 + (k : Int)) * 17) 40 (by decide)
   have q3 : fStr [.int ((0 + (k : Int)) * 17 % 40)] = some (.d (.str (Str.ofString (toString (((k : Int) * 17) % 40))))) := by
    unfold fStr
    simp only [Int.zero_add]
    rw [if_pos]
    have b1 : 0 ≤ ((k : Int) * 17) % 40 := Int.emod_nonneg _ (by decide)
    have b2 : ((k : Int) * 17) % 40 < 40 := Int.emod_lt_of_pos _ (by decide)
    generalize ((k : Int) * 17) % 40 = j at b1 b2
    have : j.natAbs < 2 ^ 6 := by omega
    rcases Nat.eq_zero_or_pos j.natAbs with e | e
    ·rw [e]; decide
    ·have := (Nat.log2_lt (by omega)).mpr this
     omega
   have q4 : dAdd (.str hd0) (.str (Str.ofString (toString (((k : Int) * 17) % 40)))) = some (.d (.str (nmD hd0 k))) := dAdd_s (by have := nm_dg k hk; show _ ≤ 1000000; omega)
   exact nm_elt q1 q2 q3 q4
  have s2 : (sSet 2 (eBin dAdd (eBin dIx (eVar 1) (eCall (mir (n + 1) ._law_next) (aCons (escf (eVar 0)) (aCons (escf (eC (.int 26))) aNil)))) (eBin dIx (eLst (aCons (escf (eC (.str ""))) (aCons (escf (eBin dIx (eVar 1) (eCall (mir (n + 1) ._law_next) (aCons (escf (eVar 0)) (aCons (escf (eC (.int 26))) aNil))))) (aCons (escf (eC (.str "ongname"))) aNil)))) (eCall (mir (n + 1) ._law_next) (aCons (escf (eVar 0)) (aCons (escf (eC (.int 3))) aNil))))) : Sm MX Out) ⟨[some (.d (.o 0)), some (.d (.str (Str.ofString "abcdefghijklmnopqrstuvwxyz"))), none, none], m⟩ = .ok .nx ⟨[some (.d (.o 0)), some (.d (.str (Str.ofString "abcdefghijklmnopqrstuvwxyz"))), some (.d (.str hd0)), none], m3⟩ := by
   revert e1 e2 e3 x1 x2
   generalize mir (n + 1) ._law_next = F
   generalize Str.ofString "abcdefghijklmnopqrstuvwxyz" = abc
   intro e1 x1 e2 x2 e3
   walk_at "z"
   rw [e1]
   walk_at "z"
   rw [x1]
   walk_at "z"
   rw [e2]
   walk_at "z"
   rw [x2]
   walk_at "z"
   rw [e3]
   walk_at "z"
   rw [x3]
   walk_at "z"
   rw [hd]
   walk_at "z"
  rw [fnM_R]
  unfold m__law_names
  have s1 : (sSet 1 (eC (.str "abcdefghijklmnopqrstuvwxyz")) : Sm MX Out) ⟨[some (.d (.o 0)), none, none, none], m⟩ = .ok .nx ⟨[some (.d (.o 0)), some (.d (.str (Str.ofString "abcdefghijklmnopqrstuvwxyz"))), none, none], m⟩ := rfl
  refine (congrArg fnR ((seq_nx s1).trans (seq_nx s2))).trans ?_
  simp only [sRet, una, eSto, lc, Rs.bind_ok, hm3, fnR]
structure EOk (E : Ent) : Prop where
  so : ∀ p ∈ E.so, nmOk p.1 ∧ ∀ s ∈ p.2, nmOk s
  ca : ∀ p ∈ E.ca, nmOk p.1 ∧ p.2.1.length ≤ 3 ∧ (∀ s ∈ p.2.1, nmOk s) ∧ nmOk p.2.2
  re : ∀ p ∈ E.re, nmOk p.1 ∧ p.2.length ≤ 3 ∧ ∀ s ∈ p.2, nmOk s
  nn : E.so.length + E.ca.length + E.re.length < 64
theorem fnd_mem {α : Type} : ∀ {l : List (Str × α)} {k : Str} {v : α}, fnd l k = some v → (k, v) ∈ l
 | p :: r, k, v, h => by
  rw [fnd] at h
  split at h
  ·rename_i e
   cases h
   rw [← e]
   exact List.mem_cons_self
  ·exact List.mem_cons_of_mem _ (fnd_mem h)
theorem fnd_some {α : Type} : ∀ {l : List (Str × α)} {k : Str}, k ∈ l.map (·.1) → ∃ v, fnd l k = some v
 | p :: r, k, h => by
  rw [fnd]
  by_cases e : p.1 = k
  ·exact ⟨_, if_pos e⟩
  ·rw [if_neg e]
   rw [List.map_cons] at h
   rcases List.mem_cons.mp h with h | h
   ·exact absurd h.symm e
   ·exact fnd_some h
structure Tm (d p w : Nat) (x : D) : Prop where
  la : lay x = true
  ok : okD x = true
  ib : ib x = true
  dp : dep x ≤ d
  ps : psz x ≤ p
  wt : wtN x ≤ w
theorem Tm.mono {d p w d' p' w' : Nat} {x : D} (h : Tm d p w x) (h1 : d ≤ d') (h2 : p ≤ p') (h3 : w ≤ w') : Tm d' p' w' x := ⟨h.la, h.ok, h.ib, Nat.le_trans h.dp h1, Nat.le_trans h.ps h2, Nat.le_trans h.wt h3⟩
theorem wt_int (i : Int) (h : i.natAbs < 128) : wtN (.int i) ≤ 8 := by
 unfold wtN
 rw [toPy, PyData.weight]
 split
 ·omega
 ·rcases Nat.eq_zero_or_pos i.natAbs with e | e
  ·rw [e]; decide
  ·have : i.natAbs.log2 < 7 := (Nat.log2_lt (by omega)).mpr (by show i.natAbs < 128; omega)
   omega
theorem tm_str {s : Str} (h : nmOk s) : Tm 0 0 10 (.str s) := ⟨by rw [lay]; exact h.1, by rw [okD]; exact h.1, by rw [G.ib]; all_goals (intros; simp_all), by simp [dep], by simp [psz], by rw [wtN_str]; exact h.2⟩
theorem tm_int {i : Int} (h : i.natAbs < 128) : Tm 0 0 8 (.int i) := ⟨by simp [lay], by simp [okD], by rw [G.ib]; exact decide_eq_true (by omega), by simp [dep], by simp [psz], wt_int i h⟩
structure Tms (d p w : Nat) (xs : List D) : Prop where
  la : lays xs = true
  ok : okDs xs = true
  ib : ibs xs = true
  dp : deps xs ≤ d
  ps : pszs xs ≤ p
  wt : wtsN xs ≤ w
theorem tms_nil : Tms 0 0 0 [] := ⟨rfl, rfl, rfl, Nat.le_refl _, Nat.le_refl _, by rw [wtsN_nil]; exact Nat.le_refl _⟩
theorem tms_cons {d p w d' p' w' : Nat} {x : D} {xs : List D} (h : Tm d p w x) (h' : Tms d' p' w' xs) : Tms (max d d') (p + p') (w + 1 + w') (x :: xs) :=
 ⟨by rw [lays, h.la, h'.la]; rfl, by rw [okDs, h.ok, h'.ok]; rfl, by rw [ibs, h.ib, h'.ib]; rfl, by rw [deps]; have := h.dp; have := h'.dp; omega, by rw [pszs]; have := h.ps; have := h'.ps; omega, by rw [wtsN_cons]; have := h.wt; have := h'.wt; omega⟩
theorem Tms.mono {d p w d' p' w' : Nat} {x : List D} (h : Tms d p w x) (h1 : d ≤ d') (h2 : p ≤ p') (h3 : w ≤ w') : Tms d' p' w' x := ⟨h.la, h.ok, h.ib, Nat.le_trans h.dp h1, Nat.le_trans h.ps h2, Nat.le_trans h.wt h3⟩
theorem tm_tup {d p w : Nat} {xs : List D} (h : Tms d p w xs) : Tm (d + 1) (p + 1) w (.tup xs) :=
 ⟨by rw [lay]; exact h.la, by rw [okD]; exact h.ok, by rw [G.ib]; exact h.ib, by rw [dep]; have := h.dp; omega, by rw [psz]; have := h.ps; omega, by rw [wtN_tup]; exact h.wt⟩
theorem tms_all {d p w : Nat} : ∀ {xs : List D}, (∀ x ∈ xs, Tm d p w x) → Tms d (xs.length * p) (xs.length * (w + 1)) xs
 | [], _ => tms_nil.mono (Nat.zero_le _) (Nat.zero_le _) (Nat.zero_le _)
 | x :: r, h => by
  refine (tms_cons (h x List.mem_cons_self) (tms_all (fun y hy => h y (List.mem_cons_of_mem _ hy)))).mono (by omega) ?_ ?_
  ·rw [List.length_cons, Nat.succ_mul]; omega
  ·rw [List.length_cons, Nat.succ_mul]; omega
theorem nm_lit (s : String) (h : (Str.ofString s).length ≤ 10) : nmOk (Str.ofString s) := ⟨sok s, h⟩
noncomputable def pB : Nat → Nat
 | 0 => 2
 | k + 1 => 2 + 3 * pB k
noncomputable def wB : Nat → Nat
 | 0 => 34
 | k + 1 => 30 + 3 * (wB k + 1)
theorem tm_call {w f : Str} {xs : List D} {d p wt : Nat} (hw : nmOk w) (hf : nmOk f) (h : ∀ x ∈ xs, Tm d p wt x) (hl : xs.length ≤ 3) : Tm (d + 2) (2 + 3 * p) (30 + 3 * (wt + 1)) (.tup [.str w, .str f, .tup xs]) := by
 have := tms_all h
 refine (tm_tup (tms_cons (tm_str hw) (tms_cons (tm_str hf) (tms_cons (tm_tup this) tms_nil)))).mono (by omega) ?_ ?_
 ·have : xs.length * p ≤ 3 * p := Nat.mul_le_mul_right _ hl; omega
 ·have : xs.length * (wt + 1) ≤ 3 * (wt + 1) := Nat.mul_le_mul_right _ hl; omega
theorem tm_const {f : Str} (hf : nmOk f) : Tm 2 (pB 0) (wB 0) (.tup [.str (Str.ofString "call"), .str f, .tup []]) := by
 refine (tm_call (d := 0) (p := 0) (wt := 0) (nm_lit "call" (by decide +kernel)) hf (fun x hx => (by cases hx)) (by simp)).mono (by omega) (by show 2 + 3 * 0 ≤ 2; omega) (by show 30 + 3 * (0 + 1) ≤ 34; omega)
theorem tm_var {v : Int} (h : v.natAbs < 128) : Tm 2 (pB 0) (wB 0) (.tup [.str (Str.ofString "var"), .int v]) :=
 (tm_tup (tms_cons (tm_str (nm_lit "var" (by decide +kernel))) (tms_cons (tm_int h) tms_nil))).mono (by omega) (by show 0 + (0 + 0) + 1 ≤ 2; omega) (by show 10 + 1 + (8 + 1 + 0) ≤ 34; omega)
theorem keyS_dk {α : Type} (f : α → D) : ∀ l : List (Str × α), keyS ((dk f l).map (·.1)) = some (l.map (·.1))
 | [] => rfl
 | p :: r => by
  have ih := keyS_dk f r
  unfold dk at ih ⊢
  rw [List.map_cons, List.map_cons, keyS, ih]
  rfl
theorem srt_mem {ss : List Str} {s : Str} : s ∈ srtS ss ↔ s ∈ ss := (srt_perm ss).mem_iff
theorem dsort_of {α : Type} {f : Sm MX S} {z z1 : Z (List MO)} {n : Nat} {g : α → D} {l : List (Str × α)} (hf : f z = .ok (.d (.o n)) z1) (hm : z1.m[n]? = some (.dK (dk g l))) (hl : l.length < 64) : (eDSort f : Sm MX S) z = .ok (.l ((srtS (l.map (·.1))).map D.str)) z1 := by
 simp only [eDSort, opd, hf, Rs.bind_ok, dictAt, rd, hm, keyS_dk]
 rw [if_pos (by rw [List.length_map]; exact hl)]
theorem enum_mem {ds : List D} {x : D} (h : x ∈ enumD ds) : ∃ (i : Nat) (d : D), x = .tup [.int (i : Int), d] ∧ i < ds.length ∧ d ∈ ds := by
 unfold enumD at h
 obtain ⟨i, hi, rfl⟩ := List.mem_map.mp h
 have hi := List.mem_range.mp hi
 refine ⟨i, _, rfl, hi, ?_⟩
 rw [List.getD_eq_getElem?_getD, List.getElem?_eq_getElem hi]
 exact List.getElem_mem hi
theorem eq_nil0 (xs : List D) : dEq0 false (.lst xs) (.lst []) = some (.d (.bl xs.isEmpty)) := by
 unfold dEq0
 simp only
 rw [Bool.false_xor]
theorem ne_nil0 (xs : List D) : dEq0 true (.lst xs) (.lst []) = some (.d (.bl (!xs.isEmpty))) := by
 unfold dEq0
 simp only
 rw [Bool.true_xor]
theorem ne_nilT (xs : List D) : dEq0 true (.tup xs) (.tup []) = some (.d (.bl (!xs.isEmpty))) := by
 unfold dEq0
 simp only
 rw [Bool.true_xor]
theorem isN_any {d p w : Nat} : ∀ {xs : List D}, (∀ x ∈ xs, x = .non ∨ (Tm d p w x ∧ ∃ ys, x = .tup ys)) → lays xs = true ∧ (inW .non xs = false → ∀ x ∈ xs, Tm d p w x)
 | [], _ => ⟨rfl, fun _ x hx => (by cases hx)⟩
 | y :: r, h => by
  obtain ⟨i1, i2⟩ := isN_any (fun x hx => h x (List.mem_cons_of_mem _ hx))
  rcases h y List.mem_cons_self with rfl | ⟨hy, ys, rfl⟩
  ·refine ⟨by rw [lays, i1]; simp [lay], fun e => ?_⟩
   unfold inW at e
   rw [List.any_cons] at e
   have : eqD .non .non = true := by simp [eqD, toPy, PyData.eqv]
   rw [this] at e
   cases e
  ·refine ⟨by rw [lays, i1, hy.la]; rfl, fun e => ?_⟩
   unfold inW at e
   rw [List.any_cons, Bool.or_eq_false_iff] at e
   intro x hx
   rcases List.mem_cons.mp hx with rfl | hx
   ·exact hy
   ·exact i2 e.2 x hx
theorem notInN {xs : List D} (h : lays xs = true) : dInW true .non (.lst xs) = some (.d (.bl (!inW .non xs))) := by
  unfold dInW
  simp only
  rw [if_pos ⟨by simp [lay], h, by have : dep (.non) = 0 := by simp [dep]
                                   rw [this]; omega⟩]
  simp only [if_true]
noncomputable def termK : Nat → Nat
 | 0 => 2
 | k + 1 => 5 + 3 * termK k
noncomputable def TmO (k : Nat) (x : D) : Prop := x = .non ∨ (Tm (2 * k + 2) (pB k) (wB k) x ∧ ∃ y ys, x = .tup (y :: ys))
theorem lay_sg {p : List Str × Str} (h : (∀ s ∈ p.1, nmOk s) ∧ nmOk p.2) : lay (sgD p) = true := by
 unfold sgD
 have q : lay (.tup (p.1.map D.str)) = true := by rw [lay]; exact lays_str p.1 (fun s hs => (h.1 s hs).1)
 rw [lay, lays, lays, lays, q, lay, h.2.1]
 rfl
theorem dep_sg (p : List Str × Str) : dep (sgD p) = 2 := by
 unfold sgD
 simp [dep, deps, deps_str]
section
variable {cs : List Int} {M0 : List MO} {r : Nat} {E : Ent}
theorem lt_some1 {c : Fn → List S → List MO → Rs S (List MO)} (ar : List Str) (so : Str) (k : Int) (m : List MO) (har : ∀ a ∈ ar, PyData.strOk a = true) (hal : ar.length ≤ 100) (hso : PyData.strOk so = true) : ∃ ys, (eLc (iEnM (eVar 2)) (kTup 2 (ksCons (kName 10) (ksCons (kName 11) ksNil))) (tOf (eBin dEq (eVar 11) (eVar 3))) (eTup (aCons (escf (eC (.str "var"))) (aCons (escf (eVar 10)) aNil))) [10, 11] : Sm MX S) ⟨[some (.d (.o 0)), some (.d (.o r)), some (.d (arD ar)), some (.d (.str so)), some (.d (.int k)), none, none, none, none, none, none, none], m⟩ = .ok (.l ys) ⟨[some (.d (.o 0)), some (.d (.o r)), some (.d (arD ar)), some (.d (.str so)), some (.d (.int k)), none, none, none, none, none, none, none], m⟩ ∧ ys.length ≤ 100 ∧ ∀ y ∈ ys, Tm 2 (pB 0) (wB 0) y ∧ ∃ z zs, y = .tup (z :: zs) := by
 have i0 : (iEnM (eVar 2) : Sm MX (List D)) ⟨[some (.d (.o 0)), some (.d (.o r)), some (.d (arD ar)), some (.d (.str so)), some (.d (.int k)), none, none, none, none, none, none, none], m⟩ = .ok (enumD (ar.map D.str)) ⟨[some (.d (.o 0)), some (.d (.o r)), some (.d (arD ar)), some (.d (.str so)), some (.d (.int k)), none, none, none, none, none, none, none], m⟩ := rfl
 have el : (enumD (ar.map D.str)).length = ar.length := by rw [enumD_len, List.length_map]
 obtain ⟨ys, e, h1, h2⟩ := elcP (k := _root_.G.kTup (M := MX) 2 (ksCons (kName 10) (ksCons (kName 11) ksNil))) (t := tOf (eBin dEq (eVar 11) (eVar 3))) (e := eTup (aCons (escf (eC (.str "var"))) (aCons (escf (eVar 10)) aNil))) (vs := [10, 11]) (P := fun y => Tm 2 (pB 0) (wB 0) y ∧ ∃ z zs, y = .tup (z :: zs)) i0 rfl rfl rfl (by rw [el]; show _ ≤ 1000000; omega) (fun d hd => by
  obtain ⟨i, a, rfl, hi, ha⟩ := enum_mem hd
  rw [List.length_map] at hi
  have hi2 : (i : Int).natAbs < 128 := by omega
  obtain ⟨s, hs, rfl⟩ := List.mem_map.mp ha
  have q := eq_ss (har s hs) hso
  refine ⟨⟨[some (.d (.o 0)), some (.d (.o r)), some (.d (arD ar)), some (.d (.str so)), some (.d (.int k)), none, none, none, none, none, some (.d (.int (i : Int))), some (.d (.str s))], m⟩, (s == so), rfl, ?_, rfl, fun _ => ⟨_, rfl, tm_var hi2, _, _, rfl⟩⟩
  walk_at "z"
  rw [q]
  walk_at "z")
 exact ⟨ys, e, by omega, h2⟩
theorem lt_some2 {c : Fn → List S → List MO → Rs S (List MO)} (hE : EOk E) (ar : List Str) (so : Str) (k : Int) (m : List MO) {n1 : Nat} (h1 : m[n1]? = some (.dK (dk sgD E.ca))) (hso : PyData.strOk so = true) (L5 : List D) : ∃ ys, (eLc (iAnyM (eDSort (eVar 6))) (kName 8) (tOf (eBin dEq (eDIx (eVar 6) (eVar 8)) (eTup (aCons (escf (eTup aNil)) (aCons (escf (eVar 3)) aNil))))) (eTup (aCons (escf (eC (.str "call"))) (aCons (escf (eVar 8)) (aCons (escf (eTup aNil)) aNil)))) [8] : Sm MX S) ⟨[some (.d (.o 0)), some (.d (.o r)), some (.d (arD ar)), some (.d (.str so)), some (.d (.int k)), some (.l L5), some (.d (.o n1)), none, none, none, none, none], m⟩ = .ok (.l ys) ⟨[some (.d (.o 0)), some (.d (.o r)), some (.d (arD ar)), some (.d (.str so)), some (.d (.int k)), some (.l L5), some (.d (.o n1)), none, none, none, none, none], m⟩ ∧ ys.length ≤ 100 ∧ ∀ y ∈ ys, Tm 2 (pB 0) (wB 0) y ∧ ∃ z zs, y = .tup (z :: zs) := by
 have hl : E.ca.length < 64 := by have := hE.nn; omega
 have ds := dsort_of (f := eVar 6) (z := ⟨[some (.d (.o 0)), some (.d (.o r)), some (.d (arD ar)), some (.d (.str so)), some (.d (.int k)), some (.l L5), some (.d (.o n1)), none, none, none, none, none], m⟩) (z1 := ⟨[some (.d (.o 0)), some (.d (.o r)), some (.d (arD ar)), some (.d (.str so)), some (.d (.int k)), some (.l L5), some (.d (.o n1)), none, none, none, none, none], m⟩) rfl h1 hl
 have i0 : (iAnyM (eDSort (eVar 6)) : Sm MX (List D)) ⟨[some (.d (.o 0)), some (.d (.o r)), some (.d (arD ar)), some (.d (.str so)), some (.d (.int k)), some (.l L5), some (.d (.o n1)), none, none, none, none, none], m⟩ = .ok ((srtS (E.ca.map (·.1))).map D.str) ⟨[some (.d (.o 0)), some (.d (.o r)), some (.d (arD ar)), some (.d (.str so)), some (.d (.int k)), some (.l L5), some (.d (.o n1)), none, none, none, none, none], m⟩ := by
  simp only [iAnyM, escf, ds, Rs.bind_ok, escS]
  rfl
 have el : ((srtS (E.ca.map (·.1))).map D.str).length = E.ca.length := by rw [List.length_map, (srt_perm _).length_eq, List.length_map]
 obtain ⟨ys, e, g1, g2⟩ := elcP (k := kName (M := MX) 8) (t := tOf (eBin dEq (eDIx (eVar 6) (eVar 8)) (eTup (aCons (escf (eTup aNil)) (aCons (escf (eVar 3)) aNil))))) (e := eTup (aCons (escf (eC (.str "call"))) (aCons (escf (eVar 8)) (aCons (escf (eTup aNil)) aNil)))) (vs := [8]) (P := fun y => Tm 2 (pB 0) (wB 0) y ∧ ∃ z zs, y = .tup (z :: zs)) i0 rfl rfl rfl (by rw [el]; show _ ≤ 1000000; omega) (fun d hd => by
  obtain ⟨s, hs, rfl⟩ := List.mem_map.mp hd
  obtain ⟨v, hv⟩ := fnd_some (srt_mem.mp hs)
  obtain ⟨hn, _, h3, h4⟩ := hE.ca _ (fnd_mem hv)
  have ly := lay_sg (p := v) ⟨h3, h4⟩
  obtain ⟨b, q⟩ : ∃ b, dEq (sgD v) (.tup [.tup [], .str so]) = some (.d (.bl b)) := by
   have ok : eqOk (sgD v) (.tup [.tup [], .str so]) = true := by
    unfold eqOk
    rw [ly, show lay (.tup [.tup [], .str so]) = true from by simp [lay, lays, hso], Bool.true_and, Bool.true_and]
    exact decide_eq_true (by rw [dep_sg]; omega)
   unfold dEq
   rw [if_pos ok]
   exact ⟨_, rfl⟩
  have dx := dix_of (f := eVar 6) (g := eVar 8) (n := n1) (x := s) (z := ⟨[some (.d (.o 0)), some (.d (.o r)), some (.d (arD ar)), some (.d (.str so)), some (.d (.int k)), some (.l L5), some (.d (.o n1)), none, some (.d (.str s)), none, none, none], m⟩) (z1 := ⟨[some (.d (.o 0)), some (.d (.o r)), some (.d (arD ar)), some (.d (.str so)), some (.d (.int k)), some (.l L5), some (.d (.o n1)), none, some (.d (.str s)), none, none, none], m⟩) (z2 := ⟨[some (.d (.o 0)), some (.d (.o r)), some (.d (arD ar)), some (.d (.str so)), some (.d (.int k)), some (.l L5), some (.d (.o n1)), none, some (.d (.str s)), none, none, none], m⟩) rfl rfl h1
  rw [val_dk, hv] at dx
  refine ⟨⟨[some (.d (.o 0)), some (.d (.o r)), some (.d (arD ar)), some (.d (.str so)), some (.d (.int k)), some (.l L5), some (.d (.o n1)), none, some (.d (.str s)), none, none, none], m⟩, b, rfl, ?_, rfl, fun _ => ⟨_, rfl, tm_const hn, _, _, rfl⟩⟩
  walk_at "z"
  rw [dx]
  walk_at "z"
  rw [q]
  walk_at "z")
 exact ⟨ys, e, by omega, g2⟩
theorem lt_great {c : Fn → List S → List MO → Rs S (List MO)} (hE : EOk E) (ar : List Str) (so : Str) (k : Int) (m : List MO) {n1 : Nat} (h1 : m[n1]? = some (.dK (dk sgD E.ca))) (hso : PyData.strOk so = true) (L5 : List D) : ∃ ys, (eLc (iAnyM (eDSort (eVar 6))) (kName 8) (tAndM (tOf (eBin dEq (eBin dIx (eDIx (eVar 6) (eVar 8)) (eC (.int 1))) (eVar 3))) (tOf (eBin (dEq0 true) (eBin dIx (eDIx (eVar 6) (eVar 8)) (eC (.int 0))) (eTup aNil)))) (eVar 8) [8] : Sm MX S) ⟨[some (.d (.o 0)), some (.d (.o r)), some (.d (arD ar)), some (.d (.str so)), some (.d (.int k)), some (.l L5), some (.d (.o n1)), none, none, none, none, none], m⟩ = .ok (.l ys) ⟨[some (.d (.o 0)), some (.d (.o r)), some (.d (arD ar)), some (.d (.str so)), some (.d (.int k)), some (.l L5), some (.d (.o n1)), none, none, none, none, none], m⟩ ∧ ys.length ≤ 100 ∧ ∀ y ∈ ys, ∃ f v, y = .str f ∧ fnd E.ca f = some v := by
 have hl : E.ca.length < 64 := by have := hE.nn; omega
 have ds := dsort_of (f := eVar 6) (z := ⟨[some (.d (.o 0)), some (.d (.o r)), some (.d (arD ar)), some (.d (.str so)), some (.d (.int k)), some (.l L5), some (.d (.o n1)), none, none, none, none, none], m⟩) (z1 := ⟨[some (.d (.o 0)), some (.d (.o r)), some (.d (arD ar)), some (.d (.str so)), some (.d (.int k)), some (.l L5), some (.d (.o n1)), none, none, none, none, none], m⟩) rfl h1 hl
 have i0 : (iAnyM (eDSort (eVar 6)) : Sm MX (List D)) ⟨[some (.d (.o 0)), some (.d (.o r)), some (.d (arD ar)), some (.d (.str so)), some (.d (.int k)), some (.l L5), some (.d (.o n1)), none, none, none, none, none], m⟩ = .ok ((srtS (E.ca.map (·.1))).map D.str) ⟨[some (.d (.o 0)), some (.d (.o r)), some (.d (arD ar)), some (.d (.str so)), some (.d (.int k)), some (.l L5), some (.d (.o n1)), none, none, none, none, none], m⟩ := by
  simp only [iAnyM, escf, ds, Rs.bind_ok, escS]
  rfl
 have el : ((srtS (E.ca.map (·.1))).map D.str).length = E.ca.length := by rw [List.length_map, (srt_perm _).length_eq, List.length_map]
 obtain ⟨ys, e, g1, g2⟩ := elcP (k := kName (M := MX) 8) (t := tAndM (tOf (eBin dEq (eBin dIx (eDIx (eVar 6) (eVar 8)) (eC (.int 1))) (eVar 3))) (tOf (eBin (dEq0 true) (eBin dIx (eDIx (eVar 6) (eVar 8)) (eC (.int 0))) (eTup aNil)))) (e := eVar 8) (vs := [8]) (P := fun y => ∃ f v, y = .str f ∧ fnd E.ca f = some v) i0 rfl rfl rfl (by rw [el]; show _ ≤ 1000000; omega) (fun d hd => by
  obtain ⟨s, hs, rfl⟩ := List.mem_map.mp hd
  obtain ⟨v, hv⟩ := fnd_some (srt_mem.mp hs)
  obtain ⟨hn, _, h3, h4⟩ := hE.ca _ (fnd_mem hv)
  have q := eq_ss h4.1 hso
  have q0 := ne_nilT (v.1.map D.str)
  have dx := dix_of (f := eVar 6) (g := eVar 8) (n := n1) (x := s) (z := ⟨[some (.d (.o 0)), some (.d (.o r)), some (.d (arD ar)), some (.d (.str so)), some (.d (.int k)), some (.l L5), some (.d (.o n1)), none, some (.d (.str s)), none, none, none], m⟩) (z1 := ⟨[some (.d (.o 0)), some (.d (.o r)), some (.d (arD ar)), some (.d (.str so)), some (.d (.int k)), some (.l L5), some (.d (.o n1)), none, some (.d (.str s)), none, none, none], m⟩) (z2 := ⟨[some (.d (.o 0)), some (.d (.o r)), some (.d (arD ar)), some (.d (.str so)), some (.d (.int k)), some (.l L5), some (.d (.o n1)), none, some (.d (.str s)), none, none, none], m⟩) rfl rfl h1
  rw [val_dk, hv] at dx
  have dx' : (eDIx (eVar 6) (eVar 8) : Sm MX S) ⟨[some (.d (.o 0)), some (.d (.o r)), some (.d (arD ar)), some (.d (.str so)), some (.d (.int k)), some (.l L5), some (.d (.o n1)), none, some (.d (.str s)), none, none, none], m⟩ = .ok (.d (.tup [.tup (v.1.map D.str), .str v.2])) ⟨[some (.d (.o 0)), some (.d (.o r)), some (.d (arD ar)), some (.d (.str so)), some (.d (.int k)), some (.l L5), some (.d (.o n1)), none, some (.d (.str s)), none, none, none], m⟩ := dx
  refine ⟨⟨[some (.d (.o 0)), some (.d (.o r)), some (.d (arD ar)), some (.d (.str so)), some (.d (.int k)), some (.l L5), some (.d (.o n1)), none, some (.d (.str s)), none, none, none], m⟩, ((v.2 == so) && !(v.1.map D.str).isEmpty), rfl, ?_, rfl, fun _ => ⟨_, rfl, s, v, rfl, hv⟩⟩
  walk_at "z"
  rw [dx']
  walk_at "z"
  rw [q]
  walk_at "z"
  cases v.2 == so with
  | true =>
   walk_at "z"
   rw [dx']
   walk_at "z"
   rw [q0]
   walk_at "z"
  | false => walk_at "z")
 exact ⟨ys, e, by omega, g2⟩
end
section
variable {b : Nat} {cs : List Int} {M0 : List MO} {r : Nat} {E : Ent}
theorem wB_mono (k : Nat) : wB 0 ≤ wB k := by
 induction k with
 | zero => exact Nat.le_refl _
 | succ k ih => show wB 0 ≤ 30 + 3 * (wB k + 1); omega
theorem pB_mono (k : Nat) : pB 0 ≤ pB k := by
 induction k with
 | zero => exact Nat.le_refl _
 | succ k ih => show pB 0 ≤ 2 + 3 * pB k; omega
theorem dAdd_l (xs ys : List D) (h : xs.length + ys.length ≤ 1000000) : dAdd (.lst xs) (.lst ys) = some (.l (xs ++ ys)) := by
 unfold dAdd
 exact if_pos h
theorem lt_end (n : Nat) (hb : 2 ≤ b) {k : Nat} {S5 : List D} (h5 : S5.length ≤ 200) (hS : ∀ y ∈ S5, Tm 2 (pB 0) (wB 0) y ∧ ∃ z zs, y = .tup (z :: zs)) {m : List MO} {A : Nat} (h : DS b cs M0 A m) (hA : A < drLim) (s1 s2 s3 s4 s6 s7 s8 s9 s10 s11 : Option S) :
  ∃ x m', (sRet (eIf (tOf (eBin (dEq0 true) (eVar 5) (eLst aNil))) (eBin dIx (eVar 5) (eCall (mir (n + 1) ._law_next) (aCons (escf (eVar 0)) (aCons (escf (eFn fLen (aCons (opd (eVar 5)) aNil))) aNil)))) (eC .non)) : Sm MX Out) ⟨[some (.d (.o 0)), s1, s2, s3, s4, some (.l S5), s6, s7, s8, s9, s10, s11], m⟩ = .ok (.rt (.d x)) ⟨[some (.d (.o 0)), s1, s2, s3, s4, some (.l S5), s6, s7, s8, s9, s10, s11], m'⟩ ∧ TmO k x ∧ DS b cs M0 (A + 1) m' := by
 have q := ne_nil0 S5
 by_cases he : S5 = []
 ·subst he
  refine ⟨.non, m, ?_, .inl rfl, h.le (by omega)⟩
  walk_at "z"
  rw [q]
  walk_at "z"
  simp only [List.isEmpty_nil, Bool.not_true, Bool.false_eq_true, if_false]
  walk_at "z"
 ·have hp : 0 < S5.length := by
   cases S5 with
   | nil => exact absurd rfl he
   | cons _ _ => simp
  obtain ⟨j, m1, e1, j0, j1, d1⟩ := next_ds n hb h hA (S5.length : Nat) (by omega) (by omega)
  obtain ⟨x, hx, e2⟩ := pick_l j0 j1
  have ne : S5.isEmpty = false := by cases S5 with
   | nil => exact absurd rfl he
   | cons _ _ => rfl
  refine ⟨x, m1, ?_, .inr ⟨(hS x hx).1.mono (by omega) (pB_mono k) (wB_mono k), (hS x hx).2⟩, d1⟩
  walk_at "z"
  rw [q, ne]
  walk_at "z"
  rw [e1]
  walk_at "z"
  rw [e2]
  walk_at "z"
noncomputable def ltT (c : Fn → List S → List MO → Rs S (List MO)) : Sm MX Bool := (tAndM (tOf (eBin (dEq0 true) (eVar 7) (eLst aNil))) (tAndM (tOf (eBin dGt (eVar 4) (eC (.int 0)))) (tOrM (tOf (eBin (dEq0 false) (eVar 5) (eLst aNil))) (tOf (eBin dEq (eCall (c ._law_next) (aCons (escf (eVar 0)) (aCons (escf (eC (.int 3))) aNil))) (eC (.int 1)))))))
noncomputable def ltA (c : Fn → List S → List MO → Rs S (List MO)) : Sm MX Out := (sSeq (sSet 8 (eBin dIx (eVar 7) (eCall (c ._law_next) (aCons (escf (eVar 0)) (aCons (escf (eFn fLen (aCons (opd (eVar 7)) aNil))) aNil)))))
  (sSeq (sSet 9 (eLc (iAnyM (eBin dIx (eDIx (eVar 6) (eVar 8)) (eC (.int 0)))) (kName 11) (fun z => .ok true z) (eCall (c ._law_term) (aCons (escf (eVar 0)) (aCons (escf (eVar 1)) (aCons (escf (eVar 2)) (aCons (escf (eVar 11)) (aCons (escf (eBin dSub (eVar 4) (eC (.int 1)))) aNil)))))) [11]))
  (sIf (tOf (eBin (dInW true) (eC .non) (eVar 9))) (sRet (eTup (aCons (escf (eC (.str "call"))) (aCons (escf (eVar 8)) (aCons (escf (eFn fTuple (aCons (opd (eVar 9)) aNil))) aNil))))) sNil)))
noncomputable def ltE (c : Fn → List S → List MO → Rs S (List MO)) : Sm MX Out := (sRet (eIf (tOf (eBin (dEq0 true) (eVar 5) (eLst aNil))) (eBin dIx (eVar 5) (eCall (c ._law_next) (aCons (escf (eVar 0)) (aCons (escf (eFn fLen (aCons (opd (eVar 5)) aNil))) aNil)))) (eC .non)))
theorem lt_head {c : Fn → List S → List MO → Rs S (List MO)} {ar : List Str} {so : Str} {K : Int} {m : List MO} {n0 n1 n2 n3 n4 : Nat} {L1 L2 L3 : List D} (hm : m[r]? = some (.dK (rolPs n0 n1 n2 n3 n4))) (h12 : L1.length + L2.length ≤ 1000000)
  (l1 : (eLc (iEnM (eVar 2)) (kTup 2 (ksCons (kName 10) (ksCons (kName 11) ksNil))) (tOf (eBin dEq (eVar 11) (eVar 3))) (eTup (aCons (escf (eC (.str "var"))) (aCons (escf (eVar 10)) aNil))) [10, 11] : Sm MX S) ⟨[some (.d (.o 0)), some (.d (.o r)), some (.d (arD ar)), some (.d (.str so)), some (.d (.int K)), none, none, none, none, none, none, none], m⟩ = .ok (.l L1) ⟨[some (.d (.o 0)), some (.d (.o r)), some (.d (arD ar)), some (.d (.str so)), some (.d (.int K)), none, none, none, none, none, none, none], m⟩)
  (l2 : (eLc (iAnyM (eDSort (eVar 6))) (kName 8) (tOf (eBin dEq (eDIx (eVar 6) (eVar 8)) (eTup (aCons (escf (eTup aNil)) (aCons (escf (eVar 3)) aNil))))) (eTup (aCons (escf (eC (.str "call"))) (aCons (escf (eVar 8)) (aCons (escf (eTup aNil)) aNil)))) [8] : Sm MX S) ⟨[some (.d (.o 0)), some (.d (.o r)), some (.d (arD ar)), some (.d (.str so)), some (.d (.int K)), some (.l L1), some (.d (.o n1)), none, none, none, none, none], m⟩ = .ok (.l L2) ⟨[some (.d (.o 0)), some (.d (.o r)), some (.d (arD ar)), some (.d (.str so)), some (.d (.int K)), some (.l L1), some (.d (.o n1)), none, none, none, none, none], m⟩)
  (l3 : (eLc (iAnyM (eDSort (eVar 6))) (kName 8) (tAndM (tOf (eBin dEq (eBin dIx (eDIx (eVar 6) (eVar 8)) (eC (.int 1))) (eVar 3))) (tOf (eBin (dEq0 true) (eBin dIx (eDIx (eVar 6) (eVar 8)) (eC (.int 0))) (eTup aNil)))) (eVar 8) [8] : Sm MX S) ⟨[some (.d (.o 0)), some (.d (.o r)), some (.d (arD ar)), some (.d (.str so)), some (.d (.int K)), some (.l (L1 ++ L2)), some (.d (.o n1)), none, none, none, none, none], m⟩ = .ok (.l L3) ⟨[some (.d (.o 0)), some (.d (.o r)), some (.d (arD ar)), some (.d (.str so)), some (.d (.int K)), some (.l (L1 ++ L2)), some (.d (.o n1)), none, none, none, none, none], m⟩) :
  m__law_term c ⟨[some (.d (.o 0)), some (.d (.o r)), some (.d (arD ar)), some (.d (.str so)), some (.d (.int K)), none, none, none, none, none, none, none], m⟩ = sSeq (sIf (ltT c) (ltA c) sNil) (ltE c) ⟨[some (.d (.o 0)), some (.d (.o r)), some (.d (arD ar)), some (.d (.str so)), some (.d (.int K)), some (.l (L1 ++ L2)), some (.d (.o n1)), some (.l L3), none, none, none, none], m⟩ := by
 have s1 : (sSet 5 (eLc (iEnM (eVar 2)) (kTup 2 (ksCons (kName 10) (ksCons (kName 11) ksNil))) (tOf (eBin dEq (eVar 11) (eVar 3))) (eTup (aCons (escf (eC (.str "var"))) (aCons (escf (eVar 10)) aNil))) [10, 11]) : Sm MX Out) ⟨[some (.d (.o 0)), some (.d (.o r)), some (.d (arD ar)), some (.d (.str so)), some (.d (.int K)), none, none, none, none, none, none, none], m⟩ = .ok .nx ⟨[some (.d (.o 0)), some (.d (.o r)), some (.d (arD ar)), some (.d (.str so)), some (.d (.int K)), some (.l L1), none, none, none, none, none, none], m⟩ := by
  simp only [sSet, una, l1, Rs.bind_ok, List.set_cons_succ, List.set_cons_zero]
 have dx : (eDIx (eVar 1) (eC (.str (Str.ofString "calls"))) : Sm MX S) ⟨[some (.d (.o 0)), some (.d (.o r)), some (.d (arD ar)), some (.d (.str so)), some (.d (.int K)), some (.l L1), none, none, none, none, none, none], m⟩ = .ok (.d (.o n1)) ⟨[some (.d (.o 0)), some (.d (.o r)), some (.d (arD ar)), some (.d (.str so)), some (.d (.int K)), some (.l L1), none, none, none, none, none, none], m⟩ := dix_at rfl hm (rv1 _ _ _ _ _)
 have s2 : (sSet 6 (eDIx (eVar 1) (eC (.str "calls"))) : Sm MX Out) ⟨[some (.d (.o 0)), some (.d (.o r)), some (.d (arD ar)), some (.d (.str so)), some (.d (.int K)), some (.l L1), none, none, none, none, none, none], m⟩ = .ok .nx ⟨[some (.d (.o 0)), some (.d (.o r)), some (.d (arD ar)), some (.d (.str so)), some (.d (.int K)), some (.l L1), some (.d (.o n1)), none, none, none, none, none], m⟩ := by
  simp only [sSet, una, dx, Rs.bind_ok, List.set_cons_succ, List.set_cons_zero]
 have ad := dAdd_l L1 L2 h12
 have s3 : (sSet 5 (eBin dAdd (eVar 5) (eLc (iAnyM (eDSort (eVar 6))) (kName 8) (tOf (eBin dEq (eDIx (eVar 6) (eVar 8)) (eTup (aCons (escf (eTup aNil)) (aCons (escf (eVar 3)) aNil))))) (eTup (aCons (escf (eC (.str "call"))) (aCons (escf (eVar 8)) (aCons (escf (eTup aNil)) aNil)))) [8])) : Sm MX Out) ⟨[some (.d (.o 0)), some (.d (.o r)), some (.d (arD ar)), some (.d (.str so)), some (.d (.int K)), some (.l L1), some (.d (.o n1)), none, none, none, none, none], m⟩ = .ok .nx ⟨[some (.d (.o 0)), some (.d (.o r)), some (.d (arD ar)), some (.d (.str so)), some (.d (.int K)), some (.l (L1 ++ L2)), some (.d (.o n1)), none, none, none, none, none], m⟩ := by
  revert l2
  generalize (eLc (iAnyM (eDSort (eVar 6))) (kName 8) (tOf (eBin dEq (eDIx (eVar 6) (eVar 8)) (eTup (aCons (escf (eTup aNil)) (aCons (escf (eVar 3)) aNil))))) (eTup (aCons (escf (eC (.str "call"))) (aCons (escf (eVar 8)) (aCons (escf (eTup aNil)) aNil)))) [8] : Sm MX S) = LC
  intro l2
  walk_at "z"
  rw [l2]
  walk_at "z"
  rw [ad]
  walk_at "z"
 have s4 : (sSet 7 (eLc (iAnyM (eDSort (eVar 6))) (kName 8) (tAndM (tOf (eBin dEq (eBin dIx (eDIx (eVar 6) (eVar 8)) (eC (.int 1))) (eVar 3))) (tOf (eBin (dEq0 true) (eBin dIx (eDIx (eVar 6) (eVar 8)) (eC (.int 0))) (eTup aNil)))) (eVar 8) [8]) : Sm MX Out) ⟨[some (.d (.o 0)), some (.d (.o r)), some (.d (arD ar)), some (.d (.str so)), some (.d (.int K)), some (.l (L1 ++ L2)), some (.d (.o n1)), none, none, none, none, none], m⟩ = .ok .nx ⟨[some (.d (.o 0)), some (.d (.o r)), some (.d (arD ar)), some (.d (.str so)), some (.d (.int K)), some (.l (L1 ++ L2)), some (.d (.o n1)), some (.l L3), none, none, none, none], m⟩ := by
  simp only [sSet, una, l3, Rs.bind_ok, List.set_cons_succ, List.set_cons_zero]
 unfold m__law_term
 rw [seq_nx s1, seq_nx s2, seq_nx s3, seq_nx s4]
 rfl
theorem ltT_ok (n : Nat) (hb : 2 ≤ b) {ar : List Str} {so : Str} {K : Int} {L5 L3 : List D} {n1 : Nat} {m : List MO} {A : Nat} (h : DS b cs M0 A m) (hA : A < drLim) : ∃ (t : Bool) (m' : List MO), ltT (mir (n + 1)) ⟨[some (.d (.o 0)), some (.d (.o r)), some (.d (arD ar)), some (.d (.str so)), some (.d (.int K)), some (.l L5), some (.d (.o n1)), some (.l L3), none, none, none, none], m⟩ = .ok t ⟨[some (.d (.o 0)), some (.d (.o r)), some (.d (arD ar)), some (.d (.str so)), some (.d (.int K)), some (.l L5), some (.d (.o n1)), some (.l L3), none, none, none, none], m'⟩ ∧ (t = true → 0 < K ∧ L3 ≠ []) ∧ DS b cs M0 (A + 1) m' := by
 have q3 := ne_nil0 L3
 have q5 := eq_nil0 L5
 unfold ltT
 cases L3 with
 | nil =>
  refine ⟨false, m, ?_, fun e => (by cases e), h.le (by omega)⟩
  walk_at "z"
  rw [q3]
  walk_at "z"
  rfl
 | cons a l =>
  by_cases hK : 0 < K
  ·cases L5 with
   | nil =>
    refine ⟨true, m, ?_, fun _ => ⟨hK, by simp⟩, h.le (by omega)⟩
    walk_at "z"
    rw [q3]
    walk_at "z"
    simp only [List.isEmpty_cons, Bool.not_false, if_true]
    rw [decide_eq_true hK]
    walk_at "z"
    rw [q5]
    walk_at "z"
    rfl
   | cons a5 l5 =>
    obtain ⟨j, m1, e1, j0, j1, d1⟩ := next_ds n hb h hA 3 (by decide) (by decide)
    refine ⟨decide (j = 1), m1, ?_, fun _ => ⟨hK, by simp⟩, d1⟩
    walk_at "z"
    rw [q3]
    walk_at "z"
    simp only [List.isEmpty_cons, Bool.not_false, if_true]
    rw [decide_eq_true hK]
    walk_at "z"
    rw [q5]
    walk_at "z"
    simp only [List.isEmpty_cons, Bool.false_eq_true, if_false]
    rw [e1]
    walk_at "z"
  ·refine ⟨false, m, ?_, fun e => (by cases e), h.le (by omega)⟩
   walk_at "z"
   rw [q3]
   walk_at "z"
   simp only [List.isEmpty_cons, Bool.not_false, if_true]
   rw [decide_eq_false hK]
   walk_at "z"
theorem ltA_ok (n k : Nat) (hb : 2 ≤ b) (hb3 : b ≤ 3) (hE : EOk E) (hr : Rol M0 r E) {ar : List Str} {so : Str} {K : Int} (hK : K = (k : Int) + 1) {L5 L3 : List D} {n1 : Nat} {m : List MO} {A : Nat} (h1 : m[n1]? = some (.dK (dk sgD E.ca))) (hn1 : 3 ≤ n1) (h : DS b cs M0 A m) (hA : A + 1 + 3 * termK k < drLim) (h3 : L3 ≠ []) (hl3 : L3.length ≤ 100) (f3 : ∀ y ∈ L3, ∃ f v, y = .str f ∧ fnd E.ca f = some v)
  (ih : ∀ (so : Str) (m : List MO) (A : Nat), PyData.strOk so = true → DS b cs M0 A m → A + termK k < drLim → ∃ x m', mir (n + 1) ._law_term [.d (.o 0), .d (.o r), .d (arD ar), .d (.str so), .d (.int (k : Int))] m = .ok (.d x) m' ∧ TmO k x ∧ DS b cs M0 (A + termK k) m') :
  ∃ (m' : List MO) (s8 s9 : Option S), DS b cs M0 (A + 1 + 3 * termK k) m' ∧ (ltA (mir (n + 1)) ⟨[some (.d (.o 0)), some (.d (.o r)), some (.d (arD ar)), some (.d (.str so)), some (.d (.int K)), some (.l L5), some (.d (.o n1)), some (.l L3), none, none, none, none], m⟩ = .ok .nx ⟨[some (.d (.o 0)), some (.d (.o r)), some (.d (arD ar)), some (.d (.str so)), some (.d (.int K)), some (.l L5), some (.d (.o n1)), some (.l L3), s8, s9, none, none], m'⟩ ∨ ∃ x, ltA (mir (n + 1)) ⟨[some (.d (.o 0)), some (.d (.o r)), some (.d (arD ar)), some (.d (.str so)), some (.d (.int K)), some (.l L5), some (.d (.o n1)), some (.l L3), none, none, none, none], m⟩ = .ok (.rt (.d x)) ⟨[some (.d (.o 0)), some (.d (.o r)), some (.d (arD ar)), some (.d (.str so)), some (.d (.int K)), some (.l L5), some (.d (.o n1)), some (.l L3), s8, s9, none, none], m'⟩ ∧ TmO (k + 1) x) := by
 have hp : 0 < L3.length := by
  cases L3 with
  | nil => exact absurd rfl h3
  | cons _ _ => simp
 obtain ⟨j, m1, e1, j0, j1, d1⟩ := next_ds n hb h (by omega) (L3.length : Nat) (by omega) (by omega)
 obtain ⟨y, hy, e2⟩ := pick_l j0 j1
 obtain ⟨f, v, rfl, hv⟩ := f3 y hy
 obtain ⟨hn, v3, hv1, hv2⟩ := hE.ca _ (fnd_mem hv)
 have v3 : v.1.length ≤ 3 := v3
 have hv1 : ∀ s ∈ v.1, nmOk s := hv1
 have fr : Fr 3 m m1 := by
  obtain ⟨_, _, _, f0⟩ := h
  obtain ⟨_, _, _, f1⟩ := d1
  exact ⟨f1.1.trans f0.1.symm, fun k hk => (f1.2 k (by omega)).trans (f0.2 k (by omega)).symm⟩
 have h1' : m1[n1]? = some (.dK (dk sgD E.ca)) := (fr.2 n1 hn1).trans h1
 have s8 : (sSet 8 (eBin dIx (eVar 7) (eCall (mir (n + 1) ._law_next) (aCons (escf (eVar 0)) (aCons (escf (eFn fLen (aCons (opd (eVar 7)) aNil))) aNil)))) : Sm MX Out) ⟨[some (.d (.o 0)), some (.d (.o r)), some (.d (arD ar)), some (.d (.str so)), some (.d (.int K)), some (.l L5), some (.d (.o n1)), some (.l L3), none, none, none, none], m⟩ = .ok .nx ⟨[some (.d (.o 0)), some (.d (.o r)), some (.d (arD ar)), some (.d (.str so)), some (.d (.int K)), some (.l L5), some (.d (.o n1)), some (.l L3), some (.d (.str f)), none, none, none], m1⟩ := by
  walk_at "z"
  rw [e1]
  walk_at "z"
  rw [e2]
  walk_at "z"
 have dx := dix_of (f := eVar 6) (g := eVar 8) (n := n1) (x := f) (z := ⟨[some (.d (.o 0)), some (.d (.o r)), some (.d (arD ar)), some (.d (.str so)), some (.d (.int K)), some (.l L5), some (.d (.o n1)), some (.l L3), some (.d (.str f)), none, none, none], m1⟩) (z1 := ⟨[some (.d (.o 0)), some (.d (.o r)), some (.d (arD ar)), some (.d (.str so)), some (.d (.int K)), some (.l L5), some (.d (.o n1)), some (.l L3), some (.d (.str f)), none, none, none], m1⟩) (z2 := ⟨[some (.d (.o 0)), some (.d (.o r)), some (.d (arD ar)), some (.d (.str so)), some (.d (.int K)), some (.l L5), some (.d (.o n1)), some (.l L3), some (.d (.str f)), none, none, none], m1⟩) rfl rfl h1'
 rw [val_dk, hv] at dx
 have dx' : (eDIx (eVar 6) (eVar 8) : Sm MX S) ⟨[some (.d (.o 0)), some (.d (.o r)), some (.d (arD ar)), some (.d (.str so)), some (.d (.int K)), some (.l L5), some (.d (.o n1)), some (.l L3), some (.d (.str f)), none, none, none], m1⟩ = .ok (.d (.tup [.tup (v.1.map D.str), .str v.2])) ⟨[some (.d (.o 0)), some (.d (.o r)), some (.d (arD ar)), some (.d (.str so)), some (.d (.int K)), some (.l L5), some (.d (.o n1)), some (.l L3), some (.d (.str f)), none, none, none], m1⟩ := dx
 have i0 : (iAnyM (eBin dIx (eDIx (eVar 6) (eVar 8)) (eC (.int 0))) : Sm MX (List D)) ⟨[some (.d (.o 0)), some (.d (.o r)), some (.d (arD ar)), some (.d (.str so)), some (.d (.int K)), some (.l L5), some (.d (.o n1)), some (.l L3), some (.d (.str f)), none, none, none], m1⟩ = .ok (v.1.map D.str) ⟨[some (.d (.o 0)), some (.d (.o r)), some (.d (arD ar)), some (.d (.str so)), some (.d (.int K)), some (.l L5), some (.d (.o n1)), some (.l L3), some (.d (.str f)), none, none, none], m1⟩ := by
  simp only [iAnyM]
  walk_at "z"
  rw [dx']
  walk_at "z"
  rfl
 obtain ⟨ys, m2, g1, g2, g3, g4⟩ := elcQ (e := (eCall (mir (n + 1) ._law_term) (aCons (escf (eVar 0)) (aCons (escf (eVar 1)) (aCons (escf (eVar 2)) (aCons (escf (eVar 11)) (aCons (escf (eBin dSub (eVar 4) (eC (.int 1)))) aNil))))))) (i := 11) rfl (P := TmO k) (Q := fun t m => DS b cs M0 (A + 1 + (v.1.length - t) * termK k) m ∧ t ≤ v.1.length) i0 (by rw [List.length_map]; show _ ≤ 1000000; omega) ⟨by rw [List.length_map, Nat.sub_self, Nat.zero_mul]; exact d1, by rw [List.length_map]; exact Nat.le_refl _⟩ (fun t d m hd ⟨q, ht⟩ => by
  obtain ⟨s, hs, rfl⟩ := List.mem_map.mp hd
  have hm1 : (v.1.length - (t + 1)) * termK k + termK k = (v.1.length - t) * termK k := by rw [← Nat.succ_mul]; congr 1; omega
  have hm2 : (v.1.length - t) * termK k ≤ 3 * termK k := Nat.mul_le_mul_right _ (by omega)
  obtain ⟨x, m', e, hx, dd⟩ := ih s m (A + 1 + (v.1.length - (t + 1)) * termK k) (hv1 s hs).1 q (by omega)
  refine ⟨x, m', ?_, hx, dd.le (by omega), by omega⟩
  have ek : K - 1 = (k : Int) := by omega
  walk_at "z"
  rw [ek]
  rw [e]
  walk_at "z")
 rw [List.length_map] at g2
 have hmx : (v.1.length - 0) * termK k ≤ 3 * termK k := Nat.mul_le_mul_right _ (by omega)
 have d2 : DS b cs M0 (A + 1 + 3 * termK k) m2 := g4.1.le (by omega)
 have s9 : (sSet 9 (eLc (iAnyM (eBin dIx (eDIx (eVar 6) (eVar 8)) (eC (.int 0)))) (kName 11) (fun z => .ok true z) (eCall (mir (n + 1) ._law_term) (aCons (escf (eVar 0)) (aCons (escf (eVar 1)) (aCons (escf (eVar 2)) (aCons (escf (eVar 11)) (aCons (escf (eBin dSub (eVar 4) (eC (.int 1)))) aNil)))))) [11]) : Sm MX Out) ⟨[some (.d (.o 0)), some (.d (.o r)), some (.d (arD ar)), some (.d (.str so)), some (.d (.int K)), some (.l L5), some (.d (.o n1)), some (.l L3), some (.d (.str f)), none, none, none], m1⟩ = .ok .nx ⟨[some (.d (.o 0)), some (.d (.o r)), some (.d (arD ar)), some (.d (.str so)), some (.d (.int K)), some (.l L5), some (.d (.o n1)), some (.l L3), some (.d (.str f)), some (.l ys), none, none], m2⟩ := by
  simp only [sSet, una, g1, Rs.bind_ok, List.set_cons_succ, List.set_cons_zero]
 obtain ⟨la, na⟩ := isN_any (d := 2 * k + 2) (p := pB k) (w := wB k) (xs := ys) (fun x hx => by
  rcases g3 x hx with h | ⟨h, y, t, e⟩
  ·exact .inl h
  ·exact .inr ⟨h, _, e⟩)
 have nn := notInN la
 unfold ltA
 cases hi : inW .non ys with
 | true =>
  refine ⟨m2, some (.d (.str f)), some (.l ys), d2, .inl ?_⟩
  rw [seq_nx s8, seq_nx s9]
  rw [hi] at nn
  walk_at "z"
  rw [nn]
  walk_at "z"
 | false =>
  refine ⟨m2, some (.d (.str f)), some (.l ys), d2, .inr ⟨.tup [.str (Str.ofString "call"), .str f, .tup ys], ?_, .inr ⟨?_, _, _, rfl⟩⟩⟩
  ·rw [seq_nx s8, seq_nx s9]
   rw [hi] at nn
   walk_at "z"
   rw [nn]
   walk_at "z"
  ·exact (tm_call (nm_lit "call" (by decide +kernel)) hn (na hi) (by omega)).mono (by omega) (Nat.le_refl _) (Nat.le_refl _)
theorem sif_f {t : Sm MX Bool} {a : Sm MX Out} {z z1 : Z (List MO)} (h : t z = .ok false z1) : sIf t a sNil z = .ok .nx z1 := (if_f h).trans rfl
theorem lt_end' (n : Nat) (hb : 2 ≤ b) {k : Nat} {S5 : List D} (h5 : S5.length ≤ 200) (hS : ∀ y ∈ S5, Tm 2 (pB 0) (wB 0) y ∧ ∃ z zs, y = .tup (z :: zs)) {m : List MO} {A : Nat} (h : DS b cs M0 A m) (hA : A < drLim) (s1 s2 s3 s4 s6 s7 s8 s9 s10 s11 : Option S) :
  ∃ x m', fnR (ltE (mir (n + 1)) ⟨[some (.d (.o 0)), s1, s2, s3, s4, some (.l S5), s6, s7, s8, s9, s10, s11], m⟩) = .ok (.d x) m' ∧ TmO k x ∧ DS b cs M0 (A + 1) m' := by
 obtain ⟨x, m', e, h1, h2⟩ := lt_end (k := k) n hb h5 hS h hA s1 s2 s3 s4 s6 s7 s8 s9 s10 s11
 exact ⟨x, m', by unfold ltE; rw [e]; rfl, h1, h2⟩
theorem term_ok (hb : 2 ≤ b) (hb3 : b ≤ 3) (hE : EOk E) (hr : Rol M0 r E) (ar : List Str) (har : ∀ a ∈ ar, PyData.strOk a = true) (hal : ar.length ≤ 100) : ∀ (k n : Nat) (so : Str) (m : List MO) (A : Nat), PyData.strOk so = true → DS b cs M0 A m → A + termK k < drLim →
  ∃ x m', mir (n + k + 2) ._law_term [.d (.o 0), .d (.o r), .d (arD ar), .d (.str so), .d (.int (k : Int))] m = .ok (.d x) m' ∧ TmO k x ∧ DS b cs M0 (A + termK k) m' := by
 intro k
 induction k with
 | zero =>
  intro n so m A hso hd hA
  have hA : A + 2 < drLim := hA
  have hrm : Rol m r E := by obtain ⟨_, _, _, f⟩ := hd; exact rol_fr hr (f.up hb3)
  obtain ⟨n0, n1, n2, n3, n4, hm, hdk, _⟩ := hrm
  obtain ⟨L1, l1, l2, l3⟩ := lt_some1 (c := mir (n + 1)) (r := r) ar so ((0 : Nat) : Int) m har hal hso
  obtain ⟨L2, g1, g2, g3⟩ := lt_some2 (c := mir (n + 1)) (r := r) hE ar so ((0 : Nat) : Int) m hdk.h1 hso L1
  obtain ⟨L3, f1, f2, f3⟩ := lt_great (c := mir (n + 1)) (r := r) hE ar so ((0 : Nat) : Int) m hdk.h1 hso (L1 ++ L2)
  have hd0 := lt_head (c := mir (n + 1)) hm (by omega) l1 g1 f1
  obtain ⟨t, m1, e1, t1, d1⟩ := ltT_ok n hb (ar := ar) (so := so) (K := ((0 : Nat) : Int)) (L5 := L1 ++ L2) (L3 := L3) (n1 := n1) (r := r) hd (by omega)
  have tf : t = false := by
   cases t with
   | false => rfl
   | true => have := (t1 rfl).1; exact absurd this (by decide)
  subst tf
  obtain ⟨x, m', e, hx, hd'⟩ := lt_end' (k := 0) n hb (S5 := L1 ++ L2) (by rw [List.length_append]; omega) (fun y hy => by
   rcases List.mem_append.mp hy with hy | hy
   ·exact l3 y hy
   ·exact g3 y hy) d1 (by omega) (some (.d (.o r))) (some (.d (arD ar))) (some (.d (.str so))) (some (.d (.int ((0 : Nat) : Int)))) (some (.d (.o n1))) (some (.l L3)) none none none none
  refine ⟨x, m', ?_, hx, hd'⟩
  show fnM 12 (m__law_term (mir (n + 1))) _ _ = _
  rw [fnM_R]
  exact (congrArg fnR (hd0.trans (seq_nx (sif_f e1)))).trans e
 | succ k ih =>
  intro n so m A hso hd hA
  have hA : A + (5 + 3 * termK k) < drLim := hA
  have hrm : Rol m r E := by obtain ⟨_, _, _, f⟩ := hd; exact rol_fr hr (f.up hb3)
  obtain ⟨n0, n1, n2, n3, n4, hm, hdk, _⟩ := hrm
  obtain ⟨L1, l1, l2, l3⟩ := lt_some1 (c := mir (n + k + 2)) (r := r) ar so ((k + 1 : Nat) : Int) m har hal hso
  obtain ⟨L2, g1, g2, g3⟩ := lt_some2 (c := mir (n + k + 2)) (r := r) hE ar so ((k + 1 : Nat) : Int) m hdk.h1 hso L1
  obtain ⟨L3, f1, f2, f3⟩ := lt_great (c := mir (n + k + 2)) (r := r) hE ar so ((k + 1 : Nat) : Int) m hdk.h1 hso (L1 ++ L2)
  have hd0 := lt_head (c := mir (n + k + 2)) hm (by omega) l1 g1 f1
  obtain ⟨t, m1, e1, t1, d1⟩ := ltT_ok (n + k + 1) hb (ar := ar) (so := so) (K := ((k + 1 : Nat) : Int)) (L5 := L1 ++ L2) (L3 := L3) (n1 := n1) (r := r) hd (by omega)
  have hS : ∀ y ∈ L1 ++ L2, Tm 2 (pB 0) (wB 0) y ∧ ∃ z zs, y = .tup (z :: zs) := fun y hy => by
   rcases List.mem_append.mp hy with hy | hy
   ·exact l3 y hy
   ·exact g3 y hy
  have hlen : (L1 ++ L2).length ≤ 200 := by rw [List.length_append]; omega
  show ∃ x m', fnM 12 (m__law_term (mir (n + k + 2))) _ _ = _ ∧ _ ∧ DS b cs M0 (A + (5 + 3 * termK k)) m'
  rw [fnM_R]
  cases t with
  | false =>
   obtain ⟨x, m', e, hx, hd'⟩ := lt_end' (k := k + 1) (n + k + 1) hb hlen hS d1 (by omega) (some (.d (.o r))) (some (.d (arD ar))) (some (.d (.str so))) (some (.d (.int ((k + 1 : Nat) : Int)))) (some (.d (.o n1))) (some (.l L3)) none none none none
   refine ⟨x, m', ?_, hx, hd'.le (by omega)⟩
   exact (congrArg fnR (hd0.trans (seq_nx (sif_f e1)))).trans e
  | true =>
   have hn1 := hdk.b.2.2.1
   have h1' : m1[n1]? = some (.dK (dk sgD E.ca)) := by
    obtain ⟨_, _, _, f0⟩ := hd
    obtain ⟨_, _, _, f1⟩ := d1
    exact ((f1.2 n1 (by omega)).trans (f0.2 n1 (by omega)).symm).trans hdk.h1
   obtain ⟨m2, s8, s9, d2, hq⟩ := ltA_ok (n + k + 1) k hb hb3 hE hr (ar := ar) (so := so) (K := ((k + 1 : Nat) : Int)) (by omega) (L5 := L1 ++ L2) (L3 := L3) (n1 := n1) h1' hn1 d1 (by omega) (t1 rfl).2 f2 f3 (fun so m A h1 h2 h3 => ih n so m A h1 h2 h3)
   rcases hq with hq | ⟨x, hq, hx⟩
   ·obtain ⟨x, m', e, hx, hd'⟩ := lt_end' (k := k + 1) (n + k + 1) hb hlen hS d2 (by omega) (some (.d (.o r))) (some (.d (arD ar))) (some (.d (.str so))) (some (.d (.int ((k + 1 : Nat) : Int)))) (some (.d (.o n1))) (some (.l L3)) s8 s9 none none
    refine ⟨x, m', ?_, hx, hd'.le (by omega)⟩
    exact (congrArg fnR (hd0.trans (seq_nx ((if_t e1).trans hq)))).trans e
   ·refine ⟨x, m2, ?_, hx, d2.le (by omega)⟩
    exact (congrArg fnR (hd0.trans (seq_rt ((if_t e1).trans hq)))).trans rfl
end
noncomputable def leT1 : Sm MX Bool := (tAndM (tOf (eBin dLt (eVar 3) (eC (.int 2)))) (tOf (eBin (dEq0 true) (eVar 4) (eLst aNil))))
noncomputable def leA1 (c : Fn → List S → List MO → Rs S (List MO)) : Sm MX Out := (sSeq (sSet 6 (eBin dIx (eVar 4) (eCall (c ._law_next) (aCons (escf (eVar 0)) (aCons (escf (eFn fLen (aCons (opd (eVar 4)) aNil))) aNil)))))
  (sSeq (sSet 7 (eLc (iAnyM (eDIx (eDIx (eVar 1) (eC (.str "rels"))) (eVar 6))) (kName 8) (fun z => .ok true z) (eCall (c ._law_term) (aCons (escf (eVar 0)) (aCons (escf (eVar 1)) (aCons (escf (eVar 2)) (aCons (escf (eVar 8)) (aCons (escf (eC (.int 2))) aNil)))))) [8]))
  (sIf (tOf (eBin (dInW true) (eC .non) (eVar 7))) (sRet (eTup (aCons (escf (eC (.str "rel"))) (aCons (escf (eVar 6)) (aCons (escf (eFn fTuple (aCons (opd (eVar 7)) aNil))) aNil))))) sNil)))
noncomputable def leT2 : Sm MX Bool := (tAndM (tOf (eBin dLt (eVar 3) (eC (.int 3)))) (tOf (eBin (dEq0 true) (eVar 5) (eLst aNil))))
noncomputable def leA2 (c : Fn → List S → List MO → Rs S (List MO)) : Sm MX Out := (sSeq (sSet 8 (eBin dIx (eVar 5) (eCall (c ._law_next) (aCons (escf (eVar 0)) (aCons (escf (eFn fLen (aCons (opd (eVar 5)) aNil))) aNil)))))
  (sSeq (sPar 9 10 (aCons (escf (eCall (c ._law_term) (aCons (escf (eVar 0)) (aCons (escf (eVar 1)) (aCons (escf (eVar 2)) (aCons (escf (eVar 8)) (aCons (escf (eC (.int 2))) aNil))))))) (aCons (escf (eCall (c ._law_term) (aCons (escf (eVar 0)) (aCons (escf (eVar 1)) (aCons (escf (eVar 2)) (aCons (escf (eVar 8)) (aCons (escf (eC (.int 1))) aNil))))))) aNil)))
  (sIf (tAndM (tOf (eBin dIsNot (eVar 9) (eC .non))) (tOf (eBin dIsNot (eVar 10) (eC .non)))) (sRet (eTup (aCons (escf (eC (.str "same"))) (aCons (escf (eVar 9)) (aCons (escf (eVar 10)) aNil))))) sNil)))
noncomputable abbrev lP : Nat := 80
noncomputable abbrev lW : Nat := 30 + 3 * (wB 2 + 1)
noncomputable def StO (d p w : Nat) (x : D) : Prop := Tm d p w x ∧ ∃ y ys, x = .tup (y :: ys)
noncomputable def leafK : Nat := 301
section
variable {b : Nat} {cs : List Int} {M0 : List MO} {r : Nat} {E : Ent} {ar R S : List Str} {w : Int}
theorem leT1_ok (m : List MO) {s6 s7 s8 s9 s10 : Option _root_.G.S} : leT1 ⟨[some (.d (.o 0)), some (.d (.o r)), some (.d (arD ar)), some (.d (.int w)), some (.l (R.map D.str)), some (.l (S.map D.str)), s6, s7, s8, s9, s10], m⟩ = .ok (decide (w < 2) && !R.isEmpty) ⟨[some (.d (.o 0)), some (.d (.o r)), some (.d (arD ar)), some (.d (.int w)), some (.l (R.map D.str)), some (.l (S.map D.str)), s6, s7, s8, s9, s10], m⟩ := by
 have q := ne_nil0 (R.map D.str)
 unfold leT1
 walk_at "z"
 by_cases h : w < 2
 ·rw [decide_eq_true h]
  walk_at "z"
  rw [q]
  walk_at "z"
  rw [List.isEmpty_map]
 ·rw [decide_eq_false h]
  walk_at "z"
theorem leT2_ok (m : List MO) {s6 s7 s8 s9 s10 : Option _root_.G.S} : leT2 ⟨[some (.d (.o 0)), some (.d (.o r)), some (.d (arD ar)), some (.d (.int w)), some (.l (R.map D.str)), some (.l (S.map D.str)), s6, s7, s8, s9, s10], m⟩ = .ok (decide (w < 3) && !S.isEmpty) ⟨[some (.d (.o 0)), some (.d (.o r)), some (.d (arD ar)), some (.d (.int w)), some (.l (R.map D.str)), some (.l (S.map D.str)), s6, s7, s8, s9, s10], m⟩ := by
 have q := ne_nil0 (S.map D.str)
 unfold leT2
 walk_at "z"
 by_cases h : w < 3
 ·rw [decide_eq_true h]
  walk_at "z"
  rw [q]
  walk_at "z"
  rw [List.isEmpty_map]
 ·rw [decide_eq_false h]
  walk_at "z"
theorem leA1_ok (n : Nat) (hb : 2 ≤ b) (hb3 : b ≤ 3) (hE : EOk E) (hr : Rol M0 r E) (har : ∀ a ∈ ar, PyData.strOk a = true) (hal : ar.length ≤ 100) {m : List MO} {A : Nat} (h : DS b cs M0 A m) (hA : A + 150 < drLim) (hR : R ≠ []) (hR2 : R.length ≤ 100) (hR3 : ∀ s ∈ R, ∃ v, fnd E.re s = some v) :
  ∃ (m' : List MO) (s6 s7 s8 s9 s10 : Option _root_.G.S), DS b cs M0 (A + 150) m' ∧ (leA1 (mir (n + 4)) ⟨[some (.d (.o 0)), some (.d (.o r)), some (.d (arD ar)), some (.d (.int w)), some (.l (R.map D.str)), some (.l (S.map D.str)), none, none, none, none, none], m⟩ = .ok .nx ⟨[some (.d (.o 0)), some (.d (.o r)), some (.d (arD ar)), some (.d (.int w)), some (.l (R.map D.str)), some (.l (S.map D.str)), s6, s7, s8, s9, s10], m'⟩ ∨ ∃ x, leA1 (mir (n + 4)) ⟨[some (.d (.o 0)), some (.d (.o r)), some (.d (arD ar)), some (.d (.int w)), some (.l (R.map D.str)), some (.l (S.map D.str)), none, none, none, none, none], m⟩ = .ok (.rt (.d x)) ⟨[some (.d (.o 0)), some (.d (.o r)), some (.d (arD ar)), some (.d (.int w)), some (.l (R.map D.str)), some (.l (S.map D.str)), s6, s7, s8, s9, s10], m'⟩ ∧ StO 8 lP lW x) := by
 have hp : 0 < R.length := by
  cases R with
  | nil => exact absurd rfl hR
  | cons _ _ => simp
 obtain ⟨j, m1, e1, j0, j1, d1⟩ := next_ds (n + 3) hb h (by omega) (R.length : Nat) (by omega) (by omega)
 obtain ⟨f, hf, e2⟩ := pick_s j0 j1
 obtain ⟨v, hv⟩ := hR3 f hf
 obtain ⟨hn, v3, hv1⟩ := hE.re _ (fnd_mem hv)
 have v3 : v.length ≤ 3 := v3
 have hv1 : ∀ s ∈ v, nmOk s := hv1
 have hrm : Rol m1 r E := by obtain ⟨_, _, _, f⟩ := d1; exact rol_fr hr (f.up hb3)
 obtain ⟨n0, n1, n2, n3, n4, hm, hdk, _⟩ := hrm
 have el := lenL (R.map D.str)
 rw [List.length_map] at el
 have s6 : (sSet 6 (eBin dIx (eVar 4) (eCall (mir (n + 4) ._law_next) (aCons (escf (eVar 0)) (aCons (escf (eFn fLen (aCons (opd (eVar 4)) aNil))) aNil)))) : Sm MX Out) ⟨[some (.d (.o 0)), some (.d (.o r)), some (.d (arD ar)), some (.d (.int w)), some (.l (R.map D.str)), some (.l (S.map D.str)), none, none, none, none, none], m⟩ = .ok .nx ⟨[some (.d (.o 0)), some (.d (.o r)), some (.d (arD ar)), some (.d (.int w)), some (.l (R.map D.str)), some (.l (S.map D.str)), some (.d (.str f)), none, none, none, none], m1⟩ := by
  walk_at "z"
  rw [List.length_map, e1]
  walk_at "z"
  rw [e2]
  walk_at "z"
 have dr : (eDIx (eVar 1) (eC (.str (Str.ofString "rels"))) : Sm MX _root_.G.S) ⟨[some (.d (.o 0)), some (.d (.o r)), some (.d (arD ar)), some (.d (.int w)), some (.l (R.map D.str)), some (.l (S.map D.str)), some (.d (.str f)), none, none, none, none], m1⟩ = .ok (.d (.o n2)) ⟨[some (.d (.o 0)), some (.d (.o r)), some (.d (arD ar)), some (.d (.int w)), some (.l (R.map D.str)), some (.l (S.map D.str)), some (.d (.str f)), none, none, none, none], m1⟩ := dix_at rfl hm (rv2 _ _ _ _ _)
 have dx := dix_of (f := (eDIx (eVar 1) (eC (.str (Str.ofString "rels"))))) (g := eVar 6) (n := n2) (x := f) (z := ⟨[some (.d (.o 0)), some (.d (.o r)), some (.d (arD ar)), some (.d (.int w)), some (.l (R.map D.str)), some (.l (S.map D.str)), some (.d (.str f)), none, none, none, none], m1⟩) (z1 := ⟨[some (.d (.o 0)), some (.d (.o r)), some (.d (arD ar)), some (.d (.int w)), some (.l (R.map D.str)), some (.l (S.map D.str)), some (.d (.str f)), none, none, none, none], m1⟩) (z2 := ⟨[some (.d (.o 0)), some (.d (.o r)), some (.d (arD ar)), some (.d (.int w)), some (.l (R.map D.str)), some (.l (S.map D.str)), some (.d (.str f)), none, none, none, none], m1⟩) dr rfl hdk.h2
 rw [val_dk, hv] at dx
 have dx' : (eDIx (eDIx (eVar 1) (eC (.str (Str.ofString "rels")))) (eVar 6) : Sm MX _root_.G.S) ⟨[some (.d (.o 0)), some (.d (.o r)), some (.d (arD ar)), some (.d (.int w)), some (.l (R.map D.str)), some (.l (S.map D.str)), some (.d (.str f)), none, none, none, none], m1⟩ = .ok (.d (arD v)) ⟨[some (.d (.o 0)), some (.d (.o r)), some (.d (arD ar)), some (.d (.int w)), some (.l (R.map D.str)), some (.l (S.map D.str)), some (.d (.str f)), none, none, none, none], m1⟩ := dx
 have i0 : (iAnyM (eDIx (eDIx (eVar 1) (eC (.str "rels"))) (eVar 6)) : Sm MX (List D)) ⟨[some (.d (.o 0)), some (.d (.o r)), some (.d (arD ar)), some (.d (.int w)), some (.l (R.map D.str)), some (.l (S.map D.str)), some (.d (.str f)), none, none, none, none], m1⟩ = .ok (v.map D.str) ⟨[some (.d (.o 0)), some (.d (.o r)), some (.d (arD ar)), some (.d (.int w)), some (.l (R.map D.str)), some (.l (S.map D.str)), some (.d (.str f)), none, none, none, none], m1⟩ := by
  simp only [iAnyM, escf, dx', Rs.bind_ok, escS]
  rfl
 have tk : termK 2 = 38 := rfl
 obtain ⟨ys, m2, g1, g2, g3, g4⟩ := elcQ (e := (eCall (mir (n + 4) ._law_term) (aCons (escf (eVar 0)) (aCons (escf (eVar 1)) (aCons (escf (eVar 2)) (aCons (escf (eVar 8)) (aCons (escf (eC (.int 2))) aNil))))))) (i := 8) rfl (P := TmO 2) (Q := fun t m => DS b cs M0 (A + 1 + (v.length - t) * 38) m ∧ t ≤ v.length) i0 (by rw [List.length_map]; show _ ≤ 1000000; omega) ⟨by rw [List.length_map, Nat.sub_self, Nat.zero_mul]; exact d1, by rw [List.length_map]; exact Nat.le_refl _⟩ (fun t d m hd ⟨q, ht⟩ => by
  obtain ⟨s, hs, rfl⟩ := List.mem_map.mp hd
  obtain ⟨x, m', e, hx, dd⟩ := term_ok hb hb3 hE hr ar har hal 2 n s m (A + 1 + (v.length - (t + 1)) * 38) (hv1 s hs).1 q (by rw [tk]; omega)
  refine ⟨x, m', ?_, hx, dd.le (by rw [tk]; omega), by omega⟩
  have e : mir (n + 4) ._law_term [.d (.o 0), .d (.o r), .d (arD ar), .d (.str s), .d (.int 2)] m = .ok (.d x) m' := e
  walk_at "z"
  rw [e]
  walk_at "z")
 rw [List.length_map] at g2
 have d2 : DS b cs M0 (A + 150) m2 := g4.1.le (by omega)
 have s7 : (sSet 7 (eLc (iAnyM (eDIx (eDIx (eVar 1) (eC (.str "rels"))) (eVar 6))) (kName 8) (fun z => .ok true z) (eCall (mir (n + 4) ._law_term) (aCons (escf (eVar 0)) (aCons (escf (eVar 1)) (aCons (escf (eVar 2)) (aCons (escf (eVar 8)) (aCons (escf (eC (.int 2))) aNil)))))) [8]) : Sm MX Out) ⟨[some (.d (.o 0)), some (.d (.o r)), some (.d (arD ar)), some (.d (.int w)), some (.l (R.map D.str)), some (.l (S.map D.str)), some (.d (.str f)), none, none, none, none], m1⟩ = .ok .nx ⟨[some (.d (.o 0)), some (.d (.o r)), some (.d (arD ar)), some (.d (.int w)), some (.l (R.map D.str)), some (.l (S.map D.str)), some (.d (.str f)), some (.l ys), none, none, none], m2⟩ := by
  simp only [sSet, una, g1, Rs.bind_ok, List.set_cons_succ, List.set_cons_zero]
 obtain ⟨la, na⟩ := isN_any (d := 6) (p := pB 2) (w := wB 2) (xs := ys) (fun x hx => by
  rcases g3 x hx with h | ⟨h, y, t, e⟩
  ·exact .inl h
  ·exact .inr ⟨h, _, e⟩)
 have nn := notInN la
 unfold leA1
 cases hi : inW .non ys with
 | true =>
  refine ⟨m2, some (.d (.str f)), some (.l ys), none, none, none, d2, .inl ?_⟩
  rw [seq_nx s6, seq_nx s7]
  rw [hi] at nn
  walk_at "z"
  rw [nn]
  walk_at "z"
 | false =>
  refine ⟨m2, some (.d (.str f)), some (.l ys), none, none, none, d2, .inr ⟨.tup [.str (Str.ofString "rel"), .str f, .tup ys], ?_, ?_, _, _, rfl⟩⟩
  ·rw [seq_nx s6, seq_nx s7]
   rw [hi] at nn
   walk_at "z"
   rw [nn]
   walk_at "z"
  ·exact (tm_call (nm_lit "rel" (by decide +kernel)) hn (na hi) (by omega)).mono (by omega) (by show 2 + 3 * pB 2 ≤ 80; decide) (Nat.le_refl _)
theorem leA2_ok (n : Nat) (hb : 2 ≤ b) (hb3 : b ≤ 3) (hE : EOk E) (hr : Rol M0 r E) (har : ∀ a ∈ ar, PyData.strOk a = true) (hal : ar.length ≤ 100) {m : List MO} {A : Nat} (h : DS b cs M0 A m) (hA : A + 150 < drLim) (hS : S ≠ []) (hS2 : S.length ≤ 100) (hS3 : ∀ s ∈ S, PyData.strOk s = true) (s6 s7 s8 s9 s10 : Option _root_.G.S) :
  ∃ (m' : List MO) (s8' s9' s10' : Option _root_.G.S), DS b cs M0 (A + 150) m' ∧ (leA2 (mir (n + 4)) ⟨[some (.d (.o 0)), some (.d (.o r)), some (.d (arD ar)), some (.d (.int w)), some (.l (R.map D.str)), some (.l (S.map D.str)), s6, s7, s8, s9, s10], m⟩ = .ok .nx ⟨[some (.d (.o 0)), some (.d (.o r)), some (.d (arD ar)), some (.d (.int w)), some (.l (R.map D.str)), some (.l (S.map D.str)), s6, s7, s8', s9', s10'], m'⟩ ∨ ∃ x, leA2 (mir (n + 4)) ⟨[some (.d (.o 0)), some (.d (.o r)), some (.d (arD ar)), some (.d (.int w)), some (.l (R.map D.str)), some (.l (S.map D.str)), s6, s7, s8, s9, s10], m⟩ = .ok (.rt (.d x)) ⟨[some (.d (.o 0)), some (.d (.o r)), some (.d (arD ar)), some (.d (.int w)), some (.l (R.map D.str)), some (.l (S.map D.str)), s6, s7, s8', s9', s10'], m'⟩ ∧ StO 8 lP lW x) := by
 have hp : 0 < S.length := by
  cases S with
  | nil => exact absurd rfl hS
  | cons _ _ => simp
 obtain ⟨j, m1, e1, j0, j1, d1⟩ := next_ds (n + 3) hb h (by omega) (S.length : Nat) (by omega) (by omega)
 obtain ⟨f, hf, e2⟩ := pick_s j0 j1
 have k1 : termK 1 = 11 := rfl
 have k2 : termK 2 = 38 := rfl
 obtain ⟨x, m2, g1, hx, d2⟩ := term_ok hb hb3 hE hr ar har hal 2 n f m1 (A + 1) (hS3 f hf) d1 (by omega)
 obtain ⟨y, m3, g2, hy, d3⟩ := term_ok hb hb3 hE hr ar har hal 1 (n + 1) f m2 (A + 1 + termK 2) (hS3 f hf) d2 (by omega)
 have g1 : mir (n + 4) ._law_term [.d (.o 0), .d (.o r), .d (arD ar), .d (.str f), .d (.int 2)] m1 = .ok (.d x) m2 := g1
 have g2 : mir (n + 4) ._law_term [.d (.o 0), .d (.o r), .d (arD ar), .d (.str f), .d (.int 1)] m2 = .ok (.d y) m3 := g2
 have t8 : (sSet 8 (eBin dIx (eVar 5) (eCall (mir (n + 4) ._law_next) (aCons (escf (eVar 0)) (aCons (escf (eFn fLen (aCons (opd (eVar 5)) aNil))) aNil)))) : Sm MX Out) ⟨[some (.d (.o 0)), some (.d (.o r)), some (.d (arD ar)), some (.d (.int w)), some (.l (R.map D.str)), some (.l (S.map D.str)), s6, s7, s8, s9, s10], m⟩ = .ok .nx ⟨[some (.d (.o 0)), some (.d (.o r)), some (.d (arD ar)), some (.d (.int w)), some (.l (R.map D.str)), some (.l (S.map D.str)), s6, s7, some (.d (.str f)), s9, s10], m1⟩ := by
  walk_at "z"
  rw [List.length_map, e1]
  walk_at "z"
  rw [e2]
  walk_at "z"
 have t9 : (sPar 9 10 (aCons (escf (eCall (mir (n + 4) ._law_term) (aCons (escf (eVar 0)) (aCons (escf (eVar 1)) (aCons (escf (eVar 2)) (aCons (escf (eVar 8)) (aCons (escf (eC (.int 2))) aNil))))))) (aCons (escf (eCall (mir (n + 4) ._law_term) (aCons (escf (eVar 0)) (aCons (escf (eVar 1)) (aCons (escf (eVar 2)) (aCons (escf (eVar 8)) (aCons (escf (eC (.int 1))) aNil))))))) aNil)) : Sm MX Out) ⟨[some (.d (.o 0)), some (.d (.o r)), some (.d (arD ar)), some (.d (.int w)), some (.l (R.map D.str)), some (.l (S.map D.str)), s6, s7, some (.d (.str f)), s9, s10], m1⟩ = .ok .nx ⟨[some (.d (.o 0)), some (.d (.o r)), some (.d (arD ar)), some (.d (.int w)), some (.l (R.map D.str)), some (.l (S.map D.str)), s6, s7, some (.d (.str f)), some (.d x), some (.d y)], m3⟩ := by
  walk_at "z"
  rw [g1]
  walk_at "z"
  rw [g2]
  walk_at "z"
 have fin : ∀ {P : Prop}, P → P := fun p => p
 unfold leA2
 refine ⟨m3, some (.d (.str f)), some (.d x), some (.d y), d3.le (by omega), ?_⟩
 rcases hx with rfl | ⟨hx, x1, x2, rfl⟩
 ·refine .inl ?_
  rw [seq_nx t8, seq_nx t9]
  walk_at "z"
 ·rcases hy with rfl | ⟨hy, y1, y2, rfl⟩
  ·refine .inl ?_
   rw [seq_nx t8, seq_nx t9]
   walk_at "z"
  ·refine .inr ⟨.tup [.str (Str.ofString "same"), .tup (x1 :: x2), .tup (y1 :: y2)], ?_, ?_, _, _, rfl⟩
   ·rw [seq_nx t8, seq_nx t9]
    walk_at "z"
   ·exact (tm_tup (tms_cons (tm_str (nm_lit "same" (by decide +kernel))) (tms_cons hx (tms_cons hy tms_nil)))).mono (by omega) (by show 0 + (pB 2 + (pB 1 + 0)) + 1 ≤ 80; decide) (by show 10 + 1 + (wB 2 + 1 + (wB 1 + 1 + 0)) ≤ 30 + 3 * (wB 2 + 1); decide)
end
section
variable {b : Nat} {cs : List Int} {M0 : List MO} {r : Nat} {E : Ent}
theorem leaf_ok (n : Nat) (hb : 2 ≤ b) (hb3 : b ≤ 3) (hE : EOk E) (hr : Rol M0 r E) (ar : List Str) (har : ∀ a ∈ ar, PyData.strOk a = true) (hal : ar.length ≤ 100) {m : List MO} {A : Nat} (h : DS b cs M0 A m) (hA : A + leafK < drLim) :
  ∃ x m', mir (n + 5) ._law_leaf [.d (.o 0), .d (.o r), .d (arD ar)] m = .ok (.d x) m' ∧ StO 8 lP lW x ∧ DS b cs M0 (A + leafK) m' := by
 have hA : A + 301 < drLim := hA
 obtain ⟨w, m1, e1, w0, w1, d1⟩ := next_ds (n + 3) hb h (by omega) 4 (by decide) (by decide)
 have hrm : Rol m1 r E := by obtain ⟨_, _, _, f⟩ := d1; exact rol_fr hr (f.up hb3)
 obtain ⟨n0, n1, n2, n3, n4, hm, hdk, _⟩ := hrm
 have nn := hE.nn
 have t3 : (sSet 3 (eCall (mir (n + 4) ._law_next) (aCons (escf (eVar 0)) (aCons (escf (eC (.int 4))) aNil))) : Sm MX Out) ⟨[some (.d (.o 0)), some (.d (.o r)), some (.d (arD ar)), none, none, none, none, none, none, none, none], m⟩ = .ok .nx ⟨[some (.d (.o 0)), some (.d (.o r)), some (.d (arD ar)), some (.d (.int w)), none, none, none, none, none, none, none], m1⟩ := by
  walk_at "z"
  rw [e1]
  walk_at "z"
 have q4 := dsort_of (f := (eDIx (eVar 1) (eC (.str (Str.ofString "rels"))))) (z := ⟨[some (.d (.o 0)), some (.d (.o r)), some (.d (arD ar)), some (.d (.int w)), none, none, none, none, none, none, none], m1⟩) (z1 := ⟨[some (.d (.o 0)), some (.d (.o r)), some (.d (arD ar)), some (.d (.int w)), none, none, none, none, none, none, none], m1⟩) (dix_at rfl hm (rv2 _ _ _ _ _)) hdk.h2 (by omega)
 have t4 : (sSet 4 (eDSort (eDIx (eVar 1) (eC (.str "rels")))) : Sm MX Out) ⟨[some (.d (.o 0)), some (.d (.o r)), some (.d (arD ar)), some (.d (.int w)), none, none, none, none, none, none, none], m1⟩ = .ok .nx ⟨[some (.d (.o 0)), some (.d (.o r)), some (.d (arD ar)), some (.d (.int w)), some (.l ((srtS (E.re.map (·.1))).map D.str)), none, none, none, none, none, none], m1⟩ := by
  simp only [sSet, una, q4, Rs.bind_ok, List.set_cons_succ, List.set_cons_zero]
 have q5 := dsort_of (f := (eDIx (eVar 1) (eC (.str (Str.ofString "sorts"))))) (z := ⟨[some (.d (.o 0)), some (.d (.o r)), some (.d (arD ar)), some (.d (.int w)), some (.l ((srtS (E.re.map (·.1))).map D.str)), none, none, none, none, none, none], m1⟩) (z1 := ⟨[some (.d (.o 0)), some (.d (.o r)), some (.d (arD ar)), some (.d (.int w)), some (.l ((srtS (E.re.map (·.1))).map D.str)), none, none, none, none, none, none], m1⟩) (dix_at rfl hm (rv0 _ _ _ _ _)) hdk.h0 (by omega)
 have t5 : (sSet 5 (eDSort (eDIx (eVar 1) (eC (.str "sorts")))) : Sm MX Out) ⟨[some (.d (.o 0)), some (.d (.o r)), some (.d (arD ar)), some (.d (.int w)), some (.l ((srtS (E.re.map (·.1))).map D.str)), none, none, none, none, none, none], m1⟩ = .ok .nx ⟨[some (.d (.o 0)), some (.d (.o r)), some (.d (arD ar)), some (.d (.int w)), some (.l ((srtS (E.re.map (·.1))).map D.str)), some (.l ((srtS (E.so.map (·.1))).map D.str)), none, none, none, none, none], m1⟩ := by
  simp only [sSet, una, q5, Rs.bind_ok, List.set_cons_succ, List.set_cons_zero]
 have hR2 : (srtS (E.re.map (·.1))).length ≤ 100 := by rw [(srt_perm _).length_eq, List.length_map]; omega
 have hR3 : ∀ s ∈ srtS (E.re.map (·.1)), ∃ v, fnd E.re s = some v := fun s hs => fnd_some (srt_mem.mp hs)
 have hS2 : (srtS (E.so.map (·.1))).length ≤ 100 := by rw [(srt_perm _).length_eq, List.length_map]; omega
 have hS3 : ∀ s ∈ srtS (E.so.map (·.1)), PyData.strOk s = true := fun s hs => by
  obtain ⟨v, hv⟩ := fnd_some (srt_mem.mp hs)
  exact (hE.so _ (fnd_mem hv)).1.1
 generalize srtS (E.re.map (·.1)) = R at *
 generalize srtS (E.so.map (·.1)) = S at *
 have head : m__law_leaf (mir (n + 4)) ⟨[some (.d (.o 0)), some (.d (.o r)), some (.d (arD ar)), none, none, none, none, none, none, none, none], m⟩ = sSeq (sIf leT1 (leA1 (mir (n + 4))) sNil) (sSeq (sIf leT2 (leA2 (mir (n + 4))) sNil) (sRet (eTup (aCons (escf (eC (.str "no"))) aNil)))) ⟨[some (.d (.o 0)), some (.d (.o r)), some (.d (arD ar)), some (.d (.int w)), some (.l (R.map D.str)), some (.l (S.map D.str)), none, none, none, none, none], m1⟩ := by
  unfold m__law_leaf
  rw [seq_nx t3, seq_nx t4, seq_nx t5]
  rfl
 have hno : StO 8 lP lW (.tup [.str (Str.ofString "no")]) := ⟨(tm_tup (tms_cons (tm_str (nm_lit "no" (by decide +kernel))) tms_nil)).mono (by omega) (by decide) (by decide), _, _, rfl⟩
 -- behind the first question
 have two : ∀ (m2 : List MO) (s6 s7 s8 s9 s10 : Option _root_.G.S), DS b cs M0 (A + 151) m2 → ∃ x m', fnR (sSeq (sIf leT2 (leA2 (mir (n + 4))) sNil) (sRet (eTup (aCons (escf (eC (.str "no"))) aNil))) ⟨[some (.d (.o 0)), some (.d (.o r)), some (.d (arD ar)), some (.d (.int w)), some (.l (R.map D.str)), some (.l (S.map D.str)), s6, s7, s8, s9, s10], m2⟩) = .ok (.d x) m' ∧ StO 8 lP lW x ∧ DS b cs M0 (A + 301) m' := by
  intro m2 s6 s7 s8 s9 s10 d2
  have t := leT2_ok (r := r) (ar := ar) (R := R) (S := S) (w := w) m2 (s6 := s6) (s7 := s7) (s8 := s8) (s9 := s9) (s10 := s10)
  cases hq : (decide (w < 3) && !S.isEmpty) with
  | false =>
   rw [hq] at t
   exact ⟨_, m2, congrArg fnR (seq_nx (sif_f t)), hno, d2.le (by omega)⟩
  | true =>
   rw [hq] at t
   rw [Bool.and_eq_true] at hq
   have hS : S ≠ [] := fun e => by rw [e] at hq; cases hq.2
   obtain ⟨m3, s8', s9', s10', d3, hh⟩ := leA2_ok n hb hb3 hE hr (R := R) (w := w) har hal d2 (by omega) hS hS2 hS3 s6 s7 s8 s9 s10
   rcases hh with hh | ⟨x, hh, hx⟩
   ·exact ⟨_, m3, congrArg fnR (seq_nx ((if_t t).trans hh)), hno, d3.le (by omega)⟩
   ·exact ⟨x, m3, congrArg fnR (seq_rt ((if_t t).trans hh)), hx, d3.le (by omega)⟩
 have hfin : ∃ x m', fnM 11 (m__law_leaf (mir (n + 4))) [.d (.o 0), .d (.o r), .d (arD ar)] m = .ok (.d x) m' ∧ StO 8 lP lW x ∧ DS b cs M0 (A + 301) m' := by
  rw [fnM_R]
  have t := leT1_ok (r := r) (ar := ar) (R := R) (S := S) (w := w) m1 (s6 := none) (s7 := none) (s8 := none) (s9 := none) (s10 := none)
  cases hq : (decide (w < 2) && !R.isEmpty) with
  | false =>
   rw [hq] at t
   obtain ⟨x, m', g, hx, d⟩ := two m1 none none none none none (d1.le (by omega))
   exact ⟨x, m', (congrArg fnR (head.trans (seq_nx (sif_f t)))).trans g, hx, d⟩
  | true =>
   rw [hq] at t
   rw [Bool.and_eq_true] at hq
   have hR : R ≠ [] := fun e => by rw [e] at hq; cases hq.2
   obtain ⟨m3, s6, s7, s8, s9, s10, d3, hh⟩ := leA1_ok n hb hb3 hE hr (S := S) (w := w) har hal d1 (by omega) hR hR2 hR3
   rcases hh with hh | ⟨x, hh, hx⟩
   ·obtain ⟨x, m', g, hx, d⟩ := two m3 s6 s7 s8 s9 s10 (d3.le (by omega))
    exact ⟨x, m', (congrArg fnR (head.trans (seq_nx ((if_t t).trans hh)))).trans g, hx, d⟩
   ·exact ⟨x, m3, congrArg fnR (head.trans (seq_rt ((if_t t).trans hh))), hx, d3.le (by omega)⟩
 exact hfin
end
noncomputable def sP : Nat → Nat
 | 0 => 80
 | k + 1 => 1 + 2 * sP k
noncomputable def sW : Nat → Nat
 | 0 => 30 + 3 * (wB 2 + 1)
 | k + 1 => 30 + 2 * (sW k + 1)
noncomputable def stK : Nat → Nat
 | 0 => 302
 | k + 1 => 303 + 2 * stK k
theorem sP_le (k : Nat) : 80 ≤ sP k := by
 cases k with
 | zero => exact Nat.le_refl _
 | succ k => 
  have : ∀ k, 80 ≤ sP k := fun k => by
   induction k with
   | zero => exact Nat.le_refl _
   | succ k ih => show 80 ≤ 1 + 2 * sP k; omega
  exact this _
theorem sW_le (k : Nat) : lW ≤ sW k := by
 induction k with
 | zero => exact Nat.le_refl _
 | succ k ih => show lW ≤ 30 + 2 * (sW k + 1); omega
theorem pick3 (x y z : D) {i : Int} (h0 : 0 ≤ i) (h1 : i < 3) : ∃ w, dIx (.lst [x, y, z]) (.int i) = some (.d w) ∧ (w = x ∨ w = y ∨ w = z) := by
 obtain ⟨w, hw, e⟩ := pick_l (xs := [x, y, z]) h0 (by show i < ((3 : Nat) : Int); omega)
 exact ⟨w, e, by simpa using hw⟩
section
variable {b : Nat} {cs : List Int} {M0 : List MO} {r : Nat} {E : Ent}
theorem stat_ok (hb : 2 ≤ b) (hb3 : b ≤ 3) (hE : EOk E) (hr : Rol M0 r E) : ∀ (k n : Nat) (ar : List Str) (m : List MO) (A : Nat), (∀ a ∈ ar, PyData.strOk a = true) → ar.length + k ≤ 100 → DS b cs M0 A m → A + stK k < drLim →
  ∃ x m', mir (n + k + 6) ._law_statement [.d (.o 0), .d (.o r), .d (arD ar), .d (.int (k : Int))] m = .ok (.d x) m' ∧ StO (8 + k) (sP k) (sW k) x ∧ DS b cs M0 (A + stK k) m' := by
 intro k
 induction k with
 | zero =>
  intro n ar m A har hal h hA
  have hA : A + 302 < drLim := hA
  obtain ⟨w, m1, e1, w0, w1, d1⟩ := next_ds (n + 4) hb h (by omega) 8 (by decide) (by decide)
  obtain ⟨x, m2, e2, hx, d2⟩ := leaf_ok n hb hb3 hE hr ar har (by omega) d1 (by show A + 1 + 301 < drLim; omega)
  refine ⟨x, m2, ?_, hx, d2.le (by show A + 1 + 301 ≤ A + 302; omega)⟩
  show fnM 8 (m__law_statement (mir (n + 5))) _ _ = _
  have z0 : decide (((0 : Nat) : Int) < 1) = true := by decide
  unfold m__law_statement
  walk_at "z"
  rw [e1]
  walk_at "z"
  simp only [z0]
  walk_at "z"
  rw [e2]
  walk_at "z"
 | succ k ih =>
  intro n ar m A har hal h hA
  have hA : A + (303 + 2 * stK k) < drLim := hA
  obtain ⟨w, m1, e1, w0, w1, d1⟩ := next_ds (n + k + 5) hb h (by omega) 8 (by decide) (by decide)
  have kd : (((k + 1 : Nat) : Int) < 1) = False := eq_false (by omega)
  have k1 : ((k + 1 : Nat) : Int) - 1 = (k : Int) := by omega
  show ∃ x m', fnM 8 (m__law_statement (mir (n + k + 6))) _ _ = _ ∧ StO (8 + (k + 1)) (1 + 2 * sP k) (30 + 2 * (sW k + 1)) x ∧ DS b cs M0 (A + (303 + 2 * stK k)) m'
  by_cases h2 : w < 2
  ·obtain ⟨x, m2, e2, hx, d2⟩ := leaf_ok (n + k + 1) hb hb3 hE hr ar har (by omega) d1 (by show A + 1 + 301 < drLim; omega)
   refine ⟨x, m2, ?_, ⟨hx.1.mono (by omega) (by have := sP_le k; show 80 ≤ _; omega) (by have := sW_le k; omega), hx.2⟩, d2.le (by show A + 1 + 301 ≤ _; omega)⟩
   have e2 : mir (n + k + 6) ._law_leaf [.d (.o 0), .d (.o r), .d (arD ar)] m1 = .ok (.d x) m2 := e2
   unfold m__law_statement
   walk_at "z"
   rw [e1]
   walk_at "z"
   simp only [kd, decide_false]
   walk_at "z"
   rw [decide_eq_true h2]
   walk_at "z"
   rw [e2]
   walk_at "z"
  ·by_cases h5 : w < 5
   ·obtain ⟨x, m2, e2, hx, d2⟩ := ih n ar m1 (A + 1) har (by omega) d1 (by omega)
    obtain ⟨y, m3, e3, hy, d3⟩ := ih n ar m2 (A + 1 + stK k) har (by omega) d2 (by omega)
    obtain ⟨u, eu, hu⟩ := pick3 (.str (Str.ofString "and")) (.str (Str.ofString "or")) (.str (Str.ofString "if")) (i := w - 2) (by omega) (by omega)
    refine ⟨.tup [u, x, y], m3, ?_, ⟨?_, _, _, rfl⟩, d3.le (by omega)⟩
    ·unfold m__law_statement
     walk_at "z"
     rw [e1]
     walk_at "z"
     simp only [kd, decide_false]
     walk_at "z"
     rw [decide_eq_false h2]
     walk_at "z"
     rw [decide_eq_true h5]
     walk_at "z"
     rw [k1, e2]
     walk_at "z"
     rw [eu]
     walk_at "z"
     rw [k1, e3]
     walk_at "z"
    ·have hu' : Tm 0 0 10 u := by
      rcases hu with rfl | rfl | rfl
      ·exact tm_str (nm_lit "and" (by decide +kernel))
      ·exact tm_str (nm_lit "or" (by decide +kernel))
      ·exact tm_str (nm_lit "if" (by decide +kernel))
     exact (tm_tup (tms_cons hu' (tms_cons hx.1 (tms_cons hy.1 tms_nil)))).mono (by omega) (by omega) (by omega)
   ·have hrm : Rol m1 r E := by obtain ⟨_, _, _, f⟩ := d1; exact rol_fr hr (f.up hb3)
    obtain ⟨n0, n1, n2, n3, n4, hm, hdk, _⟩ := hrm
    have nn := hE.nn
    have q6 := dsort_of (f := (eDIx (eVar 1) (eC (.str (Str.ofString "sorts"))))) (z := ⟨[some (.d (.o 0)), some (.d (.o r)), some (.d (arD ar)), some (.d (.int ((k + 1 : Nat) : Int))), some (.d (.int w)), none, none, none], m1⟩) (z1 := ⟨[some (.d (.o 0)), some (.d (.o r)), some (.d (arD ar)), some (.d (.int ((k + 1 : Nat) : Int))), some (.d (.int w)), none, none, none], m1⟩) (dix_at rfl hm (rv0 _ _ _ _ _)) hdk.h0 (by omega)
    have hS2 : (srtS (E.so.map (·.1))).length ≤ 100 := by rw [(srt_perm _).length_eq, List.length_map]; omega
    have hS3 : ∀ s ∈ srtS (E.so.map (·.1)), nmOk s := fun s hs => by
     obtain ⟨v, hv⟩ := fnd_some (srt_mem.mp hs)
     exact (hE.so _ (fnd_mem hv)).1
    generalize srtS (E.so.map (·.1)) = SS at *
    have qn := eq_nil0 (SS.map D.str)
    rw [List.isEmpty_map] at qn
    cases hSS : SS.isEmpty with
    | true =>
     rw [hSS] at qn
     refine ⟨.tup [.str (Str.ofString "no")], m1, ?_, ⟨(tm_tup (tms_cons (tm_str (nm_lit "no" (by decide +kernel))) tms_nil)).mono (by omega) (by omega) (by omega), _, _, rfl⟩, d1.le (by omega)⟩
     unfold m__law_statement
     walk_at "z"
     rw [e1]
     walk_at "z"
     simp only [kd, decide_false]
     walk_at "z"
     rw [decide_eq_false h2]
     walk_at "z"
     rw [decide_eq_false h5]
     walk_at "z"
     rw [q6]
     walk_at "z"
     rw [qn]
     walk_at "z"
    | false =>
     rw [hSS] at qn
     have hp : 0 < SS.length := by
      cases SS with
      | nil => cases hSS
      | cons _ _ => simp
     obtain ⟨j, m2, e2, j0, j1, d2⟩ := next_ds (n + k + 5) hb d1 (by omega) (SS.length : Nat) (by omega) (by omega)
     obtain ⟨f, hf, ef⟩ := pick_s j0 j1
     obtain ⟨x, m3, e3, hx, d3⟩ := ih n (f :: ar) m2 (A + 1 + 1) (fun a ha => by
      rcases List.mem_cons.mp ha with rfl | ha
      ·exact (hS3 _ hf).1
      ·exact har a ha) (by rw [List.length_cons]; omega) d2 (by omega)
     have e3 : mir (n + k + 6) ._law_statement [.d (.o 0), .d (.o r), .d (.tup (.str f :: ar.map D.str)), .d (.int (k : Int))] m2 = .ok (.d x) m3 := e3
     obtain ⟨u, eu, hu⟩ := pick3 (.str (Str.ofString "all")) (.str (Str.ofString "some")) (.str (Str.ofString "all")) (i := w - 5) (by omega) (by omega)
     have ad := add_tt [.str f] (ar.map D.str) (by rw [List.length_map]; show 1 + ar.length ≤ 1000000; omega)
     refine ⟨.tup [u, .str f, x], m3, ?_, ⟨?_, _, _, rfl⟩, d3.le (by omega)⟩
     ·unfold m__law_statement
      walk_at "z"
      rw [e1]
      walk_at "z"
      simp only [kd, decide_false]
      walk_at "z"
      rw [decide_eq_false h2]
      walk_at "z"
      rw [decide_eq_false h5]
      walk_at "z"
      rw [q6]
      walk_at "z"
      rw [qn]
      walk_at "z"
      rw [List.length_map, e2]
      walk_at "z"
      rw [ef]
      walk_at "z"
      rw [eu]
      walk_at "z"
      rw [ad]
      walk_at "z"
      rw [k1, e3]
      walk_at "z"
     ·have hu' : Tm 0 0 10 u := by
       rcases hu with rfl | rfl | rfl
       ·exact tm_str (nm_lit "all" (by decide +kernel))
       ·exact tm_str (nm_lit "some" (by decide +kernel))
       ·exact tm_str (nm_lit "all" (by decide +kernel))
      exact (tm_tup (tms_cons hu' (tms_cons (tm_str (hS3 _ hf)) (tms_cons hx.1 tms_nil)))).mono (by omega) (by omega) (by omega)
end
noncomputable def NS (m : List MO) (ns : List Str) : Prop := m[2]? = some (.lst (ns.map D.str))
noncomputable def EnOk : En → Prop
 | .sort n ms => nmOk n ∧ ∀ s ∈ ms, nmOk s
 | .func n as s => nmOk n ∧ as.length ≤ 3 ∧ (∀ a ∈ as, nmOk a) ∧ nmOk s
 | .rel n as => nmOk n ∧ as.length ≤ 3 ∧ ∀ a ∈ as, nmOk a
 | .mean n as x => nmOk n ∧ as.length ≤ 3 ∧ (∀ a ∈ as, nmOk a) ∧ Tm 10 323 5500 x
 | .taken n x => nmOk n ∧ Tm 11 647 11100 x
theorem putL_mem {α : Type} {l : List (Str × α)} {k : Str} {v : α} {P : Str × α → Prop} (h : ∀ p ∈ l, P p) (hv : P (k, v)) : ∀ p ∈ putL l k v, P p := by
 intro p hp
 unfold putL at hp
 split at hp
 ·obtain ⟨q, hq, rfl⟩ := List.mem_map.mp hp
  split
  ·rename_i e
   rw [e]
   exact hv
  ·exact h q hq
 ·rcases List.mem_append.mp hp with hp | hp
  ·exact h p hp
  ·rw [List.mem_singleton] at hp
   subst hp
   exact hv
theorem memC_mem {n : Str} {P : Str × (List Str × Str) → Prop} : ∀ {ms : List Str} {c : List (Str × (List Str × Str))}, (∀ p ∈ c, P p) → (∀ m ∈ ms, P (m, ([], n))) → ∀ p ∈ memC n ms c, P p
 | [], c, h, _ => h
 | m :: r, c, h, hm => memC_mem (ms := r) (c := putL c m ([], n)) (putL_mem h (hm m List.mem_cons_self)) (fun x hx => hm x (List.mem_cons_of_mem _ hx))
noncomputable def Ent.cnt (E : Ent) : Nat := E.so.length + E.ca.length + E.re.length + E.fa.length
structure EOk' (E : Ent) (B : Nat) : Prop where
  so : ∀ p ∈ E.so, nmOk p.1 ∧ ∀ s ∈ p.2, nmOk s
  ca : ∀ p ∈ E.ca, nmOk p.1 ∧ p.2.1.length ≤ 3 ∧ (∀ s ∈ p.2.1, nmOk s) ∧ nmOk p.2.2
  re : ∀ p ∈ E.re, nmOk p.1 ∧ p.2.length ≤ 3 ∧ ∀ s ∈ p.2, nmOk s
  nn : E.cnt ≤ B
  bg : E.big B
  sl : ∀ p ∈ E.so, p.2.length ≤ B
  me : ∀ p ∈ E.me, Tm 10 323 5500 p.2
  fa : ∀ p ∈ E.fa, nmOk p.1 ∧ Tm 11 647 11100 p.2
theorem EOk'.ok {E : Ent} {B : Nat} (h : EOk' E B) (hB : B < 64) : EOk E := ⟨h.so, h.ca, h.re, by have := h.nn; unfold Ent.cnt at this; omega⟩
theorem EOk'.add {E : Ent} {B : Nat} (h : EOk' E B) {e : En} (he : EnOk e) : EOk' (addE E e) (B + e.w) := by
 have nn := h.nn
 unfold Ent.cnt at nn
 have pl : ∀ {α : Type} (l : List (Str × α)) (k : Str) (v : α), (putL l k v).length ≤ l.length + 1 := putL_len
 cases e with
 | sort n ms =>
  have he : nmOk n ∧ ∀ s ∈ ms, nmOk s := he
  refine ⟨putL_mem h.so ⟨he.1, he.2⟩, memC_mem h.ca (fun m hm => ⟨he.2 m hm, by simp, fun s hs => (by cases hs), he.1⟩), h.re, ?_, Ent.big_add h.bg _, putL_mem (fun p hp => by have := h.sl p hp; omega) (by show ms.length ≤ B + (ms.length + 1); omega), h.me, h.fa⟩
  have := pl E.so n ms
  have := memC_len n ms E.ca
  show (putL E.so n ms).length + (memC n ms E.ca).length + E.re.length + E.fa.length ≤ B + (ms.length + 1)
  omega
 | func n as s =>
  have he : nmOk n ∧ as.length ≤ 3 ∧ (∀ a ∈ as, nmOk a) ∧ nmOk s := he
  refine ⟨h.so, putL_mem h.ca ⟨he.1, he.2.1, he.2.2.1, he.2.2.2⟩, h.re, ?_, Ent.big_add h.bg _, fun p hp => by have := h.sl p hp; omega, h.me, h.fa⟩
  have := pl E.ca n (as, s)
  show E.so.length + (putL E.ca n (as, s)).length + E.re.length + E.fa.length ≤ B + 1
  omega
 | rel n as =>
  have he : nmOk n ∧ as.length ≤ 3 ∧ ∀ a ∈ as, nmOk a := he
  refine ⟨h.so, h.ca, putL_mem h.re ⟨he.1, he.2.1, he.2.2⟩, ?_, Ent.big_add h.bg _, fun p hp => by have := h.sl p hp; omega, h.me, h.fa⟩
  have := pl E.re n as
  show E.so.length + E.ca.length + (putL E.re n as).length + E.fa.length ≤ B + 1
  omega
 | mean n as d =>
  have he : nmOk n ∧ as.length ≤ 3 ∧ (∀ a ∈ as, nmOk a) ∧ Tm 10 323 5500 d := he
  refine ⟨h.so, h.ca, putL_mem h.re ⟨he.1, he.2.1, he.2.2.1⟩, ?_, Ent.big_add h.bg _, fun p hp => by have := h.sl p hp; omega, putL_mem h.me he.2.2.2, h.fa⟩
  have := pl E.re n as
  show E.so.length + E.ca.length + (putL E.re n as).length + E.fa.length ≤ B + 1
  omega
 | taken n d =>
  have he : nmOk n ∧ Tm 11 647 11100 d := he
  refine ⟨h.so, h.ca, h.re, ?_, Ent.big_add h.bg _, fun p hp => by have := h.sl p hp; omega, h.me, putL_mem h.fa he⟩
  have := pl E.fa n d
  show E.so.length + E.ca.length + E.re.length + (putL E.fa n d).length ≤ B + 1
  omega
theorem Dr.set2 {m : List MO} {a : Nat} {cs : List Int} (h : Dr m a cs) (o : MO) : Dr (m.set 2 o) a cs := by
 obtain ⟨ls, h1, h2⟩ := h.h1
 exact ⟨by rw [List.getElem?_set_ne (by omega)]; exact h.h0, ⟨ls, h1, by rw [List.getElem?_set_ne (by omega)]; exact h2⟩, h.hc⟩
theorem erase_map {α β : Type} (f : α → β) : ∀ (l : List α) (k : Nat), (l.map f).eraseIdx k = (l.eraseIdx k).map f
 | [], _ => rfl
 | _ :: _, 0 => rfl
 | a :: r, k + 1 => by rw [List.map_cons, List.eraseIdx_cons_succ, List.eraseIdx_cons_succ, List.map_cons, erase_map f r k]
theorem pop_ok {fo fi : Sm MX S} {z z1 : Z (List MO)} {ns : List Str} {i : Int} (ho : fo z = .ok (.d (.o 2)) z) (h0 : NS z.m ns) (hi : fi z = .ok (.d (.int i)) z1) (h1 : NS z1.m ns) (i0 : 0 ≤ i) (i1 : i < (ns.length : Nat)) (il : i < 2 ^ 62) : ∃ s, s ∈ ns ∧ (ePopI fo fi : Sm MX S) z = .ok (.d (.str s)) ⟨z1.rho, z1.m.set 2 (.lst ((ns.eraseIdx i.toNat).map D.str))⟩ := by
 have hk : i.toNat < ns.length := by omega
 refine ⟨ns[i.toNat], List.getElem_mem hk, ?_⟩
 have e0 : z.m[2]? = some (.lst (ns.map D.str)) := h0
 have e1 : z1.m[2]? = some (.lst (ns.map D.str)) := h1
 have sq : PySem.seqIndex? i (ns.map D.str).length = some i.toNat := by
  unfold PySem.seqIndex?
  have e : (if i < 0 then i + ((ns.map D.str).length : Int) else i) = i := if_neg (by omega)
  simp only [e]
  rw [if_pos (by rw [decide_eq_true i0, List.length_map, decide_eq_true i1]; rfl)]
 have gx : (ns.map D.str)[i.toNat]? = some (.str ns[i.toNat]) := by rw [List.getElem?_map, List.getElem?_eq_getElem hk]; rfl
 simp only [ePopI, opd, ho, hi, Rs.bind_ok, listAt, rd, e0, e1]
 rw [if_pos ⟨by omega, by omega⟩]
 simp only [sq, gx, erase_map]
theorem NS.set2 {m : List MO} (h : 2 < m.length) (ns : List Str) : NS (m.set 2 (.lst (ns.map D.str))) ns := List.getElem?_set_self h
theorem NS.fr {m m' : List MO} {ns : List Str} (h : NS m ns) (f : Fr 2 m m') : NS m' ns := (f.2 2 (Nat.le_refl 2)).trans h
theorem NS.lt {m : List MO} {ns : List Str} (h : NS m ns) : 2 < m.length := (List.getElem?_eq_some_iff.mp h).1
theorem DS.base {b : Nat} {cs : List Int} {M0 m : List MO} {A : Nat} (h : DS b cs M0 A m) : DS 2 cs m A m := by
 obtain ⟨a, h1, h2, _⟩ := h
 exact ⟨a, h1, h2, Fr.refl _ _⟩
theorem DS.over {cs : List Int} {M0 m m' : List MO} {A B : Nat} (h : DS 3 cs M0 A m) (h' : DS 2 cs m B m') : DS 3 cs M0 B m' := by
 obtain ⟨_, _, _, f⟩ := h
 obtain ⟨a, h1, h2, f'⟩ := h'
 exact ⟨a, h1, h2, f.trans (f'.up (by omega))⟩
theorem DS.fr2 {cs : List Int} {m m' : List MO} {B : Nat} (h' : DS 2 cs m B m') : Fr 2 m m' := by
 obtain ⟨_, _, _, f⟩ := h'
 exact f
theorem DS.pop {cs : List Int} {M0 m : List MO} {A : Nat} (h : DS 3 cs M0 A m) (o : MO) : DS 3 cs M0 A (m.set 2 o) := by
 obtain ⟨a, h1, h2, f⟩ := h
 exact ⟨a, h1.set2 o, h2, f.trans ⟨List.length_set, fun k hk => List.getElem?_set_ne (by omega)⟩⟩
section
variable {cs : List Int} {M0 : List MO} {r : Nat} {E : Ent}
theorem next_es (n : Nat) {m : List MO} {A : Nat} {ns : List Str} (h : DS 3 cs M0 A m) (hn : NS m ns) (hA : A < drLim) (many : Int) (hm : 0 < many) (hm2 : many < 1073741824) :
  ∃ j m', mir (n + 1) ._law_next [.d (.o 0), .d (.int many)] m = .ok (.d (.int j)) m' ∧ 0 ≤ j ∧ j < many ∧ DS 3 cs M0 (A + 1) m' ∧ NS m' ns := by
 obtain ⟨j, m', e, j0, j1, d⟩ := next_ds n (Nat.le_refl 2) h.base hA many hm hm2
 exact ⟨j, m', e, j0, j1, h.over d, hn.fr d.fr2⟩
theorem stat_es (hE : EOk E) (hr : Rol M0 r E) (k n : Nat) (ar : List Str) {m : List MO} {A : Nat} {ns : List Str} (h : DS 3 cs M0 A m) (hn : NS m ns) (har : ∀ a ∈ ar, PyData.strOk a = true) (hal : ar.length + k ≤ 100) (hA : A + stK k < drLim) :
  ∃ x m', mir (n + k + 6) ._law_statement [.d (.o 0), .d (.o r), .d (arD ar), .d (.int (k : Int))] m = .ok (.d x) m' ∧ StO (8 + k) (sP k) (sW k) x ∧ DS 3 cs M0 (A + stK k) m' ∧ NS m' ns := by
 have hrm : Rol m r E := by obtain ⟨_, _, _, f⟩ := h; exact rol_fr hr f
 obtain ⟨x, m', e, q, d⟩ := stat_ok (Nat.le_refl 2) (by omega) hE hrm k n ar m A har hal h.base hA
 exact ⟨x, m', e, q, h.over d, hn.fr d.fr2⟩
end
theorem strs_of {ys : List D} (h : ∀ y ∈ ys, ∃ s, y = .str s ∧ nmOk s) : ∃ ms : List Str, ys = ms.map D.str ∧ ∀ s ∈ ms, nmOk s := by
 induction ys with
 | nil => exact ⟨[], rfl, fun s hs => (by cases hs)⟩
 | cons y r ih =>
  obtain ⟨s, rfl, hs⟩ := h y List.mem_cons_self
  obtain ⟨ms, rfl, hm⟩ := ih (fun x hx => h x (List.mem_cons_of_mem _ hx))
  exact ⟨s :: ms, rfl, fun x hx => by
   rcases List.mem_cons.mp hx with rfl | hx
   ·exact hs
   ·exact hm x hx⟩
theorem rg_gen {g : Sm MX (List S)} {z z1 : Z (List MO)} {j : Int} (h : g z = .ok [.d (.int j)] z1) (hc : -(2 ^ 62) ≤ j ∧ j < 2 ^ 62) : (iRg1M g : Sm MX (List D)) z = .ok (rangeD 0 j.toNat) z1 := by
 unfold iRg1M
 rw [h]
 exact if_pos hc
theorem rg_at {g : Sm MX (List S)} {z z1 : Z (List MO)} {c : Nat} (h : g z = .ok [.d (.int (c : Int))] z1) (hc : c ≤ 1000000) : (iRg1M g : Sm MX (List D)) z = .ok (rangeD 0 c) z1 := rg_gen h (rg_lim (Int.natCast_nonneg c) (by omega))
section
variable {cs : List Int} {M0 : List MO} {r : Nat} {E : Ent} {SS : List Str} {W : Int} {nm : Str}
theorem mem_es (n : Nat) {m : List MO} {A : Nat} {ns : List Str} (h : DS 3 cs M0 A m) (hn : NS m ns) (hA : A + 1 < drLim) (hns : ∀ s ∈ ns, nmOk s) (hl : 7 ≤ ns.length) :
  ∃ (ms : List Str) (m' : List MO) (ns' : List Str), ((eLc (iRg1M (aCons (opd (eBin dIx (eLst (aCons (escf (eC (.int 0))) (aCons (escf (eC (.int 0))) (aCons (escf (eC (.int 2))) (aCons (escf (eC (.int 1))) (aCons (escf (eC (.int 4))) (aCons (escf (eC (.int 3))) aNil))))))) (eCall (mir (n + 1) ._law_next) (aCons (escf (eVar 0)) (aCons (escf (eC (.int 6))) aNil))))) aNil)) (kName 7) (fun z => .ok true z) (ePopI (eVar 2) (eC (.int 0))) [7]) : Sm MX S) ⟨[some (.d (.o 0)), some (.d (.o r)), some (.d (.o 2)), some (.l (SS.map D.str)), some (.d (.int W)), some (.d (.str nm)), none, none], m⟩ = .ok (.l (ms.map D.str)) ⟨[some (.d (.o 0)), some (.d (.o r)), some (.d (.o 2)), some (.l (SS.map D.str)), some (.d (.int W)), some (.d (.str nm)), none, none], m'⟩ ∧ (∀ s ∈ ms, nmOk s) ∧ DS 3 cs M0 (A + 1) m' ∧ NS m' ns' ∧ (∀ s ∈ ns', nmOk s) ∧ ns'.length + ms.length = ns.length := by
 obtain ⟨j, m1, e1, j0, j1, d1, n1⟩ := next_es n h hn (by omega) 6 (by decide) (by decide)
 obtain ⟨x, hx, e2⟩ := pick_l (xs := [.int 0, .int 0, .int 2, .int 1, .int 4, .int 3]) (i := j) j0 (by show j < ((6 : Nat) : Int); omega)
 obtain ⟨k, rfl, hk⟩ : ∃ k : Nat, x = .int (k : Int) ∧ k ≤ 4 := by
  simp only [List.mem_cons, List.not_mem_nil, or_false] at hx
  rcases hx with rfl | rfl | rfl | rfl | rfl | rfl
  ·exact ⟨0, rfl, by omega⟩
  ·exact ⟨0, rfl, by omega⟩
  ·exact ⟨2, rfl, by omega⟩
  ·exact ⟨1, rfl, by omega⟩
  ·exact ⟨4, rfl, by omega⟩
  ·exact ⟨3, rfl, by omega⟩
 have i0 := rg_at (g := (aCons (opd (eBin dIx (eLst (aCons (escf (eC (.int 0))) (aCons (escf (eC (.int 0))) (aCons (escf (eC (.int 2))) (aCons (escf (eC (.int 1))) (aCons (escf (eC (.int 4))) (aCons (escf (eC (.int 3))) aNil))))))) (eCall (mir (n + 1) ._law_next) (aCons (escf (eVar 0)) (aCons (escf (eC (.int 6))) aNil))))) aNil)) (z := ⟨[some (.d (.o 0)), some (.d (.o r)), some (.d (.o 2)), some (.l (SS.map D.str)), some (.d (.int W)), some (.d (.str nm)), none, none], m⟩) (z1 := ⟨[some (.d (.o 0)), some (.d (.o r)), some (.d (.o 2)), some (.l (SS.map D.str)), some (.d (.int W)), some (.d (.str nm)), none, none], m1⟩) (c := k) (by
  walk_at "z"
  rw [e1]
  walk_at "z"
  rw [e2]
  walk_at "z") (by omega)
 have rl : (rangeD 0 k).length = k := range_len k
 obtain ⟨ys, m2, g1, g2, g3, ns', q1, q2, q3, q4, _⟩ := elcQ (e := (ePopI (eVar 2) (eC (.int 0)))) (i := 7) rfl (P := fun y => ∃ s, y = .str s ∧ nmOk s) (Q := fun t m => ∃ ns', DS 3 cs M0 (A + 1) m ∧ NS m ns' ∧ (∀ s ∈ ns', nmOk s) ∧ ns'.length + (k - t) = ns.length ∧ t ≤ k) i0 (by rw [rl]; show _ ≤ 1000000; omega) ⟨ns, d1, n1, hns, by rw [rl]; omega, by rw [rl]; omega⟩ (fun t d m hd ⟨ns', q1, q2, q3, q4, q5⟩ => by
  obtain ⟨s, hs, e⟩ := pop_ok (fo := eVar 2) (fi := eC (.int 0)) (z := ⟨[some (.d (.o 0)), some (.d (.o r)), some (.d (.o 2)), some (.l (SS.map D.str)), some (.d (.int W)), some (.d (.str nm)), none, some (.d d)], m⟩) (z1 := ⟨[some (.d (.o 0)), some (.d (.o r)), some (.d (.o 2)), some (.l (SS.map D.str)), some (.d (.int W)), some (.d (.str nm)), none, some (.d d)], m⟩) (i := 0) rfl q2 rfl q2 (by omega) (by omega) (by decide)
  refine ⟨.str s, m.set 2 (.lst ((ns'.eraseIdx 0).map D.str)), ?_, ⟨s, rfl, q3 s hs⟩, ns'.eraseIdx 0, q1.pop _, NS.set2 q2.lt _, fun x hx => q3 x (List.mem_of_mem_eraseIdx hx), ?_, by omega⟩
  ·have e' : (ePopI (eVar 2) (eC (.int 0)) : Sm MX S) ⟨[some (.d (.o 0)), some (.d (.o r)), some (.d (.o 2)), some (.l (SS.map D.str)), some (.d (.int W)), some (.d (.str nm)), none, none].set 7 (some (.d d)), m⟩ = .ok (.d (.str s)) ⟨[some (.d (.o 0)), some (.d (.o r)), some (.d (.o 2)), some (.l (SS.map D.str)), some (.d (.int W)), some (.d (.str nm)), none, none].set 7 (some (.d d)), m.set 2 (.lst ((ns'.eraseIdx 0).map D.str))⟩ := e
   simp only [escf, e', Rs.bind_ok, escS]
  ·rw [List.length_eraseIdx, if_pos (by omega)]
   omega)
 obtain ⟨ms, rfl, hms⟩ := strs_of g3
 rw [List.length_map, rl] at g2
 exact ⟨ms, m2, ns', g1, hms, q1, q2, q3, by omega⟩
theorem args_es (n : Nat) {m : List MO} {A : Nat} {ns : List Str} (h : DS 3 cs M0 A m) (hn : NS m ns) (hA : A + 4 < drLim) (hS : SS ≠ []) (hS2 : SS.length ≤ 100) (hS3 : ∀ s ∈ SS, nmOk s) :
  ∃ (as : List Str) (m' : List MO), ((eLc (iRg1M (aCons (opd (eCall (mir (n + 1) ._law_next) (aCons (escf (eVar 0)) (aCons (escf (eC (.int 4))) aNil)))) aNil)) (kName 7) (fun z => .ok true z) (eBin dIx (eVar 3) (eCall (mir (n + 1) ._law_next) (aCons (escf (eVar 0)) (aCons (escf (eFn fLen (aCons (opd (eVar 3)) aNil))) aNil)))) [7]) : Sm MX S) ⟨[some (.d (.o 0)), some (.d (.o r)), some (.d (.o 2)), some (.l (SS.map D.str)), some (.d (.int W)), some (.d (.str nm)), none, none], m⟩ = .ok (.l (as.map D.str)) ⟨[some (.d (.o 0)), some (.d (.o r)), some (.d (.o 2)), some (.l (SS.map D.str)), some (.d (.int W)), some (.d (.str nm)), none, none], m'⟩ ∧ as.length ≤ 3 ∧ (∀ s ∈ as, nmOk s) ∧ DS 3 cs M0 (A + 4) m' ∧ NS m' ns := by
 have hp : 0 < SS.length := by
  cases SS with
  | nil => exact absurd rfl hS
  | cons _ _ => simp
 obtain ⟨j, m1, e1, j0, j1, d1, n1⟩ := next_es n h hn (by omega) 4 (by decide) (by decide)
 obtain ⟨k, rfl⟩ : ∃ k : Nat, j = (k : Int) := ⟨j.toNat, by omega⟩
 have i0 := rg_at (g := (aCons (opd (eCall (mir (n + 1) ._law_next) (aCons (escf (eVar 0)) (aCons (escf (eC (.int 4))) aNil)))) aNil)) (z := ⟨[some (.d (.o 0)), some (.d (.o r)), some (.d (.o 2)), some (.l (SS.map D.str)), some (.d (.int W)), some (.d (.str nm)), none, none], m⟩) (z1 := ⟨[some (.d (.o 0)), some (.d (.o r)), some (.d (.o 2)), some (.l (SS.map D.str)), some (.d (.int W)), some (.d (.str nm)), none, none], m1⟩) (c := k) (by
  walk_at "z"
  rw [e1]
  walk_at "z") (by omega)
 have rl : (rangeD 0 k).length = k := range_len k
 obtain ⟨ys, m2, g1, g2, g3, q1, q2, _⟩ := elcQ (e := (eBin dIx (eVar 3) (eCall (mir (n + 1) ._law_next) (aCons (escf (eVar 0)) (aCons (escf (eFn fLen (aCons (opd (eVar 3)) aNil))) aNil))))) (i := 7) rfl (P := fun y => ∃ s, y = .str s ∧ nmOk s) (Q := fun t m => DS 3 cs M0 (A + 1 + (k - t)) m ∧ NS m ns ∧ t ≤ k) i0 (by rw [rl]; show _ ≤ 1000000; omega) ⟨by rw [rl, Nat.sub_self]; exact d1, n1, by rw [rl]; omega⟩ (fun t d m hd ⟨q1, q2, q3⟩ => by
  obtain ⟨j, m', e, j0, j1, dd, nn⟩ := next_es n q1 q2 (by omega) (SS.length : Nat) (by omega) (by omega)
  obtain ⟨s, hs, es⟩ := pick_s j0 j1
  refine ⟨.str s, m', ?_, ⟨s, rfl, hS3 s hs⟩, dd.le (by omega), nn, by omega⟩
  walk_at "z"
  rw [List.length_map, e]
  walk_at "z"
  rw [es]
  walk_at "z")
 obtain ⟨as, rfl, has⟩ := strs_of g3
 rw [List.length_map, rl] at g2
 exact ⟨as, m2, g1, by omega, has, q1.le (by omega), q2⟩
end
noncomputable abbrev CF := Fn → List S → List MO → Rs S (List MO)
noncomputable def enR0 (c : CF) : Sm MX Out := (sRet (eTup (aCons (escf (eC (.str "sort"))) (aCons (escf (eVar 5)) (aCons (escf (eFn fTuple (aCons (opd (eLc (iRg1M (aCons (opd (eBin dIx (eLst (aCons (escf (eC (.int 0))) (aCons (escf (eC (.int 0))) (aCons (escf (eC (.int 2))) (aCons (escf (eC (.int 1))) (aCons (escf (eC (.int 4))) (aCons (escf (eC (.int 3))) aNil))))))) (eCall (c ._law_next) (aCons (escf (eVar 0)) (aCons (escf (eC (.int 6))) aNil))))) aNil)) (kName 7) (fun z => .ok true z) (ePopI (eVar 2) (eC (.int 0))) [7])) aNil))) aNil)))))
noncomputable def enR1 (c : CF) : Sm MX Out := (sRet (eTup (aCons (escf (eC (.str "func"))) (aCons (escf (eVar 5)) (aCons (escf (eBin dIx (eLst (aCons (escf (eTup aNil)) (aCons (escf (eVar 6)) aNil))) (eCall (c ._law_next) (aCons (escf (eVar 0)) (aCons (escf (eC (.int 2))) aNil))))) (aCons (escf (eBin dIx (eVar 3) (eCall (c ._law_next) (aCons (escf (eVar 0)) (aCons (escf (eFn fLen (aCons (opd (eVar 3)) aNil))) aNil))))) aNil))))))
noncomputable def enR2 (c : CF) : Sm MX Out := (sRet (eTup (aCons (escf (eC (.str "rel"))) (aCons (escf (eVar 5)) (aCons (escf (eVar 6)) aNil)))))
noncomputable def enR3 (c : CF) : Sm MX Out := (sRet (eTup (aCons (escf (eC (.str "mean"))) (aCons (escf (eVar 5)) (aCons (escf (eVar 6)) (aCons (escf (eCall (c ._law_statement) (aCons (escf (eVar 0)) (aCons (escf (eVar 1)) (aCons (escf (eUn dRev (eVar 6))) (aCons (escf (eC (.int 2))) aNil)))))) aNil))))))
noncomputable def enR4 (c : CF) : Sm MX Out := (sRet (eTup (aCons (escf (eC (.str "taken"))) (aCons (escf (eVar 5)) (aCons (escf (eCall (c ._law_statement) (aCons (escf (eVar 0)) (aCons (escf (eVar 1)) (aCons (escf (eTup aNil)) (aCons (escf (eC (.int 3))) aNil)))))) aNil)))))
noncomputable def enS6 (c : CF) : Sm MX Out := (sSet 6 (eFn fTuple (aCons (opd (eLc (iRg1M (aCons (opd (eCall (c ._law_next) (aCons (escf (eVar 0)) (aCons (escf (eC (.int 4))) aNil)))) aNil)) (kName 7) (fun z => .ok true z) (eBin dIx (eVar 3) (eCall (c ._law_next) (aCons (escf (eVar 0)) (aCons (escf (eFn fLen (aCons (opd (eVar 3)) aNil))) aNil)))) [7])) aNil)))
noncomputable def enT (c : CF) : Sm MX Out := sSeq (sIf (tOf (eBin dEq (eVar 4) (eC (.int 0)))) (enR0 c) sNil) (sSeq (enS6 c) (sSeq (sIf (tOf (eBin dLt (eVar 4) (eC (.int 3)))) (enR1 c) sNil) (sSeq (sIf (tOf (eBin dEq (eVar 4) (eC (.int 3)))) (enR2 c) sNil) (sSeq (sIf (tOf (eBin dEq (eVar 4) (eC (.int 4)))) (enR3 c) sNil) (enR4 c)))))
section
variable {c : CF} {r : Nat} {SS as : List Str} {W : Int} {nm : Str} {m m' : List MO}
theorem enR0_ok {ms : List Str} (h : ((eLc (iRg1M (aCons (opd (eBin dIx (eLst (aCons (escf (eC (.int 0))) (aCons (escf (eC (.int 0))) (aCons (escf (eC (.int 2))) (aCons (escf (eC (.int 1))) (aCons (escf (eC (.int 4))) (aCons (escf (eC (.int 3))) aNil))))))) (eCall (c ._law_next) (aCons (escf (eVar 0)) (aCons (escf (eC (.int 6))) aNil))))) aNil)) (kName 7) (fun z => .ok true z) (ePopI (eVar 2) (eC (.int 0))) [7]) : Sm MX S) ⟨[some (.d (.o 0)), some (.d (.o r)), some (.d (.o 2)), some (.l (SS.map D.str)), some (.d (.int W)), some (.d (.str nm)), none, none], m⟩ = .ok (.l (ms.map D.str)) ⟨[some (.d (.o 0)), some (.d (.o r)), some (.d (.o 2)), some (.l (SS.map D.str)), some (.d (.int W)), some (.d (.str nm)), none, none], m'⟩) : enR0 c ⟨[some (.d (.o 0)), some (.d (.o r)), some (.d (.o 2)), some (.l (SS.map D.str)), some (.d (.int W)), some (.d (.str nm)), none, none], m⟩ = .ok (.rt (.d (enD (.sort nm ms)))) ⟨[some (.d (.o 0)), some (.d (.o r)), some (.d (.o 2)), some (.l (SS.map D.str)), some (.d (.int W)), some (.d (.str nm)), none, none], m'⟩ := by
 unfold enR0
 revert h
 generalize ((eLc (iRg1M (aCons (opd (eBin dIx (eLst (aCons (escf (eC (.int 0))) (aCons (escf (eC (.int 0))) (aCons (escf (eC (.int 2))) (aCons (escf (eC (.int 1))) (aCons (escf (eC (.int 4))) (aCons (escf (eC (.int 3))) aNil))))))) (eCall (c ._law_next) (aCons (escf (eVar 0)) (aCons (escf (eC (.int 6))) aNil))))) aNil)) (kName 7) (fun z => .ok true z) (ePopI (eVar 2) (eC (.int 0))) [7]) : Sm MX S) = LC
 intro h
 walk_at "z"
 rw [h]
 walk_at "z"
 rfl
theorem enS6_ok (h : ((eLc (iRg1M (aCons (opd (eCall (c ._law_next) (aCons (escf (eVar 0)) (aCons (escf (eC (.int 4))) aNil)))) aNil)) (kName 7) (fun z => .ok true z) (eBin dIx (eVar 3) (eCall (c ._law_next) (aCons (escf (eVar 0)) (aCons (escf (eFn fLen (aCons (opd (eVar 3)) aNil))) aNil)))) [7]) : Sm MX S) ⟨[some (.d (.o 0)), some (.d (.o r)), some (.d (.o 2)), some (.l (SS.map D.str)), some (.d (.int W)), some (.d (.str nm)), none, none], m⟩ = .ok (.l (as.map D.str)) ⟨[some (.d (.o 0)), some (.d (.o r)), some (.d (.o 2)), some (.l (SS.map D.str)), some (.d (.int W)), some (.d (.str nm)), none, none], m'⟩) : enS6 c ⟨[some (.d (.o 0)), some (.d (.o r)), some (.d (.o 2)), some (.l (SS.map D.str)), some (.d (.int W)), some (.d (.str nm)), none, none], m⟩ = .ok .nx ⟨[some (.d (.o 0)), some (.d (.o r)), some (.d (.o 2)), some (.l (SS.map D.str)), some (.d (.int W)), some (.d (.str nm)), some (.d (arD as)), none], m'⟩ := by
 unfold enS6
 revert h
 generalize ((eLc (iRg1M (aCons (opd (eCall (c ._law_next) (aCons (escf (eVar 0)) (aCons (escf (eC (.int 4))) aNil)))) aNil)) (kName 7) (fun z => .ok true z) (eBin dIx (eVar 3) (eCall (c ._law_next) (aCons (escf (eVar 0)) (aCons (escf (eFn fLen (aCons (opd (eVar 3)) aNil))) aNil)))) [7]) : Sm MX S) = LC
 intro h
 walk_at "z"
 rw [h]
 walk_at "z"
theorem enR2_ok : enR2 c ⟨[some (.d (.o 0)), some (.d (.o r)), some (.d (.o 2)), some (.l (SS.map D.str)), some (.d (.int W)), some (.d (.str nm)), some (.d (arD as)), none], m⟩ = .ok (.rt (.d (enD (.rel nm as)))) ⟨[some (.d (.o 0)), some (.d (.o r)), some (.d (.o 2)), some (.l (SS.map D.str)), some (.d (.int W)), some (.d (.str nm)), some (.d (arD as)), none], m⟩ := rfl
theorem enR1_ok {m1 m2 : List MO} {i j : Int} {as' : List Str} {s : Str} (e1 : c ._law_next [.d (.o 0), .d (.int 2)] m = .ok (.d (.int i)) m1) (p1 : dIx (.lst [.tup [], arD as]) (.int i) = some (.d (arD as'))) (e2 : c ._law_next [.d (.o 0), .d (.int (SS.length : Nat))] m1 = .ok (.d (.int j)) m2) (p2 : dIx (.lst (SS.map D.str)) (.int j) = some (.d (.str s))) : enR1 c ⟨[some (.d (.o 0)), some (.d (.o r)), some (.d (.o 2)), some (.l (SS.map D.str)), some (.d (.int W)), some (.d (.str nm)), some (.d (arD as)), none], m⟩ = .ok (.rt (.d (enD (.func nm as' s)))) ⟨[some (.d (.o 0)), some (.d (.o r)), some (.d (.o 2)), some (.l (SS.map D.str)), some (.d (.int W)), some (.d (.str nm)), some (.d (arD as)), none], m2⟩ := by
 unfold enR1
 walk_at "z"
 rw [e1]
 walk_at "z"
 rw [p1]
 walk_at "z"
 rw [List.length_map, e2]
 walk_at "z"
 rw [p2]
 walk_at "z"
 rfl
theorem enR3_ok {x : D} (e1 : c ._law_statement [.d (.o 0), .d (.o r), .d (arD as.reverse), .d (.int 2)] m = .ok (.d x) m') : enR3 c ⟨[some (.d (.o 0)), some (.d (.o r)), some (.d (.o 2)), some (.l (SS.map D.str)), some (.d (.int W)), some (.d (.str nm)), some (.d (arD as)), none], m⟩ = .ok (.rt (.d (enD (.mean nm as x)))) ⟨[some (.d (.o 0)), some (.d (.o r)), some (.d (.o 2)), some (.l (SS.map D.str)), some (.d (.int W)), some (.d (.str nm)), some (.d (arD as)), none], m'⟩ := by
 have rv : dRev (arD as) = some (.t (as.reverse.map D.str)) := by rw [List.map_reverse]; rfl
 unfold enR3
 walk_at "z"
 rw [rv]
 walk_at "z"
 rw [e1]
 walk_at "z"
 rfl
theorem enR4_ok {x : D} (e1 : c ._law_statement [.d (.o 0), .d (.o r), .d (.tup []), .d (.int 3)] m = .ok (.d x) m') : enR4 c ⟨[some (.d (.o 0)), some (.d (.o r)), some (.d (.o 2)), some (.l (SS.map D.str)), some (.d (.int W)), some (.d (.str nm)), some (.d (arD as)), none], m⟩ = .ok (.rt (.d (enD (.taken nm x)))) ⟨[some (.d (.o 0)), some (.d (.o r)), some (.d (.o 2)), some (.l (SS.map D.str)), some (.d (.int W)), some (.d (.str nm)), some (.d (arD as)), none], m'⟩ := by
 unfold enR4
 walk_at "z"
 rw [e1]
 walk_at "z"
 rfl
theorem enQ0 {s6 : Option S} (k : Int) : (tOf (eBin dEq (eVar 4) (eC (.int k))) : Sm MX Bool) ⟨[some (.d (.o 0)), some (.d (.o r)), some (.d (.o 2)), some (.l (SS.map D.str)), some (.d (.int W)), some (.d (.str nm)), s6, none], m⟩ = .ok (decide (W = k)) ⟨[some (.d (.o 0)), some (.d (.o r)), some (.d (.o 2)), some (.l (SS.map D.str)), some (.d (.int W)), some (.d (.str nm)), s6, none], m⟩ := by
 walk_at "z"
theorem enQ1 {s6 : Option S} : (tOf (eBin dLt (eVar 4) (eC (.int 3))) : Sm MX Bool) ⟨[some (.d (.o 0)), some (.d (.o r)), some (.d (.o 2)), some (.l (SS.map D.str)), some (.d (.int W)), some (.d (.str nm)), s6, none], m⟩ = .ok (decide (W < 3)) ⟨[some (.d (.o 0)), some (.d (.o r)), some (.d (.o 2)), some (.l (SS.map D.str)), some (.d (.int W)), some (.d (.str nm)), s6, none], m⟩ := by
 walk_at "z"
end
section
variable {cs : List Int} {M0 : List MO} {r : Nat} {E : Ent}
theorem entry_ok (n : Nat) (hE : EOk E) (hr : Rol M0 r E) {m : List MO} {A : Nat} {ns : List Str} (h : DS 3 cs M0 A m) (hn : NS m ns) (hns : ∀ s ∈ ns, nmOk s) (hl : 8 ≤ ns.length) (hl2 : ns.length ≤ 100) (hA : A + 5000 < drLim) :
  ∃ (e : En) (m' : List MO) (ns' : List Str), mir (n + 10) ._law_entry [.d (.o 0), .d (.o r), .d (.o 2)] m = .ok (.d (enD e)) m' ∧ EnOk e ∧ DS 3 cs M0 (A + 5000) m' ∧ NS m' ns' ∧ (∀ s ∈ ns', nmOk s) ∧ ns'.length + e.w = ns.length ∧ (E.so = [] → ∃ nm ms, e = .sort nm ms) := by
 have hrm : Rol m r E := by obtain ⟨_, _, _, f⟩ := h; exact rol_fr hr f
 obtain ⟨n0, n1, n2, n3, n4, hm, hdk, _⟩ := hrm
 have nn := hE.nn
 have q3 := dsort_of (f := (eDIx (eVar 1) (eC (.str (Str.ofString "sorts"))))) (z := ⟨[some (.d (.o 0)), some (.d (.o r)), some (.d (.o 2)), none, none, none, none, none], m⟩) (z1 := ⟨[some (.d (.o 0)), some (.d (.o r)), some (.d (.o 2)), none, none, none, none, none], m⟩) (dix_at rfl hm (rv0 _ _ _ _ _)) hdk.h0 (by omega)
 have hS0 : E.so = [] → srtS (E.so.map (·.1)) = [] := fun e => by
  have : (srtS (E.so.map (·.1))).length = 0 := by rw [(srt_perm _).length_eq, e]; rfl
  exact List.eq_nil_of_length_eq_zero this
 have hS2 : (srtS (E.so.map (·.1))).length ≤ 100 := by rw [(srt_perm _).length_eq, List.length_map]; omega
 have hS3 : ∀ s ∈ srtS (E.so.map (·.1)), nmOk s := fun s hs => by
  obtain ⟨v, hv⟩ := fnd_some (srt_mem.mp hs)
  exact (hE.so _ (fnd_mem hv)).1
 have t3 : (sSet 3 (eDSort (eDIx (eVar 1) (eC (.str "sorts")))) : Sm MX Out) ⟨[some (.d (.o 0)), some (.d (.o r)), some (.d (.o 2)), none, none, none, none, none], m⟩ = .ok .nx ⟨[some (.d (.o 0)), some (.d (.o r)), some (.d (.o 2)), some (.l ((srtS (E.so.map (·.1))).map D.str)), none, none, none, none], m⟩ := by
  simp only [sSet, una, q3, Rs.bind_ok, List.set_cons_succ, List.set_cons_zero]
 generalize srtS (E.so.map (·.1)) = SS at *
 obtain ⟨w, m1, e1, w0, w1, d1, nn1⟩ := next_es (n + 8) h hn (by omega) 7 (by decide) (by decide)
 -- the way
 obtain ⟨W, t4, W0, W7, WS, WN⟩ : ∃ W : Int, (sSet 4 (eBin dMul (eCall (mir (n + 9) ._law_next) (aCons (escf (eVar 0)) (aCons (escf (eC (.int 7))) aNil))) (eFn fInt (aCons (opd (eBin (dEq0 true) (eVar 3) (eLst aNil))) aNil))) : Sm MX Out) ⟨[some (.d (.o 0)), some (.d (.o r)), some (.d (.o 2)), some (.l (SS.map D.str)), none, none, none, none], m⟩ = .ok .nx ⟨[some (.d (.o 0)), some (.d (.o r)), some (.d (.o 2)), some (.l (SS.map D.str)), some (.d (.int W)), none, none, none], m1⟩ ∧ 0 ≤ W ∧ W < 7 ∧ (W ≠ 0 → SS ≠ []) ∧ (SS = [] → W = 0) := by
  have q := ne_nil0 (SS.map D.str)
  rw [List.isEmpty_map] at q
  have mm : dMul (.int w) (.int (if (!SS.isEmpty) = true then 1 else 0)) = some (.d (.int (w * (if (!SS.isEmpty) = true then 1 else 0)))) := dMul_r _ _ (by split <;> decide)
  refine ⟨w * (if (!SS.isEmpty) = true then 1 else 0), ?_, ?_, ?_, ?_, ?_⟩
  ·walk_at "z"
   rw [e1]
   walk_at "z"
   rw [q]
   walk_at "z"
   rw [mm]
   walk_at "z"
  ·split <;> omega
  ·split <;> omega
  ·intro hw e
   rw [e] at hw
   simp at hw
  ·intro e
   rw [e]
   simp
 obtain ⟨i, m2, e2, i0, i1, d2, nn2⟩ := next_es (n + 8) d1 nn1 (by omega) 2 (by decide) (by decide)
 obtain ⟨nm, hnm, ep⟩ := pop_ok (fo := eVar 2) (fi := eCall (mir (n + 9) ._law_next) (aCons (escf (eVar 0)) (aCons (escf (eC (.int 2))) aNil))) (z := ⟨[some (.d (.o 0)), some (.d (.o r)), some (.d (.o 2)), some (.l (SS.map D.str)), some (.d (.int W)), none, none, none], m1⟩) (z1 := ⟨[some (.d (.o 0)), some (.d (.o r)), some (.d (.o 2)), some (.l (SS.map D.str)), some (.d (.int W)), none, none, none], m2⟩) (ns := ns) (i := i) rfl nn1 (by
  walk_at "z"
  rw [e2]
  walk_at "z") nn2 i0 (by omega) (by omega)
 have t5 : (sSet 5 (ePopI (eVar 2) (eCall (mir (n + 9) ._law_next) (aCons (escf (eVar 0)) (aCons (escf (eC (.int 2))) aNil)))) : Sm MX Out) ⟨[some (.d (.o 0)), some (.d (.o r)), some (.d (.o 2)), some (.l (SS.map D.str)), some (.d (.int W)), none, none, none], m1⟩ = .ok .nx ⟨[some (.d (.o 0)), some (.d (.o r)), some (.d (.o 2)), some (.l (SS.map D.str)), some (.d (.int W)), some (.d (.str nm)), none, none], m2.set 2 (.lst ((ns.eraseIdx i.toNat).map D.str))⟩ := by
  simp only [sSet, una, ep, Rs.bind_ok, List.set_cons_succ, List.set_cons_zero]
 have nmk := hns nm hnm
 have l3 : (ns.eraseIdx i.toNat).length + 1 = ns.length := by rw [List.length_eraseIdx, if_pos (by omega)]; omega
 have d3 := d2.pop (.lst ((ns.eraseIdx i.toNat).map D.str))
 have nn3 := NS.set2 nn2.lt (ns.eraseIdx i.toNat)
 have hns3 : ∀ s ∈ ns.eraseIdx i.toNat, nmOk s := fun x hx => hns x (List.mem_of_mem_eraseIdx hx)
 generalize ns.eraseIdx i.toNat = ns3 at *
 generalize m2.set 2 (.lst (ns3.map D.str)) = m3 at *
 show ∃ (e : En) (m' : List MO) (ns' : List Str), fnM 8 (m__law_entry (mir (n + 9))) _ _ = _ ∧ _
 rw [fnM_R]
 have head : m__law_entry (mir (n + 9)) ⟨[some (.d (.o 0)), some (.d (.o r)), some (.d (.o 2)), none, none, none, none, none], m⟩ = enT (mir (n + 9)) ⟨[some (.d (.o 0)), some (.d (.o r)), some (.d (.o 2)), some (.l (SS.map D.str)), some (.d (.int W)), some (.d (.str nm)), none, none], m3⟩ := by
  unfold m__law_entry
  rw [seq_nx t3, seq_nx t4, seq_nx t5]
  rfl
 by_cases hW : W = 0
 ·obtain ⟨ms, m4, ns', g1, g2, g3, g4, g5, g6⟩ := mem_es (n + 8) (r := r) (SS := SS) (W := W) (nm := nm) d3 nn3 (by omega) hns3 (by omega)
  refine ⟨.sort nm ms, m4, ns', ?_, ⟨nmk, g2⟩, g3.le (by omega), g4, g5, by show ns'.length + (ms.length + 1) = _; omega, fun _ => ⟨_, _, rfl⟩⟩
  refine (congrArg fnR (head.trans (seq_rt ((if_t (enQ0 (r := r) (SS := SS) (W := W) (nm := nm) (s6 := none) 0 |>.trans (by rw [decide_eq_true hW]))).trans (enR0_ok g1))))).trans rfl
 ·have hS := WS hW
  obtain ⟨as, m4, g1, g2, g3, g4, g5⟩ := args_es (n + 8) (r := r) (SS := SS) (W := W) (nm := nm) d3 nn3 (by omega) hS hS2 hS3
  have no0 : E.so = [] → ∃ nm' ms, (∀ e : En, e = .sort nm' ms) := fun e => absurd (WN (hS0 e)) hW
  have h6 : enT (mir (n + 9)) ⟨[some (.d (.o 0)), some (.d (.o r)), some (.d (.o 2)), some (.l (SS.map D.str)), some (.d (.int W)), some (.d (.str nm)), none, none], m3⟩ = (sSeq (sIf (tOf (eBin dLt (eVar 4) (eC (.int 3)))) (enR1 (mir (n + 9))) sNil) (sSeq (sIf (tOf (eBin dEq (eVar 4) (eC (.int 3)))) (enR2 (mir (n + 9))) sNil) (sSeq (sIf (tOf (eBin dEq (eVar 4) (eC (.int 4)))) (enR3 (mir (n + 9))) sNil) (enR4 (mir (n + 9)))))) ⟨[some (.d (.o 0)), some (.d (.o r)), some (.d (.o 2)), some (.l (SS.map D.str)), some (.d (.int W)), some (.d (.str nm)), some (.d (arD as)), none], m4⟩ := by
   unfold enT
   rw [seq_nx (sif_f ((enQ0 0).trans (by rw [decide_eq_false hW]))), seq_nx (enS6_ok g1)]
  have head := head.trans h6
  by_cases h3 : W < 3
  ·have hp : 0 < SS.length := by
    cases SS with
    | nil => exact absurd rfl hS
    | cons _ _ => simp
   obtain ⟨i5, m5, e5, a0, a1, d5, n5⟩ := next_es (n + 8) g4 g5 (by omega) 2 (by decide) (by decide)
   obtain ⟨i6, m6, e6, b0, b1, d6, n6⟩ := next_es (n + 8) d5 n5 (by omega) (SS.length : Nat) (by omega) (by omega)
   obtain ⟨y, hy, p1⟩ := pick_l (xs := [.tup [], arD as]) a0 (by show i5 < ((2 : Nat) : Int); omega)
   obtain ⟨s, hs, p2⟩ := pick_s b0 b1
   obtain ⟨as', rfl, ha1, ha2⟩ : ∃ as' : List Str, y = arD as' ∧ as'.length ≤ 3 ∧ ∀ a ∈ as', nmOk a := by
    simp only [List.mem_cons, List.not_mem_nil, or_false] at hy
    rcases hy with rfl | rfl
    ·exact ⟨[], rfl, by simp, fun a ha => (by cases ha)⟩
    ·exact ⟨as, rfl, g2, g3⟩
   refine ⟨.func nm as' s, m6, ns3, ?_, ⟨nmk, ha1, ha2, hS3 s hs⟩, d6.le (by omega), n6, hns3, by show ns3.length + 1 = _; omega, fun e => absurd (WN (hS0 e)) hW⟩
   exact (congrArg fnR (head.trans (seq_rt ((if_t (enQ1.trans (by rw [decide_eq_true h3]))).trans (enR1_ok e5 p1 e6 p2))))).trans rfl
  ·have q1 : (tOf (eBin dLt (eVar 4) (eC (.int 3))) : Sm MX Bool) ⟨[some (.d (.o 0)), some (.d (.o r)), some (.d (.o 2)), some (.l (SS.map D.str)), some (.d (.int W)), some (.d (.str nm)), some (.d (arD as)), none], m4⟩ = .ok false ⟨[some (.d (.o 0)), some (.d (.o r)), some (.d (.o 2)), some (.l (SS.map D.str)), some (.d (.int W)), some (.d (.str nm)), some (.d (arD as)), none], m4⟩ := enQ1.trans (by rw [decide_eq_false h3])
   by_cases h4 : W = 3
   ·refine ⟨.rel nm as, m4, ns3, ?_, ⟨nmk, g2, g3⟩, g4.le (by omega), g5, hns3, by show ns3.length + 1 = _; omega, fun e => absurd (WN (hS0 e)) hW⟩
    exact (congrArg fnR (head.trans ((seq_nx (sif_f q1)).trans (seq_rt ((if_t ((enQ0 3).trans (by rw [decide_eq_true h4]))).trans enR2_ok))))).trans rfl
   ·have q2 : (tOf (eBin dEq (eVar 4) (eC (.int 3))) : Sm MX Bool) ⟨[some (.d (.o 0)), some (.d (.o r)), some (.d (.o 2)), some (.l (SS.map D.str)), some (.d (.int W)), some (.d (.str nm)), some (.d (arD as)), none], m4⟩ = .ok false ⟨[some (.d (.o 0)), some (.d (.o r)), some (.d (.o 2)), some (.l (SS.map D.str)), some (.d (.int W)), some (.d (.str nm)), some (.d (arD as)), none], m4⟩ := (enQ0 3).trans (by rw [decide_eq_false h4])
    have k2 : stK 2 = 2117 := rfl
    have k3 : stK 3 = 4537 := rfl
    by_cases h5 : W = 4
    ·obtain ⟨x, m5, e5, hx, d5, n5⟩ := stat_es hE hr 2 (n + 1) as.reverse g4 g5 (fun a ha => (g3 a (List.mem_reverse.mp ha)).1) (by rw [List.length_reverse]; omega) (by omega)
     refine ⟨.mean nm as x, m5, ns3, ?_, ⟨nmk, g2, g3, hx.1.mono (by decide) (by decide) (by decide)⟩, d5.le (by omega), n5, hns3, by show ns3.length + 1 = _; omega, fun e => absurd (WN (hS0 e)) hW⟩
     exact (congrArg fnR (head.trans ((seq_nx (sif_f q1)).trans ((seq_nx (sif_f q2)).trans (seq_rt ((if_t ((enQ0 4).trans (by rw [decide_eq_true h5]))).trans (enR3_ok e5))))))).trans rfl
    ·have q3 : (tOf (eBin dEq (eVar 4) (eC (.int 4))) : Sm MX Bool) ⟨[some (.d (.o 0)), some (.d (.o r)), some (.d (.o 2)), some (.l (SS.map D.str)), some (.d (.int W)), some (.d (.str nm)), some (.d (arD as)), none], m4⟩ = .ok false ⟨[some (.d (.o 0)), some (.d (.o r)), some (.d (.o 2)), some (.l (SS.map D.str)), some (.d (.int W)), some (.d (.str nm)), some (.d (arD as)), none], m4⟩ := (enQ0 4).trans (by rw [decide_eq_false h5])
     obtain ⟨x, m5, e5, hx, d5, n5⟩ := stat_es hE hr 3 n [] g4 g5 (fun a ha => (by cases ha)) (by simp) (by omega)
     refine ⟨.taken nm x, m5, ns3, ?_, ⟨nmk, hx.1.mono (by decide) (by decide) (by decide)⟩, d5.le (by omega), n5, hns3, by show ns3.length + 1 = _; omega, fun e => absurd (WN (hS0 e)) hW⟩
     exact (congrArg fnR (head.trans ((seq_nx (sif_f q1)).trans ((seq_nx (sif_f q2)).trans ((seq_nx (sif_f q3)).trans (enR4_ok e5)))))).trans rfl
end
theorem lM_names (a0 a1 a2 a3 a4 : D) : List.lookup (Str.ofString "names") [((Str.ofString "told_sorts"), a0), ((Str.ofString "told_calls"), a1), ((Str.ofString "told_rels"), a2), ((Str.ofString "told_means"), a3), ((Str.ofString "told_facts"), a4)] = none := by kernel_rfl
theorem lM_we (a0 a1 a2 a3 a4 : D) : List.lookup (Str.ofString "with_entry") [((Str.ofString "told_sorts"), a0), ((Str.ofString "told_calls"), a1), ((Str.ofString "told_rels"), a2), ((Str.ofString "told_means"), a3), ((Str.ofString "told_facts"), a4)] = none := by kernel_rfl
theorem Dr.app {m : List MO} {a : Nat} {cs : List Int} (h : Dr m a cs) (x : List MO) : Dr (m ++ x) a cs := by
 obtain ⟨ls, h1, h2⟩ := h.h1
 exact ⟨gP h.h0, ⟨ls, h1, gP h2⟩, h.hc⟩
theorem ret_d {f : Sm MX S} {z z1 : Z (List MO)} {d : D} (h : f z = .ok (.d d) z1) : sRet f z = .ok (.rt (.d d)) z1 := by
 simp only [sRet, h, Rs.bind_ok]
section
variable {m : List MO} {k : Nat} {E : Ent}
theorem kn_meaning (hk : Kno m k E) (n : Nat) (x : Str) : mir (n + 1) .Known_meaning [.d (.o k), .d (.str x)] m = .ok (.d (((fnd E.me x).map id).getD .non)) m := by
 obtain ⟨n0, n1, n2, n3, n4, hn, h⟩ := hk
 have h0 := h.h3
 have q : (eFld ["Known"] "told_means" (eVar 0) : Sm MX S) ⟨[some (.d (.o k)), some (.d (.str x))], m⟩ = .ok (.d (.o n3)) ⟨[some (.d (.o k)), some (.d (.str x))], m⟩ := fld_get (n := k) (c := "Known") (v_d rfl) hn memK (lF3 _ _ _ _ _)
 show fnM 2 (m_Known_meaning (mir n)) _ _ = _
 unfold m_Known_meaning
 walk_at "z"
 simp only [eDGet2, opd, q, Rs.bind_ok, dictAt, rd, h0, eVar, List.getElem?_cons_succ, List.getElem?_cons_zero, escf, eC, escS, keyD, Option.bind_some, val_dk]
theorem kn_statement (hk : Kno m k E) (n : Nat) (x : Str) : mir (n + 1) .Known_statement [.d (.o k), .d (.str x)] m = .ok (.d (((fnd E.fa x).map id).getD .non)) m := by
 obtain ⟨n0, n1, n2, n3, n4, hn, h⟩ := hk
 have h0 := h.h4
 have q : (eFld ["Known"] "told_facts" (eVar 0) : Sm MX S) ⟨[some (.d (.o k)), some (.d (.str x))], m⟩ = .ok (.d (.o n4)) ⟨[some (.d (.o k)), some (.d (.str x))], m⟩ := fld_get (n := k) (c := "Known") (v_d rfl) hn memK (lF4 _ _ _ _ _)
 show fnM 2 (m_Known_statement (mir n)) _ _ = _
 unfold m_Known_statement
 walk_at "z"
 simp only [eDGet2, opd, q, Rs.bind_ok, dictAt, rd, h0, eVar, List.getElem?_cons_succ, List.getElem?_cons_zero, escf, eC, escS, keyD, Option.bind_some, val_dk]
theorem dlist_of {α : Type} {f : Sm MX S} {z z1 : Z (List MO)} {n : Nat} {g : α → D} {l : List (Str × α)} (hf : f z = .ok (.d (.o n)) z1) (hm : z1.m[n]? = some (.dK (dk g l))) : (eDList f : Sm MX S) z = .ok (.l ((l.map (·.1)).map D.str)) z1 := by
 have e : (dk g l).map (fun kv => kD kv.1) = (l.map (·.1)).map D.str := by
  unfold dk
  rw [List.map_map, List.map_map]
  rfl
 simp only [eDList, opd, hf, Rs.bind_ok, dictAt, rd, hm, e]
noncomputable def nmsE (E : Ent) : List Str := srtS (E.so.map (·.1) ++ E.ca.map (·.1) ++ E.re.map (·.1) ++ E.fa.map (·.1))
theorem srt_D {ss : List Str} (h : ss.length < 64) : fSortS [.lst (ss.map D.str)] = some (.l ((srtS ss).map D.str)) := by
 unfold fSortS
 simp only [strsOf_map]
 rw [if_pos h]
theorem kn_names (hk : Kno m k E) (hE : E.cnt < 64) (n : Nat) : mir (n + 1) .Known_names [.d (.o k)] m = .ok (.d (.o m.length)) (m ++ [.lst ((nmsE E).map D.str)]) := by
 obtain ⟨n0, n1, n2, n3, n4, hn, h⟩ := hk
 unfold Ent.cnt at hE
 have q0 : (eDList (eFld ["Known"] "told_sorts" (eVar 0)) : Sm MX S) ⟨[some (.d (.o k))], m⟩ = _ := dlist_of (fld_get (n := k) (c := "Known") (v_d rfl) hn memK (lF0 _ _ _ _ _)) h.h0
 have q1 : (eDList (eFld ["Known"] "told_calls" (eVar 0)) : Sm MX S) ⟨[some (.d (.o k))], m⟩ = _ := dlist_of (fld_get (n := k) (c := "Known") (v_d rfl) hn memK (lF1 _ _ _ _ _)) h.h1
 have q2 : (eDList (eFld ["Known"] "told_rels" (eVar 0)) : Sm MX S) ⟨[some (.d (.o k))], m⟩ = _ := dlist_of (fld_get (n := k) (c := "Known") (v_d rfl) hn memK (lF2 _ _ _ _ _)) h.h2
 have q3 : (eDList (eFld ["Known"] "told_facts" (eVar 0)) : Sm MX S) ⟨[some (.d (.o k))], m⟩ = _ := dlist_of (fld_get (n := k) (c := "Known") (v_d rfl) hn memK (lF4 _ _ _ _ _)) h.h4
 have l0 : (E.so.map (·.1)).length = E.so.length := List.length_map _
 have l1 : (E.ca.map (·.1)).length = E.ca.length := List.length_map _
 have l2 : (E.re.map (·.1)).length = E.re.length := List.length_map _
 have l3 : (E.fa.map (·.1)).length = E.fa.length := List.length_map _
 unfold nmsE
 generalize E.so.map (·.1) = A at *
 generalize E.ca.map (·.1) = B at *
 generalize E.re.map (·.1) = C at *
 generalize E.fa.map (·.1) = G at *
 have a1 := dAdd_l (A.map D.str) (B.map D.str) (by simp only [List.length_map]; omega)
 rw [← List.map_append] at a1
 have a2 := dAdd_l ((A ++ B).map D.str) (C.map D.str) (by simp only [List.length_map, List.length_append]; omega)
 rw [← List.map_append] at a2
 have a3 := dAdd_l ((A ++ B ++ C).map D.str) (G.map D.str) (by simp only [List.length_map, List.length_append]; omega)
 rw [← List.map_append] at a3
 have a4 := srt_D (ss := A ++ B ++ C ++ G) (by simp only [List.length_append]; omega)
 show fnM 1 (m_Known_names (mir n)) _ _ = _
 unfold m_Known_names
 have e : (eFn fSortS (aCons (opd (eBin dAdd (eBin dAdd (eBin dAdd (eDList (eFld ["Known"] "told_sorts" (eVar 0))) (eDList (eFld ["Known"] "told_calls" (eVar 0)))) (eDList (eFld ["Known"] "told_rels" (eVar 0)))) (eDList (eFld ["Known"] "told_facts" (eVar 0))))) aNil) : Sm MX S) ⟨[some (.d (.o k))], m⟩ = .ok (.l ((srtS (A ++ B ++ C ++ G)).map D.str)) ⟨[some (.d (.o k))], m⟩ := by
  walk_at "z"
  rw [q0]
  walk_at "z"
  rw [q1]
  walk_at "z"
  rw [a1]
  walk_at "z"
  rw [q2]
  walk_at "z"
  rw [a2]
  walk_at "z"
  rw [q3]
  walk_at "z"
  rw [a3]
  walk_at "z"
  rw [a4]
  walk_at "z"
 have e2 : (eSto (eFn fSortS (aCons (opd (eBin dAdd (eBin dAdd (eBin dAdd (eDList (eFld ["Known"] "told_sorts" (eVar 0))) (eDList (eFld ["Known"] "told_calls" (eVar 0)))) (eDList (eFld ["Known"] "told_rels" (eVar 0)))) (eDList (eFld ["Known"] "told_facts" (eVar 0))))) aNil)) : Sm MX S) ⟨[some (.d (.o k))], m⟩ = .ok (.d (.o m.length)) ⟨[some (.d (.o k))], m ++ [.lst ((srtS (A ++ B ++ C ++ G)).map D.str)]⟩ := by
  simp only [eSto, e, Rs.bind_ok]
 rw [fnM_R]
 exact (congrArg fnR (ret_d e2)).trans rfl
end
theorem meth_g {F : Fn} {w : Str} {f : Sm MX S} {g : Sm MX (List S)} {c : CF} {z : Z (List MO)} {k : Nat} {E : Ent} {ss : List S} {d : D} {m' : List MO} (hf : f z = .ok (.d (.o k)) z) (hk : Kno z.m k E) (hw : ∀ a0 a1 a2 a3 a4 : D, List.lookup w [((Str.ofString "told_sorts"), a0), ((Str.ofString "told_calls"), a1), ((Str.ofString "told_rels"), a2), ((Str.ofString "told_means"), a3), ((Str.ofString "told_facts"), a4)] = none) (hg : g z = .ok ss z) (ok : ss.all okArg = true) (e : c F (.d (.o k) :: ss) z.m = .ok (.d d) m') : (eCall (c F) (aMeth "Known" w f g) : Sm MX S) z = .ok (.d d) ⟨z.rho, m'⟩ := by
 obtain ⟨n0, n1, n2, n3, n4, hn, _⟩ := hk
 have q : (aMeth "Known" w f g : Sm MX (List S)) z = .ok (.d (.o k) :: ss) z := by
  simp only [aMeth, opd, hf, Rs.bind_ok, insAt, rd, hn]
  rw [if_pos ⟨trivial, hw _ _ _ _ _⟩, hg]
  rfl
 simp only [eCall, q, Rs.bind_ok]
 have o1 : okArg (S.d (.o k)) = true := rfl
 simp only [List.all_cons, o1, ok, Bool.and_self, if_true, e]
noncomputable def rowE (E : Ent) (x : Str) : List D := [((fnd E.so x).map arD).getD .non, ((fnd E.ca x).map sgD).getD .non, ((fnd E.re x).map arD).getD .non, ((fnd E.me x).map id).getD .non, ((fnd E.fa x).map id).getD .non]
noncomputable def laE (c : CF) : Sm MX S := (eLst (aCons (escf (eCall (c .Known_members) (aMeth "Known" "members" (eVar 0) (aCons (escf (eVar 3)) aNil)))) (aCons (escf (eCall (c .Known_func) (aMeth "Known" "func" (eVar 0) (aCons (escf (eVar 3)) aNil)))) (aCons (escf (eCall (c .Known_rel) (aMeth "Known" "rel" (eVar 0) (aCons (escf (eVar 3)) aNil)))) (aCons (escf (eCall (c .Known_meaning) (aMeth "Known" "meaning" (eVar 0) (aCons (escf (eVar 3)) aNil)))) aNil)))))
noncomputable def laX (c : CF) : Sm MX Out := (sExpr (eApp 2 (eBin dAdd (eVar 4) (eLst (aCons (escf (eCall (c .Known_statement) (aMeth "Known" "statement" (eVar 0) (aCons (escf (eVar 3)) aNil)))) aNil)))))
noncomputable def laB (c : CF) : Sm MX Out := sSeq (sSet 4 (laE c)) (laX c)
theorem for_cons1 {kk : D → Z (List MO) → Option (Z (List MO))} {b : Sm MX Out} {d : D} {r : List D} {z z1 z2 : Z (List MO)} (h : kk d z = some z1) (hb : b z1 = .ok .nx z2) : forL (M := MX) kk b (d :: r) z = forL (M := MX) kk b r z2 := by
 conv => lhs; unfold forL
 simp only [h, hb, Rs.bind_ok]
section
variable {k : Nat} {E : Ent} {m : List MO} {n : Nat}
theorem laB_ok (hk : Kno m k E) (V1 : Option S) (L : List D) (x : Str) (s4 : Option S) (hl : L.length < lim) : laB (mir (n + 1)) ⟨[some (.d (.o k)), V1, some (.l L), some (.d (.str x)), s4], m⟩ = .ok .nx ⟨[some (.d (.o k)), V1, some (.l (L ++ [.lst (rowE E x)])), some (.d (.str x)), some (.l ((rowE E x).take 4))], m⟩ := by
 have g : ∀ s4 : Option S, (aCons (escf (eVar 3)) aNil : Sm MX (List S)) ⟨[some (.d (.o k)), V1, some (.l L), some (.d (.str x)), s4], m⟩ = .ok [.d (.str x)] ⟨[some (.d (.o k)), V1, some (.l L), some (.d (.str x)), s4], m⟩ := fun _ => rfl
 have v : ∀ s4 : Option S, (eVar 0 : Sm MX S) ⟨[some (.d (.o k)), V1, some (.l L), some (.d (.str x)), s4], m⟩ = .ok (.d (.o k)) ⟨[some (.d (.o k)), V1, some (.l L), some (.d (.str x)), s4], m⟩ := fun _ => rfl
 have q0 := meth_g (F := .Known_members) (w := Str.ofString "members") (c := mir (n + 1)) (v s4) hk lM_members (g s4) rfl (kn_members hk n x)
 have q1 := meth_g (F := .Known_func) (w := Str.ofString "func") (c := mir (n + 1)) (v s4) hk lM_func (g s4) rfl (kn_func hk n x)
 have q2 := meth_g (F := .Known_rel) (w := Str.ofString "rel") (c := mir (n + 1)) (v s4) hk lM_rel (g s4) rfl (kn_rel hk n x)
 have q3 := meth_g (F := .Known_meaning) (w := Str.ofString "meaning") (c := mir (n + 1)) (v s4) hk lM_meaning (g s4) rfl (kn_meaning hk n x)
 have q4 := fun s4 => meth_g (F := .Known_statement) (w := Str.ofString "statement") (c := mir (n + 1)) (v s4) hk lM_statement (g s4) rfl (kn_statement hk n x)
 have e1 : (sSet 4 (laE (mir (n + 1))) : Sm MX Out) ⟨[some (.d (.o k)), V1, some (.l L), some (.d (.str x)), s4], m⟩ = .ok .nx ⟨[some (.d (.o k)), V1, some (.l L), some (.d (.str x)), some (.l ((rowE E x).take 4))], m⟩ := by
  unfold laE rowE
  revert q0 q1 q2 q3
  generalize ((fnd E.so x).map arD).getD .non = d0
  generalize ((fnd E.ca x).map sgD).getD .non = d1
  generalize ((fnd E.re x).map arD).getD .non = d2
  generalize ((fnd E.me x).map id).getD .non = d3
  generalize (eCall (mir (n + 1) .Known_members) (aMeth "Known" "members" (eVar 0) (aCons (escf (eVar 3)) aNil)) : Sm MX S) = F0
  generalize (eCall (mir (n + 1) .Known_func) (aMeth "Known" "func" (eVar 0) (aCons (escf (eVar 3)) aNil)) : Sm MX S) = F1
  generalize (eCall (mir (n + 1) .Known_rel) (aMeth "Known" "rel" (eVar 0) (aCons (escf (eVar 3)) aNil)) : Sm MX S) = F2
  generalize (eCall (mir (n + 1) .Known_meaning) (aMeth "Known" "meaning" (eVar 0) (aCons (escf (eVar 3)) aNil)) : Sm MX S) = F3
  intro q0 q1 q2 q3
  walk_at "z"
  rw [q0]
  walk_at "z"
  rw [q1]
  walk_at "z"
  rw [q2]
  walk_at "z"
  rw [q3]
  walk_at "z"
  try rfl
 have e2 : laX (mir (n + 1)) ⟨[some (.d (.o k)), V1, some (.l L), some (.d (.str x)), some (.l ((rowE E x).take 4))], m⟩ = .ok .nx ⟨[some (.d (.o k)), V1, some (.l (L ++ [.lst (rowE E x)])), some (.d (.str x)), some (.l ((rowE E x).take 4))], m⟩ := by
  have q4 := q4 (some (.l ((rowE E x).take 4)))
  have ad := dAdd_l ((rowE E x).take 4) [((fnd E.fa x).map id).getD .non] (by show 5 ≤ 1000000; omega)
  have er : (rowE E x).take 4 ++ [((fnd E.fa x).map id).getD .non] = rowE E x := rfl
  rw [er] at ad
  unfold laX
  revert q4 ad
  generalize ((fnd E.fa x).map id).getD .non = d4
  generalize (rowE E x).take 4 = R4
  generalize rowE E x = R5
  generalize (eCall (mir (n + 1) .Known_statement) (aMeth "Known" "statement" (eVar 0) (aCons (escf (eVar 3)) aNil)) : Sm MX S) = F4
  intro q4 ad
  walk_at "z"
  rw [q4]
  walk_at "z"
  rw [ad]
  walk_at "z"
  rw [if_pos hl]
  try rfl
 exact (seq_nx e1).trans e2
theorem la_loop (hk : Kno m k E) (V1 : Option S) : ∀ (xs : List Str) (L : List D) (s3 s4 : Option S), L.length + xs.length ≤ lim → ∃ s3' s4', forL (M := MX) (kName 3) (laB (mir (n + 1))) (xs.map D.str) ⟨[some (.d (.o k)), V1, some (.l L), s3, s4], m⟩ = .ok .nx ⟨[some (.d (.o k)), V1, some (.l (L ++ xs.map fun x => .lst (rowE E x))), s3', s4'], m⟩
 | [], L, s3, s4, _ => ⟨s3, s4, by rw [List.map_nil, List.map_nil, List.append_nil]; rfl⟩
 | x :: r, L, s3, s4, hl => by
  rw [List.length_cons] at hl
  have b := laB_ok (n := n) hk V1 L x s4 (by omega)
  obtain ⟨t3, t4, e⟩ := la_loop hk V1 r (L ++ [.lst (rowE E x)]) (some (.d (.str x))) (some (.l ((rowE E x).take 4))) (by rw [List.length_append, List.length_singleton]; omega)
  refine ⟨t3, t4, ?_⟩
  rw [List.map_cons, List.map_cons, show L ++ (D.lst (rowE E x) :: r.map fun x => D.lst (rowE E x)) = (L ++ [.lst (rowE E x)]) ++ r.map (fun x => D.lst (rowE E x)) from by rw [List.append_assoc]; rfl, ← e]
  exact for_cons1 rfl b
theorem all_ok (hk : Kno m k E) (hE : E.cnt < 64) (ev : List Str) (hl : ev.length ≤ 1000) : mir (n + 2) ._law_all [.d (.o k), .d (.lst (ev.map D.str))] m = .ok (.l (.o m.length :: ev.map fun x => .lst (rowE E x))) (m ++ [.lst ((nmsE E).map D.str)]) := by
 have q := meth_g (F := .Known_names) (w := Str.ofString "names") (f := eVar 0) (g := aNil) (c := mir (n + 1)) (z := ⟨[some (.d (.o k)), some (.d (.lst (ev.map D.str))), none, none, none], m⟩) rfl hk lM_names rfl rfl (kn_names hk hE n)
 have e1 : (sSet 2 (eLst (aCons (escf (eCall (mir (n + 1) .Known_names) (aMeth "Known" "names" (eVar 0) aNil))) aNil)) : Sm MX Out) ⟨[some (.d (.o k)), some (.d (.lst (ev.map D.str))), none, none, none], m⟩ = .ok .nx ⟨[some (.d (.o k)), some (.d (.lst (ev.map D.str))), some (.l [.o m.length]), none, none], m ++ [.lst ((nmsE E).map D.str)]⟩ := by
  revert q
  generalize (eCall (mir (n + 1) .Known_names) (aMeth "Known" "names" (eVar 0) aNil) : Sm MX S) = F
  intro q
  walk_at "z"
  rw [q]
  walk_at "z"
 obtain ⟨t3, t4, e⟩ := la_loop (n := n) (kno_app (x := [.lst ((nmsE E).map D.str)]) hk) (some (.d (.lst (ev.map D.str)))) ev [.o m.length] none none (by show 1 + _ ≤ 1000000; omega)
 have e2 : (sFor (iAnyM (eVar 1)) (kName 3) (laB (mir (n + 1))) : Sm MX Out) ⟨[some (.d (.o k)), some (.d (.lst (ev.map D.str))), some (.l [.o m.length]), none, none], m ++ [.lst ((nmsE E).map D.str)]⟩ = .ok .nx ⟨[some (.d (.o k)), some (.d (.lst (ev.map D.str))), some (.l ([.o m.length] ++ ev.map fun x => .lst (rowE E x))), t3, t4], m ++ [.lst ((nmsE E).map D.str)]⟩ := e
 have e3 : (sRet (eVar 2) : Sm MX Out) ⟨[some (.d (.o k)), some (.d (.lst (ev.map D.str))), some (.l ([.o m.length] ++ ev.map fun x => .lst (rowE E x))), t3, t4], m ++ [.lst ((nmsE E).map D.str)]⟩ = .ok (.rt (.l ([.o m.length] ++ ev.map fun x => .lst (rowE E x)))) ⟨[some (.d (.o k)), some (.d (.lst (ev.map D.str))), some (.l ([.o m.length] ++ ev.map fun x => .lst (rowE E x))), t3, t4], m ++ [.lst ((nmsE E).map D.str)]⟩ := rfl
 show fnM 5 (m__law_all (mir (n + 1))) _ _ = _
 rw [fnM_R]
 exact (congrArg fnR ((seq_nx e1).trans ((seq_nx e2).trans e3))).trans rfl
end
theorem lc_keep {k : D → Z (List MO) → Option (Z (List MO))} {t : Sm MX Bool} {e : Sm MX S} {vs : List Nat} {d y : D} {r acc : List D} {z z1 : Z (List MO)} (h1 : k d z = some z1) (h2 : t z1 = .ok true z1) (h3 : escf e z1 = .ok (.d y) z1) (hl : acc.length < lim) (hw : wipeZ (M := MX) z1 vs = z) : lcL (M := MX) k t e vs (d :: r) acc z = lcL (M := MX) k t e vs r (acc ++ [y]) z := by
 conv => lhs; unfold lcL
 simp only [h1, h2, nox, Rs.bind_ok, if_true, h3, if_pos hl, hw]
theorem lc_skip {k : D → Z (List MO) → Option (Z (List MO))} {t : Sm MX Bool} {e : Sm MX S} {vs : List Nat} {d : D} {r acc : List D} {z z1 : Z (List MO)} (h1 : k d z = some z1) (h2 : t z1 = .ok false z1) (hw : wipeZ (M := MX) z1 vs = z) : lcL (M := MX) k t e vs (d :: r) acc z = lcL (M := MX) k t e vs r acc z := by
 conv => lhs; unfold lcL
 simp only [h1, h2, nox, Rs.bind_ok, Bool.false_eq_true, if_false, hw]
theorem dix_v {rho : List (Option S)} {m : List MO} {i j n : Nat} {x : Str} {ps : List (Key × D)} {d : D} (hi : rho[i]? = some (some (.d (.o n)))) (hj : rho[j]? = some (some (.d (.str x)))) (hm : m[n]? = some (.dK ps)) (hv : valD ps (.inr x) = some d) : (eDIx (eVar i) (eVar j) : Sm MX S) ⟨rho, m⟩ = .ok (.d d) ⟨rho, m⟩ := by
 simp only [eDIx, opd, eVar, hi, hj, Rs.bind_ok, dictAt, rd, hm, keyD, Option.bind_some, hv]
noncomputable abbrev ptD : List D := [.str (Str.ofString "sorts"), .str (Str.ofString "calls"), .str (Str.ofString "rels"), .str (Str.ofString "means"), .str (Str.ofString "facts")]
noncomputable def lc1 : Sm MX S := (eLc (iAnyM (eVar 2)) (kName 5) (tOf (eBin dNe (eVar 5) (eC (.str "means")))) (eDList (eDIx (eVar 0) (eVar 5))) [5])
noncomputable def lc2 : Sm MX S := (eLc (iAnyM (eVar 2)) (kName 5) (fun z => .ok true z) (eDGet1 (eDIx (eVar 0) (eVar 5)) (eVar 4)) [5])
theorem nm0 : dNe (.str (Str.ofString "sorts")) (.str (Str.ofString "means")) = some (.d (.bl true)) := by kernel_rfl
theorem nm1 : dNe (.str (Str.ofString "calls")) (.str (Str.ofString "means")) = some (.d (.bl true)) := by kernel_rfl
theorem nm2 : dNe (.str (Str.ofString "rels")) (.str (Str.ofString "means")) = some (.d (.bl true)) := by kernel_rfl
theorem nm3 : dNe (.str (Str.ofString "means")) (.str (Str.ofString "means")) = some (.d (.bl false)) := by kernel_rfl
theorem nm4 : dNe (.str (Str.ofString "facts")) (.str (Str.ofString "means")) = some (.d (.bl true)) := by kernel_rfl
section
variable {r : Nat} {E : Ent} {m : List MO}
theorem dk_t {s0 s1 s2 s3 s4 : Option S} {x : Str} {b : Bool} (h : dNe (.str x) (.str (Str.ofString "means")) = some (.d (.bl b))) : (tOf (eBin dNe (eVar 5) (eC (.str (Str.ofString "means")))) : Sm MX Bool) ⟨[s0, s1, s2, s3, s4, some (.d (.str x))], m⟩ = .ok b ⟨[s0, s1, s2, s3, s4, some (.d (.str x))], m⟩ := by
 walk_at "z"
 rw [h]
 walk_at "z"
theorem dk_l {s1 s2 s3 s4 : Option S} {x : Str} {ps : List (Key × D)} {n : Nat} {α : Type} {g : α → D} {l : List (Str × α)} (hm : m[r]? = some (.dK ps)) (hv : valD ps (.inr x) = some (.o n)) (hn : m[n]? = some (.dK (dk g l))) : escf (eDList (eDIx (eVar 0) (eVar 5)) : Sm MX S) ⟨[some (.d (.o r)), s1, s2, s3, s4, some (.d (.str x))], m⟩ = .ok (.d (.lst ((l.map (·.1)).map D.str))) ⟨[some (.d (.o r)), s1, s2, s3, s4, some (.d (.str x))], m⟩ := by
 have q := dlist_of (f := (eDIx (eVar 0) (eVar 5) : Sm MX S)) (z := ⟨[some (.d (.o r)), s1, s2, s3, s4, some (.d (.str x))], m⟩) (dix_v rfl rfl hm hv) hn
 simp only [escf, q, Rs.bind_ok, escS]
theorem lc1_ok (hr : Rol m r E) (s1 s3 s4 : Option S) : lc1 ⟨[some (.d (.o r)), s1, some (.l ptD), s3, s4, none], m⟩ = .ok (.l [.lst ((E.so.map (·.1)).map D.str), .lst ((E.ca.map (·.1)).map D.str), .lst ((E.re.map (·.1)).map D.str), .lst ((E.fa.map (·.1)).map D.str)]) ⟨[some (.d (.o r)), s1, some (.d (.lst ptD)), s3, s4, none], m⟩ := by
 obtain ⟨n0, n1, n2, n3, n4, hm, hd, _⟩ := hr
 have a0 := dk_l (s1 := s1) (s2 := some (.d (.lst ptD))) (s3 := s3) (s4 := s4) hm (rv0 n0 n1 n2 n3 n4) hd.h0
 have a1 := dk_l (s1 := s1) (s2 := some (.d (.lst ptD))) (s3 := s3) (s4 := s4) hm (rv1 n0 n1 n2 n3 n4) hd.h1
 have a2 := dk_l (s1 := s1) (s2 := some (.d (.lst ptD))) (s3 := s3) (s4 := s4) hm (rv2 n0 n1 n2 n3 n4) hd.h2
 have a4 := dk_l (s1 := s1) (s2 := some (.d (.lst ptD))) (s3 := s3) (s4 := s4) hm (rv4 n0 n1 n2 n3 n4) hd.h4
 have q : lcL (M := MX) (kName 5) (tOf (eBin dNe (eVar 5) (eC (.str (Str.ofString "means"))))) (eDList (eDIx (eVar 0) (eVar 5))) [5] ptD [] ⟨[some (.d (.o r)), s1, some (.d (.lst ptD)), s3, s4, none], m⟩ = .ok [.lst ((E.so.map (·.1)).map D.str), .lst ((E.ca.map (·.1)).map D.str), .lst ((E.re.map (·.1)).map D.str), .lst ((E.fa.map (·.1)).map D.str)] ⟨[some (.d (.o r)), s1, some (.d (.lst ptD)), s3, s4, none], m⟩ := by
  refine (lc_keep rfl (dk_t nm0) a0 (by show 0 < 1000000; decide) rfl).trans ?_
  refine (lc_keep rfl (dk_t nm1) a1 (by show 1 < 1000000; decide) rfl).trans ?_
  refine (lc_keep rfl (dk_t nm2) a2 (by show 2 < 1000000; decide) rfl).trans ?_
  refine (lc_skip rfl (dk_t nm3) rfl).trans ?_
  exact (lc_keep rfl (dk_t nm4) a4 (by show 3 < 1000000; decide) rfl).trans rfl
 have it : (iAnyM (eVar 2) : Sm MX (List D)) ⟨[some (.d (.o r)), s1, some (.l ptD), s3, s4, none], m⟩ = .ok ptD ⟨[some (.d (.o r)), s1, some (.d (.lst ptD)), s3, s4, none], m⟩ := rfl
 have nn : noOwn [some (.d (.o r)), s1, some (.d (.lst ptD)), s3, s4, none] [5] = true := rfl
 have w1 : wipeZ (M := MX) ⟨[some (.d (.o r)), s1, some (.d (.lst ptD)), s3, s4, none], m⟩ [5] = ⟨[some (.d (.o r)), s1, some (.d (.lst ptD)), s3, s4, none], m⟩ := rfl
 unfold lc1 eLc
 rw [it, Rs.bind_ok, if_pos nn, w1]
 refine Eq.trans (congrArg (fun R => Rs.bind R _) q) ?_
 rw [Rs.bind_ok]
 rfl
theorem dk_g {s1 s2 s3 : Option S} {x y : Str} {ps : List (Key × D)} {n : Nat} {α : Type} {g : α → D} {l : List (Str × α)} (hm : m[r]? = some (.dK ps)) (hv : valD ps (.inr x) = some (.o n)) (hn : m[n]? = some (.dK (dk g l))) : escf (eDGet1 (eDIx (eVar 0) (eVar 5)) (eVar 4) : Sm MX S) ⟨[some (.d (.o r)), s1, s2, s3, some (.d (.str y)), some (.d (.str x))], m⟩ = .ok (.d (((fnd l y).map g).getD .non)) ⟨[some (.d (.o r)), s1, s2, s3, some (.d (.str y)), some (.d (.str x))], m⟩ := by
 have q := dix_v (rho := [some (.d (.o r)), s1, s2, s3, some (.d (.str y)), some (.d (.str x))]) (i := 0) (j := 5) rfl rfl hm hv
 simp only [eDGet1, escf, opd, q, Rs.bind_ok, dictAt, rd, hn, eVar, List.getElem?_cons_succ, List.getElem?_cons_zero, keyD, Option.bind_some, escS, val_dk]
theorem lc2_ok (hr : Rol m r E) (s1 s3 : Option S) (y : Str) : lc2 ⟨[some (.d (.o r)), s1, some (.d (.lst ptD)), s3, some (.d (.str y)), none], m⟩ = .ok (.l (rowE E y)) ⟨[some (.d (.o r)), s1, some (.d (.lst ptD)), s3, some (.d (.str y)), none], m⟩ := by
 obtain ⟨n0, n1, n2, n3, n4, hm, hd, _⟩ := hr
 have a0 := dk_g (s1 := s1) (s2 := some (.d (.lst ptD))) (s3 := s3) (y := y) hm (rv0 n0 n1 n2 n3 n4) hd.h0
 have a1 := dk_g (s1 := s1) (s2 := some (.d (.lst ptD))) (s3 := s3) (y := y) hm (rv1 n0 n1 n2 n3 n4) hd.h1
 have a2 := dk_g (s1 := s1) (s2 := some (.d (.lst ptD))) (s3 := s3) (y := y) hm (rv2 n0 n1 n2 n3 n4) hd.h2
 have a3 := dk_g (s1 := s1) (s2 := some (.d (.lst ptD))) (s3 := s3) (y := y) hm (rv3 n0 n1 n2 n3 n4) hd.h3
 have a4 := dk_g (s1 := s1) (s2 := some (.d (.lst ptD))) (s3 := s3) (y := y) hm (rv4 n0 n1 n2 n3 n4) hd.h4
 have q : lcL (M := MX) (kName 5) (fun z => .ok true z) (eDGet1 (eDIx (eVar 0) (eVar 5)) (eVar 4)) [5] ptD [] ⟨[some (.d (.o r)), s1, some (.d (.lst ptD)), s3, some (.d (.str y)), none], m⟩ = .ok (rowE E y) ⟨[some (.d (.o r)), s1, some (.d (.lst ptD)), s3, some (.d (.str y)), none], m⟩ := by
  refine (lc_keep rfl rfl a0 (by show 0 < 1000000; decide) rfl).trans ?_
  refine (lc_keep rfl rfl a1 (by show 1 < 1000000; decide) rfl).trans ?_
  refine (lc_keep rfl rfl a2 (by show 2 < 1000000; decide) rfl).trans ?_
  refine (lc_keep rfl rfl a3 (by show 3 < 1000000; decide) rfl).trans ?_
  exact (lc_keep rfl rfl a4 (by show 4 < 1000000; decide) rfl).trans rfl
 have it : (iAnyM (eVar 2) : Sm MX (List D)) ⟨[some (.d (.o r)), s1, some (.d (.lst ptD)), s3, some (.d (.str y)), none], m⟩ = .ok ptD ⟨[some (.d (.o r)), s1, some (.d (.lst ptD)), s3, some (.d (.str y)), none], m⟩ := rfl
 have nn : noOwn [some (.d (.o r)), s1, some (.d (.lst ptD)), s3, some (.d (.str y)), none] [5] = true := rfl
 have w1 : wipeZ (M := MX) ⟨[some (.d (.o r)), s1, some (.d (.lst ptD)), s3, some (.d (.str y)), none], m⟩ [5] = ⟨[some (.d (.o r)), s1, some (.d (.lst ptD)), s3, some (.d (.str y)), none], m⟩ := rfl
 unfold lc2 eLc
 rw [it, Rs.bind_ok, if_pos nn, w1]
 refine Eq.trans (congrArg (fun R => Rs.bind R _) q) ?_
 rw [Rs.bind_ok]
 rfl
theorem ld_loop (hr : Rol m r E) (V1 : Option S) : ∀ (xs : List Str) (L : List D) (s4 : Option S), L.length + xs.length ≤ lim → ∃ s4', forL (M := MX) (kName 4) (sExpr (eApp 3 lc2)) (xs.map D.str) ⟨[some (.d (.o r)), V1, some (.d (.lst ptD)), some (.l L), s4, none], m⟩ = .ok .nx ⟨[some (.d (.o r)), V1, some (.d (.lst ptD)), some (.l (L ++ xs.map fun x => .lst (rowE E x))), s4', none], m⟩
 | [], L, s4, _ => ⟨s4, by rw [List.map_nil, List.map_nil, List.append_nil]; rfl⟩
 | x :: xs, L, s4, hl => by
  rw [List.length_cons] at hl
  have q := lc2_ok hr V1 (some (.l L)) x
  have b : (sExpr (eApp 3 lc2) : Sm MX Out) ⟨[some (.d (.o r)), V1, some (.d (.lst ptD)), some (.l L), some (.d (.str x)), none], m⟩ = .ok .nx ⟨[some (.d (.o r)), V1, some (.d (.lst ptD)), some (.l (L ++ [.lst (rowE E x)])), some (.d (.str x)), none], m⟩ := by
   revert q
   generalize lc2 = C
   intro q
   walk_at "z"
   rw [q]
   walk_at "z"
   rw [if_pos (by omega)]
   try rfl
  obtain ⟨t4, e⟩ := ld_loop hr V1 xs (L ++ [.lst (rowE E x)]) (some (.d (.str x))) (by rw [List.length_append, List.length_singleton]; omega)
  refine ⟨t4, ?_⟩
  rw [List.map_cons, List.map_cons, show L ++ (D.lst (rowE E x) :: xs.map fun x => D.lst (rowE E x)) = (L ++ [.lst (rowE E x)]) ++ xs.map (fun x => D.lst (rowE E x)) from by rw [List.append_assoc]; rfl, ← e]
  exact for_cons1 rfl b
theorem due_ok (hr : Rol m r E) (hE : E.cnt < 64) (n : Nat) (ev : List Str) (hl : ev.length ≤ 1000) : mir (n + 1) ._law_due [.d (.o r), .d (.lst (ev.map D.str))] m = .ok (.l (.lst ((nmsE E).map D.str) :: ev.map fun x => .lst (rowE E x))) m := by
 have e1 : (sSet 2 (eLst (aCons (escf (eC (.str "sorts"))) (aCons (escf (eC (.str "calls"))) (aCons (escf (eC (.str "rels"))) (aCons (escf (eC (.str "means"))) (aCons (escf (eC (.str "facts"))) aNil)))))) : Sm MX Out) ⟨[some (.d (.o r)), some (.d (.lst (ev.map D.str))), none, none, none, none], m⟩ = .ok .nx ⟨[some (.d (.o r)), some (.d (.lst (ev.map D.str))), some (.l ptD), none, none, none], m⟩ := rfl
 have e2 : (sSet 3 (eLst (aCons (escf (eFn fSortS (aCons (opd (eFn fSumL (aCons (opd lc1) (aCons (opd (eLst aNil)) aNil)))) aNil))) aNil)) : Sm MX Out) ⟨[some (.d (.o r)), some (.d (.lst (ev.map D.str))), some (.l ptD), none, none, none], m⟩ = .ok .nx ⟨[some (.d (.o r)), some (.d (.lst (ev.map D.str))), some (.d (.lst ptD)), some (.l [.lst ((nmsE E).map D.str)]), none, none], m⟩ := by
  have q := lc1_ok hr (some (.d (.lst (ev.map D.str)))) none none
  unfold Ent.cnt at hE
  unfold nmsE
  have l0 : (E.so.map (·.1)).length = E.so.length := List.length_map _
  have l1 : (E.ca.map (·.1)).length = E.ca.length := List.length_map _
  have l2 : (E.re.map (·.1)).length = E.re.length := List.length_map _
  have l3 : (E.fa.map (·.1)).length = E.fa.length := List.length_map _
  revert q
  generalize E.so.map (·.1) = A at *
  generalize E.ca.map (·.1) = B at *
  generalize E.re.map (·.1) = C at *
  generalize E.fa.map (·.1) = G at *
  generalize lc1 = LC
  intro q
  have fl : ([A.map D.str, B.map D.str, C.map D.str, G.map D.str] : List (List D)).flatten = (A ++ B ++ C ++ G).map D.str := by simp
  have sm : fSumL [.lst [.lst (A.map D.str), .lst (B.map D.str), .lst (C.map D.str), .lst (G.map D.str)], .lst []] = some (.l ((A ++ B ++ C ++ G).map D.str)) := by
   have le : (A ++ B ++ C ++ G).length ≤ 1000 := by simp only [List.length_append]; omega
   show (if 0 < 4 ∧ 0 + ([A.map D.str, B.map D.str, C.map D.str, G.map D.str] : List (List D)).flatten.length ≤ lim then some (R.l ([] ++ ([A.map D.str, B.map D.str, C.map D.str, G.map D.str] : List (List D)).flatten)) else none) = _
   rw [fl, if_pos ⟨by decide, by rw [List.length_map]; show _ ≤ 1000000; omega⟩, List.nil_append]
  have so := srt_D (ss := A ++ B ++ C ++ G) (by simp only [List.length_append]; omega)
  walk_at "z"
  rw [q]
  walk_at "z"
  rw [sm]
  walk_at "z"
  rw [so]
  walk_at "z"
 obtain ⟨t4, e⟩ := ld_loop hr (some (.d (.lst (ev.map D.str)))) ev [.lst ((nmsE E).map D.str)] none (by show 1 + _ ≤ 1000000; omega)
 have e3 : (sFor (iAnyM (eVar 1)) (kName 4) (sExpr (eApp 3 lc2)) : Sm MX Out) ⟨[some (.d (.o r)), some (.d (.lst (ev.map D.str))), some (.d (.lst ptD)), some (.l [.lst ((nmsE E).map D.str)]), none, none], m⟩ = .ok .nx ⟨[some (.d (.o r)), some (.d (.lst (ev.map D.str))), some (.d (.lst ptD)), some (.l ([.lst ((nmsE E).map D.str)] ++ ev.map fun x => .lst (rowE E x))), t4, none], m⟩ := e
 have e4 : (sRet (eVar 3) : Sm MX Out) ⟨[some (.d (.o r)), some (.d (.lst (ev.map D.str))), some (.d (.lst ptD)), some (.l ([.lst ((nmsE E).map D.str)] ++ ev.map fun x => .lst (rowE E x))), t4, none], m⟩ = .ok (.rt (.l ([.lst ((nmsE E).map D.str)] ++ ev.map fun x => .lst (rowE E x)))) ⟨[some (.d (.o r)), some (.d (.lst (ev.map D.str))), some (.d (.lst ptD)), some (.l ([.lst ((nmsE E).map D.str)] ++ ev.map fun x => .lst (rowE E x))), t4, none], m⟩ := rfl
 show fnM 6 (m__law_due (mir n)) _ _ = _
 rw [fnM_R]
 exact (congrArg fnR ((seq_nx e1).trans ((seq_nx e2).trans ((seq_nx e3).trans e4)))).trans rfl
end
mutual
theorem lay_E : ∀ d : D, lay d = true → layE d = true ∧ toPyE d = toPy d
 | .tup xs, h => by
  rw [lay] at h
  have ⟨a, b⟩ := lays_E xs h
  rw [layE, toPyE, toPy, b]
  exact ⟨a, rfl⟩
 | .lst xs, h => by
  rw [lay] at h
  have ⟨a, b⟩ := lays_E xs h
  rw [layE, toPyE, toPy, b]
  exact ⟨a, rfl⟩
 | .non, _ => ⟨by simp [layE], by simp [toPyE, toPy]⟩
 | .bl _, _ => ⟨by simp [layE], by simp [toPyE, toPy]⟩
 | .int _, _ => ⟨by simp [layE], by simp [toPyE, toPy]⟩
 | .str _, _ => ⟨by simp [layE], by simp [toPyE, toPy]⟩
 | .scr _, _ => ⟨by simp [layE], by simp [toPyE, toPy]⟩
 | .emp, h => by rw [lay] at h; cases h
 | .exc _ _, h => by rw [lay] at h; cases h
 | .o _, h => by rw [lay] at h; cases h
theorem lays_E : ∀ xs : List D, lays xs = true → layEs xs = true ∧ toPyEs xs = toPys xs
 | [], _ => ⟨by rw [layEs], by rw [toPyEs, toPys]⟩
 | x :: r, h => by
  rw [lays, Bool.and_eq_true] at h
  have ⟨a, b⟩ := lay_E x h.1
  have ⟨c, d⟩ := lays_E r h.2
  rw [layEs, toPyEs, toPys, a, b, c, d]
  exact ⟨rfl, rfl⟩
end
theorem showE_of {d : D} (h : showOk d = true) : showOkE d = true := by
 unfold showOk at h
 rw [Bool.and_eq_true, Bool.and_eq_true, Bool.and_eq_true] at h
 obtain ⟨h1, h2, h3, h4⟩ := h
 obtain ⟨e1, e2⟩ := lay_E d h1
 unfold showOkE shwE
 rw [e1, e2, h2, depth_toPy, h3, Bool.true_and, Bool.true_and, Bool.true_and]
 exact h4
theorem wtN_lst (ds : List D) : wtN (.lst ds) = wtsN ds := by unfold wtN wtsN; rw [toPy, PyData.weight]
theorem tm_lst {d p w : Nat} {xs : List D} (h : Tms d p w xs) : Tm (d + 1) (p + 1) w (.lst xs) :=
 ⟨by rw [lay]; exact h.la, by rw [okD]; exact h.ok, by rw [G.ib]; exact h.ib, by rw [dep]; have := h.dp; omega, by rw [psz]; omega; all_goals (intros; simp_all), by rw [wtN_lst]; exact h.wt⟩
theorem tm_non : Tm 0 0 10 .non := ⟨by simp [lay], by simp [okD], by simp [G.ib], by simp [dep], by simp [psz], by decide +kernel⟩
theorem tm_ar {as : List Str} {N : Nat} (h : ∀ a ∈ as, nmOk a) (hl : as.length ≤ N) : Tm 1 1 (N * 11) (arD as) := by
 have := tms_all (d := 0) (p := 0) (w := 10) (xs := as.map D.str) (fun x hx => by
  obtain ⟨a, ha, rfl⟩ := List.mem_map.mp hx
  exact tm_str (h a ha))
 rw [List.length_map] at this
 refine (tm_tup this).mono (Nat.le_refl _) (by omega) (Nat.mul_le_mul_right _ hl)
section
variable {E : Ent}
theorem row_tm (h : EOk' E 40) (x : Str) : Tm 12 4000 17300 (.lst (rowE E x)) := by
 have a0 : Tm 11 647 440 (((fnd E.so x).map arD).getD .non) := by
  cases e : fnd E.so x with
  | none => exact tm_non.mono (by omega) (by omega) (by omega)
  | some v =>
   have q := fnd_mem e
   exact (tm_ar (h.so _ q).2 (h.sl _ q)).mono (by omega) (by omega) (by omega)
 have a1 : Tm 11 647 100 (((fnd E.ca x).map sgD).getD .non) := by
  cases e : fnd E.ca x with
  | none => exact tm_non.mono (by omega) (by omega) (by omega)
  | some v =>
   obtain ⟨_, q2, q3, q4⟩ := h.ca _ (fnd_mem e)
   exact (tm_tup (tms_cons (tm_ar q3 q2) (tms_cons (tm_str q4) tms_nil))).mono (by omega) (by omega) (by omega)
 have a2 : Tm 11 647 33 (((fnd E.re x).map arD).getD .non) := by
  cases e : fnd E.re x with
  | none => exact tm_non.mono (by omega) (by omega) (by omega)
  | some v =>
   obtain ⟨_, q2, q3⟩ := h.re _ (fnd_mem e)
   exact (tm_ar q3 q2).mono (by omega) (by omega) (by omega)
 have a3 : Tm 11 647 5500 (((fnd E.me x).map id).getD .non) := by
  cases e : fnd E.me x with
  | none => exact tm_non.mono (by omega) (by omega) (by omega)
  | some v => exact (h.me _ (fnd_mem e)).mono (by omega) (by omega) (by omega)
 have a4 : Tm 11 647 11100 (((fnd E.fa x).map id).getD .non) := by
  cases e : fnd E.fa x with
  | none => exact tm_non.mono (by omega) (by omega) (by omega)
  | some v => exact (h.fa _ (fnd_mem e)).2.mono (by omega) (by omega) (by omega)
 exact (tm_lst (tms_cons a0 (tms_cons a1 (tms_cons a2 (tms_cons a3 (tms_cons a4 tms_nil)))))).mono (by omega) (by omega) (by omega)
theorem nms_ok (h : EOk' E 40) : (∀ s ∈ nmsE E, nmOk s) ∧ (nmsE E).length ≤ 40 := by
 have nn := h.nn
 unfold Ent.cnt at nn
 unfold nmsE
 constructor
 ·intro s hs
  rw [srt_mem] at hs
  simp only [List.mem_append, List.mem_map] at hs
  rcases hs with ((⟨p, hp, rfl⟩ | ⟨p, hp, rfl⟩) | ⟨p, hp, rfl⟩) | ⟨p, hp, rfl⟩
  ·exact (h.so p hp).1
  ·exact (h.ca p hp).1
  ·exact (h.re p hp).1
  ·exact (h.fa p hp).1
 ·rw [(srt_perm _).length_eq]
  simp only [List.length_append, List.length_map]
  omega
theorem told_show (h : EOk' E 40) (ev : List Str) (hl : ev.length ≤ 42) : showOkE (.lst (.lst ((nmsE E).map D.str) :: ev.map fun x => .lst (rowE E x))) = true := by
 obtain ⟨n1, n2⟩ := nms_ok h
 have a := tms_all (d := 0) (p := 0) (w := 10) (xs := (nmsE E).map D.str) (fun x hx => by
  obtain ⟨a, ha, rfl⟩ := List.mem_map.mp hx
  exact tm_str (n1 a ha))
 rw [List.length_map] at a
 have b := tms_all (d := 12) (p := 4000) (w := 17300) (xs := ev.map fun x => D.lst (rowE E x)) (fun x hx => by
  obtain ⟨a, _, rfl⟩ := List.mem_map.mp hx
  exact row_tm h a)
 rw [List.length_map] at b
 have t := tm_lst (tms_cons (tm_lst a) b)
 have w1 : (nmsE E).length * (10 + 1) ≤ 40 * 11 := Nat.mul_le_mul_right _ n2
 have w2 : ev.length * (17300 + 1) ≤ 42 * 17301 := Nat.mul_le_mul_right _ hl
 exact showE_of (showOk_of t.la t.ib (Nat.le_trans t.dp (by omega)) (Nat.le_trans t.wt (by omega)))
theorem rep_due (h : EOk' E 40) (ev : List Str) (hl : ev.length ≤ 42) : fReprT [.lst (.lst ((nmsE E).map D.str) :: ev.map fun x => .lst (rowE E x))] = some (.d (.str (shwE (.lst (.lst ((nmsE E).map D.str) :: ev.map fun x => .lst (rowE E x)))))) := by
 have q := told_show h ev hl
 generalize (D.lst ((nmsE E).map D.str) :: ev.map fun x => D.lst (rowE E x)) = xs at q ⊢
 show (if showOkE (.lst xs) = true then some (R.d (.str (shwE (.lst xs)))) else none) = _
 rw [if_pos q]
theorem rep_all (h : EOk' E 40) (ev : List Str) (hl : ev.length ≤ 42) {rho : List (Option S)} {m : List MO} {i k : Nat} (hi : rho[i]? = some (some (.l (.o k :: ev.map fun x => .lst (rowE E x))))) (hm : m[k]? = some (.lst ((nmsE E).map D.str))) : (eReprO (aCons (opd (eVar i)) aNil) : Sm MX S) ⟨rho, m⟩ = .ok (.d (.str (shwE (.lst (.lst ((nmsE E).map D.str) :: ev.map fun x => .lst (rowE E x)))))) ⟨rho, m⟩ := by
 have q := told_show h ev hl
 simp only [eReprO, aCons, opd, eVar, hi, Rs.bind_ok, kA, aNil, rd, hm]
 rw [if_pos q]
end
theorem for_all {kk : D → Z (List MO) → Option (Z (List MO))} {b : Sm MX Out} {N : Nat} (Inv : Nat → Z (List MO) → Prop) : ∀ (ds : List D) (i : Nat) (z : Z (List MO)), (∀ d ∈ ds, ∀ i z, i < N → Inv i z → ∃ z1 z2, kk d z = some z1 ∧ b z1 = .ok .nx z2 ∧ Inv (i + 1) z2) → i + ds.length = N → Inv i z → ∃ z', forL (M := MX) kk b ds z = .ok .nx z' ∧ Inv N z'
 | [], i, z, _, h, hi => ⟨z, rfl, by rw [List.length_nil, Nat.add_zero] at h; rw [← h]; exact hi⟩
 | d :: r, i, z, step, h, hi => by
  rw [List.length_cons] at h
  obtain ⟨z1, z2, e1, e2, i2⟩ := step d List.mem_cons_self i z (by omega) hi
  obtain ⟨z', e, i3⟩ := for_all Inv r (i + 1) z2 (fun x hx => step x (List.mem_cons_of_mem _ hx)) (by omega) i2
  refine ⟨z', ?_, i3⟩
  conv => lhs; unfold forL
  simp only [e1]
  rw [e2]
  exact e
theorem for_brk {kk : D → Z (List MO) → Option (Z (List MO))} {b : Sm MX Out} {N : Nat} (Inv : Nat → Z (List MO) → Prop) (Fin : Z (List MO) → Prop) : ∀ (ds : List D) (i : Nat) (z : Z (List MO)), (∀ d ∈ ds, ∀ i z, i < N → Inv i z → ∃ z1 z2, kk d z = some z1 ∧ ((b z1 = .ok .nx z2 ∧ Inv (i + 1) z2) ∨ (b z1 = .ok .bk z2 ∧ Fin z2))) → i + ds.length = N → Inv i z → ∃ z', forL (M := MX) kk b ds z = .ok .nx z' ∧ (Inv N z' ∨ Fin z')
 | [], i, z, _, h, hi => ⟨z, rfl, by rw [List.length_nil, Nat.add_zero] at h; rw [← h]; exact .inl hi⟩
 | d :: r, i, z, step, h, hi => by
  rw [List.length_cons] at h
  obtain ⟨z1, z2, e1, e2⟩ := step d List.mem_cons_self i z (by omega) hi
  rcases e2 with ⟨e2, i2⟩ | ⟨e2, i2⟩
  ·obtain ⟨z', e, i3⟩ := for_brk Inv Fin r (i + 1) z2 (fun x hx => step x (List.mem_cons_of_mem _ hx)) (by omega) i2
   refine ⟨z', ?_, i3⟩
   conv => lhs; unfold forL
   simp only [e1]
   rw [e2]
   exact e
  ·refine ⟨z2, ?_, .inr i2⟩
   conv => lhs; unfold forL
   simp only [e1]
   rw [e2]
   rfl
theorem E0_ok : EOk' E0 0 := ⟨fun p h => (List.not_mem_nil h).elim, fun p h => (List.not_mem_nil h).elim, fun p h => (List.not_mem_nil h).elim, Nat.le_refl _, E0_big 0, fun p h => (List.not_mem_nil h).elim, fun p h => (List.not_mem_nil h).elim, fun p h => (List.not_mem_nil h).elim⟩
structure LI (cs : List Int) (i r k : Nat) (E : Ent) (nm : List Str) (m : List MO) : Prop where
  dr : ∃ a, Dr m a cs ∧ a ≤ 200 + 5000 * i
  l3 : 3 ≤ m.length
  rol : Rol m r E
  kno : Kno m k E
  ok : EOk' E (40 - nm.length)
  ns : NS m nm
  nok : ∀ s ∈ nm, nmOk s
  len : nm.length ≤ 40
  so : 0 < i → E.so ≠ []
theorem putL_ne {α : Type} (l : List (Str × α)) (k : Str) (v : α) : putL l k v ≠ [] := by
 unfold putL
 split
 ·rename_i h
  intro e
  have := List.map_eq_nil_iff.mp e
  subst this
  cases h
 ·simp
theorem addE_so {E : Ent} {e : En} (h : E.so = [] → ∃ nm ms, e = .sort nm ms) : (addE E e).so ≠ [] := by
 cases e with
 | sort nm ms => exact putL_ne _ _ _
 | func nm as s =>
  intro q
  obtain ⟨_, _, h⟩ := h q
  cases h
 | rel nm as =>
  intro q
  obtain ⟨_, _, h⟩ := h q
  cases h
 | mean nm as d =>
  intro q
  obtain ⟨_, _, h⟩ := h q
  cases h
 | taken nm d =>
  intro q
  obtain ⟨_, _, h⟩ := h q
  cases h
theorem LI.draw {cs : List Int} {i r k : Nat} {E : Ent} {nm : List Str} {m : List MO} (h : LI cs i r k E nm m) (hi : i ≤ 14) (hl : 8 ≤ nm.length) (n : Nat) : ∃ (e : En) (m1 m2 m3 : List MO) (r' k' : Nat) (nm' : List Str), mir (n + 10) ._law_entry [.d (.o 0), .d (.o r), .d (.o 2)] m = .ok (.d (enD e)) m1 ∧ mir (n + 10) ._law_with [.d (.o r), .d (enD e)] m1 = .ok (.d (.o r')) m2 ∧ Kno m2 k E ∧ mir (n + 10) .Known_with_entry [.d (.o k), .d (enD e)] m2 = .ok (.d (.o k')) m3 ∧ LI cs (i + 1) r' k' (addE E e) nm' m3 ∧ (∀ r E, Rol m r E → Rol m3 r E) ∧ (∀ k E, Kno m k E → Kno m3 k E) := by
 obtain ⟨a, hd, ha⟩ := h.dr
 have hdl : drLim = 1000000000000000000 := rfl
 have hlen := h.len
 obtain ⟨e, m1, nm', e1, he, d1, n1, nk1, l1, s1⟩ := entry_ok n (h.ok.ok (by omega)) h.rol (⟨a, hd, Nat.le_refl _, Fr.refl _ _⟩ : DS 3 cs m a m) h.ns h.nok hl (by omega) (by omega)
 obtain ⟨a1, hd1, ha1, f1⟩ := d1
 have r1 := rol_fr h.rol f1
 have k1 := kno_fr h.kno f1
 have hl3 := h.l3
 have l3 : 3 ≤ m1.length := by rw [f1.1]; exact hl3
 have ew : 1 ≤ e.w := by cases e <;> simp [En.w]
 have hB : 40 - nm.length + e.w < lim := by show _ < 1000000; omega
 obtain ⟨x1, e2, r2⟩ := with_eq (c := mir (n + 9)) m1 r _ E e l3 r1 h.ok.bg hB
 have k2 : Kno (m1 ++ x1) k E := kno_app k1
 obtain ⟨x2, e3, k3⟩ := we_mir (n + 6) (m1 ++ x1) k _ E e (by rw [List.length_append]; omega) k2 h.ok.bg hB
 have hadd := h.ok.add he
 refine ⟨e, m1, m1 ++ x1, m1 ++ x1 ++ x2, m1.length + 5, (m1 ++ x1).length, nm', e1, e2, k2, e3, ?_, fun r E q => rol_app (rol_app (rol_fr q f1)), fun k E q => kno_app (kno_app (kno_fr q f1))⟩
 refine ⟨⟨a1, (hd1.app x1).app x2, by omega⟩, by rw [List.length_append, List.length_append]; omega, rol_app r2, k3, ?_, ?_, nk1, by omega, fun _ => addE_so s1⟩
 ·rw [show 40 - nm'.length = 40 - nm.length + e.w from by omega]
  exact hadd
 ·exact gP (gP n1)
theorem len_o {z : Z (List MO)} {nm : List Str} {s0 s1 : Option S} {t : List (Option S)} (hz : z.rho = s0 :: s1 :: some (.d (.o 2)) :: t) (h : NS z.m nm) : (eFnO fLen (aCons (opd (eVar 2)) aNil) : Sm MX S) z = .ok (.d (.int (nm.length : Nat))) z := by
 have h : z.m[2]? = some (.lst (nm.map D.str)) := h
 obtain ⟨rho, m⟩ := z
 have hz : rho = _ := hz
 subst hz
 have h : m[2]? = some (.lst (nm.map D.str)) := h
 unfold eFnO aCons kA opd aNil
 simp only [eVar, List.getElem?_cons_succ, List.getElem?_cons_zero, Rs.bind_ok, rdsO, rdO, listAt, rd, h, Option.bind_some, fin, fLen, R.toS, List.length_map]
theorem EOk'.mono {E : Ent} {B C : Nat} (h : EOk' E B) (hb : B ≤ C) : EOk' E C := by
 obtain ⟨b0, b1, b2, b3, b4⟩ := h.bg
 exact ⟨h.so, h.ca, h.re, Nat.le_trans h.nn hb, ⟨by omega, by omega, by omega, by omega, by omega⟩, fun p hp => Nat.le_trans (h.sl p hp) hb, h.me, h.fa⟩
theorem atI_m1 {α : Type} (xs : List α) (x : α) : atI (xs ++ [x]) (-1) = some x := by
 unfold atI ixN
 rw [List.length_append, List.length_singleton]
 rw [if_neg (by omega), if_pos (by omega)]
 have e : (-1 + ((xs.length + 1 : Nat) : Int)).toNat = xs.length := by omega
 show (xs ++ [x])[(-1 + ((xs.length + 1 : Nat) : Int)).toNat]? = _
 rw [e, List.getElem?_append_right (Nat.le_refl _), Nat.sub_self]
 rfl
theorem last_ix (xs : List D) (y : D) : dIx (.lst (xs ++ [y])) (.int (-1)) = some (.d y) := by
 show (atI (xs ++ [y]) (-1)).map R.d = _
 rw [atI_m1]
 rfl
noncomputable abbrev Tr := Nat × Nat × Ent
noncomputable abbrev rsD (ts : List Tr) : List D := ts.map fun t => .o t.1
noncomputable abbrev ksD (ts : List Tr) : List D := ts.map fun t => .o t.2.1
noncomputable def TOk (m : List MO) (ts : List Tr) : Prop := ∀ t ∈ ts, Rol m t.1 t.2.2 ∧ Kno m t.2.1 t.2.2 ∧ EOk' t.2.2 40
noncomputable def lq0 (call : CF) : Sm MX Out := (sSet 7 (eCall (call ._law_entry) (aCons (escf (eVar 1)) (aCons (escf (eBin dIx (eVar 4) (eUn dNeg (eC (.int 1))))) (aCons (escf (eVar 2)) aNil)))))
noncomputable def lq1 (call : CF) : Sm MX Out := (sExpr (eApp 4 (eCall (call ._law_with) (aCons (escf (eBin dIx (eVar 4) (eUn dNeg (eC (.int 1))))) (aCons (escf (eVar 7)) aNil)))))
noncomputable def lq2 (call : CF) : Sm MX Out := (sExpr (eApp 5 (eCall (call .Known_with_entry) (aMeth "Known" "with_entry" (eBin dIx (eVar 5) (eUn dNeg (eC (.int 1)))) (aCons (escf (eVar 7)) aNil)))))
noncomputable def lq3 (call : CF) : Sm MX Out := (sIf (tOf (eBin dLt (eFnO fLen (aCons (opd (eVar 2)) aNil)) (eC (.int 8)))) (fun z => .ok .bk z) sNil)
noncomputable def lqB (call : CF) : Sm MX Out := sSeq (lq0 call) (sSeq (lq1 call) (sSeq (lq2 call) (lq3 call)))
section
variable {ns : List Int} {i r k r' k' : Nat} {E : Ent} {nm : List Str} {m m1 m2 m3 : List MO} {e : En} {c : CF} {s3 s4 s5 s6 s7 s8 s9 s10 s11 : Option S} {xs : List D}
theorem lq0_ok (e1 : c ._law_entry [.d (.o 0), .d (.o r), .d (.o 2)] m = .ok (.d (enD e)) m1) : lq0 c ⟨[some (.d (.scr ns)), some (.d (.o 0)), some (.d (.o 2)), s3, some (.l (xs ++ [.o r])), s5, s6, s7, s8, s9, s10, s11], m⟩ = .ok .nx ⟨[some (.d (.scr ns)), some (.d (.o 0)), some (.d (.o 2)), s3, some (.l (xs ++ [.o r])), s5, s6, some (.d (enD e)), s8, s9, s10, s11], m1⟩ := by
 have q := last_ix xs (.o r)
 unfold lq0
 walk_at "z"
 rw [q]
 walk_at "z"
 rw [e1]
 walk_at "z"
theorem lq1_ok (hl : xs.length < 100) (e1 : c ._law_with [.d (.o r), .d (enD e)] m = .ok (.d (.o r')) m1) : lq1 c ⟨[some (.d (.scr ns)), some (.d (.o 0)), some (.d (.o 2)), s3, some (.l (xs ++ [.o r])), s5, s6, some (.d (enD e)), s8, s9, s10, s11], m⟩ = .ok .nx ⟨[some (.d (.scr ns)), some (.d (.o 0)), some (.d (.o 2)), s3, some (.l (xs ++ [.o r] ++ [.o r'])), s5, s6, some (.d (enD e)), s8, s9, s10, s11], m1⟩ := by
 have q := last_ix xs (.o r)
 unfold lq1
 walk_at "z"
 rw [q]
 walk_at "z"
 rw [e1]
 walk_at "z"
 rw [if_pos (by rw [List.length_append]; show xs.length + 1 < 1000000; omega)]
 try rfl
theorem lq2_ok (hl : xs.length < 100) (hk : Kno m k E) (e1 : c .Known_with_entry [.d (.o k), .d (enD e)] m = .ok (.d (.o k')) m1) : lq2 c ⟨[some (.d (.scr ns)), some (.d (.o 0)), some (.d (.o 2)), s3, s4, some (.l (xs ++ [.o k])), s6, some (.d (enD e)), s8, s9, s10, s11], m⟩ = .ok .nx ⟨[some (.d (.scr ns)), some (.d (.o 0)), some (.d (.o 2)), s3, s4, some (.l (xs ++ [.o k] ++ [.o k'])), s6, some (.d (enD e)), s8, s9, s10, s11], m1⟩ := by
 have q := last_ix xs (.o k)
 have v : (eBin dIx (eVar 5) (eUn dNeg (eC (.int 1))) : Sm MX S) ⟨[some (.d (.scr ns)), some (.d (.o 0)), some (.d (.o 2)), s3, s4, some (.l (xs ++ [.o k])), s6, some (.d (enD e)), s8, s9, s10, s11], m⟩ = .ok (.d (.o k)) ⟨[some (.d (.scr ns)), some (.d (.o 0)), some (.d (.o 2)), s3, s4, some (.l (xs ++ [.o k])), s6, some (.d (enD e)), s8, s9, s10, s11], m⟩ := by
  walk_at "z"
  rw [q]
  walk_at "z"
 have g : (aCons (escf (eVar 7)) aNil : Sm MX (List S)) ⟨[some (.d (.scr ns)), some (.d (.o 0)), some (.d (.o 2)), s3, s4, some (.l (xs ++ [.o k])), s6, some (.d (enD e)), s8, s9, s10, s11], m⟩ = .ok [.d (enD e)] ⟨[some (.d (.scr ns)), some (.d (.o 0)), some (.d (.o 2)), s3, s4, some (.l (xs ++ [.o k])), s6, some (.d (enD e)), s8, s9, s10, s11], m⟩ := rfl
 have ok : ([.d (enD e)] : List S).all okArg = true := rfl
 have w : (eCall (c .Known_with_entry) (aMeth "Known" "with_entry" (eBin dIx (eVar 5) (eUn dNeg (eC (.int 1)))) (aCons (escf (eVar 7)) aNil)) : Sm MX S) ⟨[some (.d (.scr ns)), some (.d (.o 0)), some (.d (.o 2)), s3, s4, some (.l (xs ++ [.o k])), s6, some (.d (enD e)), s8, s9, s10, s11], m⟩ = .ok (.d (.o k')) ⟨[some (.d (.scr ns)), some (.d (.o 0)), some (.d (.o 2)), s3, s4, some (.l (xs ++ [.o k])), s6, some (.d (enD e)), s8, s9, s10, s11], m1⟩ := meth_g v hk lM_we g ok e1
 unfold lq2
 revert w
 generalize (eCall (c .Known_with_entry) (aMeth "Known" "with_entry" (eBin dIx (eVar 5) (eUn dNeg (eC (.int 1)))) (aCons (escf (eVar 7)) aNil)) : Sm MX S) = F
 intro w
 walk_at "z"
 rw [w]
 walk_at "z"
 rw [if_pos (by rw [List.length_append]; show xs.length + 1 < 1000000; omega)]
 try rfl
theorem lq3_ok (h : NS m nm) : lq3 c ⟨[some (.d (.scr ns)), some (.d (.o 0)), some (.d (.o 2)), s3, s4, s5, s6, s7, s8, s9, s10, s11], m⟩ = .ok (if nm.length < 8 then .bk else .nx) ⟨[some (.d (.scr ns)), some (.d (.o 0)), some (.d (.o 2)), s3, s4, s5, s6, s7, s8, s9, s10, s11], m⟩ := by
 have q := len_o (z := ⟨[some (.d (.scr ns)), some (.d (.o 0)), some (.d (.o 2)), s3, s4, s5, s6, s7, s8, s9, s10, s11], m⟩) (nm := nm) rfl h
 unfold lq3
 walk_at "z"
 rw [q]
 walk_at "z"
 by_cases hl : nm.length < 8
 ·rw [decide_eq_true (by omega), if_pos hl]
  walk_at "z"
 ·rw [decide_eq_false (by omega), if_neg hl]
  walk_at "z"
end
theorem turn_ok {ns cs : List Int} {i r k : Nat} {E : Ent} {nm : List Str} {m : List MO} {ts : List Tr} (h : LI cs i r k E nm m) (hi : i ≤ 14) (hl : 8 ≤ nm.length) (ht : TOk m (ts ++ [(r, k, E)])) (hlen : ts.length < 100) (n : Nat) (s3 s6 s7 s8 s9 s10 s11 : Option S) : ∃ (r' k' : Nat) (E' : Ent) (nm' : List Str) (m' : List MO) (s7' : Option S), lqB (mir (n + 10)) ⟨[some (.d (.scr ns)), some (.d (.o 0)), some (.d (.o 2)), s3, some (.l (rsD (ts ++ [(r, k, E)]))), some (.l (ksD (ts ++ [(r, k, E)]))), s6, s7, s8, s9, s10, s11], m⟩ = .ok (if nm'.length < 8 then .bk else .nx) ⟨[some (.d (.scr ns)), some (.d (.o 0)), some (.d (.o 2)), s3, some (.l (rsD (ts ++ [(r, k, E)] ++ [(r', k', E')]))), some (.l (ksD (ts ++ [(r, k, E)] ++ [(r', k', E')]))), s6, s7', s8, s9, s10, s11], m'⟩ ∧ LI cs (i + 1) r' k' E' nm' m' ∧ TOk m' (ts ++ [(r, k, E)] ++ [(r', k', E')]) := by
 obtain ⟨e, m1, m2, m3, r', k', nm', q1, q2, q3, q4, hI, hr, hk⟩ := h.draw hi hl n
 have b0 := lq0_ok (ns := ns) (xs := rsD ts) (s3 := s3) (s5 := some (.l (ksD ts ++ [.o k]))) (s6 := s6) (s7 := s7) (s8 := s8) (s9 := s9) (s10 := s10) (s11 := s11) q1
 have b1 := lq1_ok (ns := ns) (xs := rsD ts) (s3 := s3) (s5 := some (.l (ksD ts ++ [.o k]))) (s6 := s6) (s8 := s8) (s9 := s9) (s10 := s10) (s11 := s11) (by rw [List.length_map]; exact hlen) q2
 have b2 := lq2_ok (ns := ns) (xs := ksD ts) (s3 := s3) (s4 := some (.l (rsD ts ++ [.o r] ++ [.o r']))) (s6 := s6) (s8 := s8) (s9 := s9) (s10 := s10) (s11 := s11) (by rw [List.length_map]; exact hlen) q3 q4
 have b3 := lq3_ok (c := mir (n + 10)) (ns := ns) (s3 := s3) (s4 := some (.l (rsD ts ++ [.o r] ++ [.o r']))) (s5 := some (.l (ksD ts ++ [.o k] ++ [.o k']))) (s6 := s6) (s7 := some (.d (enD e))) (s8 := s8) (s9 := s9) (s10 := s10) (s11 := s11) hI.ns
 have hb := (seq_nx b0).trans ((seq_nx b1).trans ((seq_nx b2).trans b3))
 refine ⟨r', k', addE E e, nm', m3, some (.d (enD e)), ?_, hI, ?_⟩
 ·rw [show rsD (ts ++ [(r, k, E)]) = rsD ts ++ [.o r] from List.map_append, show ksD (ts ++ [(r, k, E)]) = ksD ts ++ [.o k] from List.map_append, show rsD (ts ++ [(r, k, E)] ++ [(r', k', addE E e)]) = rsD ts ++ [.o r] ++ [.o r'] from by unfold rsD; rw [List.map_append, List.map_append]; rfl, show ksD (ts ++ [(r, k, E)] ++ [(r', k', addE E e)]) = ksD ts ++ [.o k] ++ [.o k'] from by unfold ksD; rw [List.map_append, List.map_append]; rfl]
  exact hb
 ·intro t hm
  rcases List.mem_append.mp hm with hm | hm
  ·obtain ⟨a, b, c⟩ := ht t hm
   exact ⟨hr _ _ a, hk _ _ b, c⟩
  ·rw [List.mem_singleton] at hm
   subst hm
   exact ⟨hI.rol, hI.kno, hI.ok.mono (by omega)⟩
theorem ents_gen {ns cs : List Int} (n : Nat) {r k : Nat} {nm : List Str} {m : List MO} (h : LI cs 0 r k E0 nm m) (hl : 8 ≤ nm.length) (s3 s8 s9 s10 s11 : Option S) (N : Nat) (hN : N ≤ 14) : ∃ (ts : List Tr) (m' : List MO) (s6 s7 : Option S), forL (M := MX) (kName 6) (lqB (mir (n + 10))) (rangeD 0 N) ⟨[some (.d (.scr ns)), some (.d (.o 0)), some (.d (.o 2)), s3, some (.l [.o r]), some (.l [.o k]), none, none, s8, s9, s10, s11], m⟩ = .ok .nx ⟨[some (.d (.scr ns)), some (.d (.o 0)), some (.d (.o 2)), s3, some (.l (rsD ts)), some (.l (ksD ts)), s6, s7, s8, s9, s10, s11], m'⟩ ∧ TOk m' ts ∧ ts.length ≤ 20 := by
 have t0 : TOk m ([] ++ [(r, k, E0)]) := fun t hm => by
  rw [List.nil_append, List.mem_singleton] at hm
  subst hm
  exact ⟨h.rol, h.kno, E0_ok.mono (by omega)⟩
 obtain ⟨z', e, hq⟩ := for_brk (kk := kName (M := MX) 6) (b := lqB (mir (n + 10))) (N := N) (fun i z => ∃ ts r k E nm m s6 s7, LI cs i r k E nm m ∧ 8 ≤ nm.length ∧ TOk m (ts ++ [(r, k, E)]) ∧ ts.length = i ∧ z = ⟨[some (.d (.scr ns)), some (.d (.o 0)), some (.d (.o 2)), s3, some (.l (rsD (ts ++ [(r, k, E)]))), some (.l (ksD (ts ++ [(r, k, E)]))), s6, s7, s8, s9, s10, s11], m⟩) (fun z => ∃ ts m s6 s7, TOk m ts ∧ ts.length ≤ 20 ∧ z = ⟨[some (.d (.scr ns)), some (.d (.o 0)), some (.d (.o 2)), s3, some (.l (rsD ts)), some (.l (ksD ts)), s6, s7, s8, s9, s10, s11], m⟩) (rangeD 0 N) 0 ⟨[some (.d (.scr ns)), some (.d (.o 0)), some (.d (.o 2)), s3, some (.l [.o r]), some (.l [.o k]), none, none, s8, s9, s10, s11], m⟩ (fun d hd i z hi ⟨ts, r, k, E, nm, m, s6, s7, hI, hl, ht, hn, hz⟩ => by
  subst hz
  obtain ⟨r', k', E', nm', m', s7', hb, hI', ht'⟩ := turn_ok (ns := ns) hI (by omega) hl ht (by omega) n s3 (some (.d d)) s7 s8 s9 s10 s11
  refine ⟨⟨[some (.d (.scr ns)), some (.d (.o 0)), some (.d (.o 2)), s3, some (.l (rsD (ts ++ [(r, k, E)]))), some (.l (ksD (ts ++ [(r, k, E)]))), some (.d d), s7, s8, s9, s10, s11], m⟩, ⟨[some (.d (.scr ns)), some (.d (.o 0)), some (.d (.o 2)), s3, some (.l (rsD (ts ++ [(r, k, E)] ++ [(r', k', E')]))), some (.l (ksD (ts ++ [(r, k, E)] ++ [(r', k', E')]))), some (.d d), s7', s8, s9, s10, s11], m'⟩, rfl, ?_⟩
  by_cases h8 : nm'.length < 8
  ·rw [if_pos h8] at hb
   exact .inr ⟨hb, _, m', _, _, ht', by rw [List.length_append, List.length_append]; show ts.length + 1 + 1 ≤ 20; omega, rfl⟩
  ·rw [if_neg h8] at hb
   exact .inl ⟨hb, _, r', k', E', nm', m', _, _, hI', by omega, ht', by rw [List.length_append]; show ts.length + 1 = i + 1; omega, rfl⟩) (by rw [range_len]; omega) ⟨[], r, k, E0, nm, m, _, _, h, hl, t0, rfl, rfl⟩
 rcases hq with ⟨ts, r, k, E, nm, m', s6, s7, _, _, ht, hn, rfl⟩ | ⟨ts, m', s6, s7, ht, hn, rfl⟩
 ·exact ⟨_, m', s6, s7, e, ht, by rw [List.length_append]; show ts.length + 1 ≤ 20; omega⟩
 ·exact ⟨_, m', s6, s7, e, ht, hn⟩
noncomputable def ll0 (call : CF) : Sm MX Out := (sSet 11 (eCall (call ._law_all) (aCons (escf (eVar 8)) (aCons (escf (eVar 3)) aNil))))
noncomputable def ll1 (call : CF) : Sm MX Out := (sIf (tOf (eBin (dEqT true) (eReprO (aCons (opd (eVar 11)) aNil)) (eFn fReprT (aCons (opd (eCall (call ._law_due) (aCons (escf (eVar 9)) (aCons (escf (eVar 3)) aNil)))) aNil)))) (sRet (eC (.bl false))) sNil)
noncomputable def ll2 : Sm MX Out := (sExpr (eAppO (eBin dIx (eVar 11) (eC (.int 0))) (eC (.str "more"))))
noncomputable def llB (call : CF) : Sm MX Out := sSeq (ll0 call) (sSeq (ll1 call) ll2)
noncomputable def llF (call : CF) : Sm MX Out := sFor (iRg1M (aCons (opd (eC (.int 2))) aNil)) (kName 10) (llB call)
section
variable {ns : List Int} {r k : Nat} {E : Ent} {m m1 : List MO} {ev : List Str} {c : CF} {s3 s4 s5 s6 s7 s10 s11 : Option S}
theorem ll0_ok (h3 : s3 = some (.l (ev.map D.str)) ∨ s3 = some (.d (.lst (ev.map D.str)))) {xs : List D} (e1 : c ._law_all [.d (.o k), .d (.lst (ev.map D.str))] m = .ok (.l xs) m1) : ll0 c ⟨[some (.d (.scr ns)), some (.d (.o 0)), some (.d (.o 2)), s3, s4, s5, s6, s7, some (.d (.o k)), some (.d (.o r)), s10, s11], m⟩ = .ok .nx ⟨[some (.d (.scr ns)), some (.d (.o 0)), some (.d (.o 2)), some (.d (.lst (ev.map D.str))), s4, s5, s6, s7, some (.d (.o k)), some (.d (.o r)), s10, some (.l xs)], m1⟩ := by
 unfold ll0
 rcases h3 with rfl | rfl
 ·walk_at "z"
  rw [e1]
  walk_at "z"
 ·walk_at "z"
  rw [e1]
  walk_at "z"
theorem ll1_ok {x : Str} {xs ys : List D} (e1 : c ._law_due [.d (.o r), .d (.lst (ev.map D.str))] m = .ok (.l ys) m) (q1 : (eReprO (aCons (opd (eVar 11)) aNil) : Sm MX S) ⟨[some (.d (.scr ns)), some (.d (.o 0)), some (.d (.o 2)), some (.d (.lst (ev.map D.str))), s4, s5, s6, s7, some (.d (.o k)), some (.d (.o r)), s10, some (.l xs)], m⟩ = .ok (.d (.str x)) ⟨[some (.d (.scr ns)), some (.d (.o 0)), some (.d (.o 2)), some (.d (.lst (ev.map D.str))), s4, s5, s6, s7, some (.d (.o k)), some (.d (.o r)), s10, some (.l xs)], m⟩) (q2 : fReprT [.lst ys] = some (.d (.str x))) : ll1 c ⟨[some (.d (.scr ns)), some (.d (.o 0)), some (.d (.o 2)), some (.d (.lst (ev.map D.str))), s4, s5, s6, s7, some (.d (.o k)), some (.d (.o r)), s10, some (.l xs)], m⟩ = .ok .nx ⟨[some (.d (.scr ns)), some (.d (.o 0)), some (.d (.o 2)), some (.d (.lst (ev.map D.str))), s4, s5, s6, s7, some (.d (.o k)), some (.d (.o r)), s10, some (.l xs)], m⟩ := by
 have q3 : dEqT true (.str x) (.str x) = some (.d (.bl false)) := by simp [dEqT]
 unfold ll1
 revert q1
 generalize (eReprO (aCons (opd (eVar 11)) aNil) : Sm MX S) = RO
 intro q1
 walk_at "z"
 rw [q1]
 walk_at "z"
 rw [e1]
 walk_at "z"
 rw [q2]
 walk_at "z"
 rw [q3]
 walk_at "z"
theorem ll2_ok {n : Nat} {xs ys : List D} {rho : List (Option S)} (hrho : rho[11]? = some (some (.l (.o n :: xs)))) (hm : m[n]? = some (.lst ys)) (hl : ys.length < 1000) : ll2 ⟨rho, m⟩ = .ok .nx ⟨rho, m.set n (.lst (ys ++ [.str (Str.ofString "more")]))⟩ := by
 have q : dIx (.lst (.o n :: xs)) (.int 0) = some (.d (.o n)) := ix0 (.o n) xs
 have v : (eBin dIx (eVar 11) (eC (.int 0)) : Sm MX S) ⟨rho, m⟩ = .ok (.d (.o n)) ⟨rho, m⟩ := by
  simp only [eBin, opd, eVar, hrho, Rs.bind_ok, kB, eC, rd, Option.bind_some, q, fin, R.toS]
 unfold ll2
 have hl' : ys.length < lim := by show ys.length < 1000000; omega
 simp only [sExpr, eAppO, opd, v, Rs.bind_ok, listAt, rd, hm, escf, eC, escS, if_pos hl']
theorem llB_ok (n : Nat) (hr : Rol m r E) (hk : Kno m k E) (hE : EOk' E 40) (hv : ev.length ≤ 42) (h3 : s3 = some (.l (ev.map D.str)) ∨ s3 = some (.d (.lst (ev.map D.str)))) : ∃ (s11' : Option S) (X : List MO), llB (mir (n + 2)) ⟨[some (.d (.scr ns)), some (.d (.o 0)), some (.d (.o 2)), s3, s4, s5, s6, s7, some (.d (.o k)), some (.d (.o r)), s10, s11], m⟩ = .ok .nx ⟨[some (.d (.scr ns)), some (.d (.o 0)), some (.d (.o 2)), some (.d (.lst (ev.map D.str))), s4, s5, s6, s7, some (.d (.o k)), some (.d (.o r)), s10, s11'], m ++ X⟩ := by
 have hc : E.cnt < 64 := Nat.lt_of_le_of_lt hE.nn (by omega)
 have e0 := all_ok (n := n) hk hc ev (by omega)
 have b0 := ll0_ok (ns := ns) (r := r) (s4 := s4) (s5 := s5) (s6 := s6) (s7 := s7) (s10 := s10) (s11 := s11) h3 e0
 have e1 := due_ok (rol_app (x := [.lst ((nmsE E).map D.str)]) hr) hc (n + 1) ev (by omega)
 have gm : (m ++ [MO.lst ((nmsE E).map D.str)])[m.length]? = some (.lst ((nmsE E).map D.str)) := by
  rw [List.getElem?_append_right (Nat.le_refl _), Nat.sub_self]
  rfl
 have b1 := ll1_ok (ns := ns) (k := k) (s4 := s4) (s5 := s5) (s6 := s6) (s7 := s7) (s10 := s10) e1 (rep_all hE ev hv rfl gm) (rep_due hE ev hv)
 have b2 := ll2_ok (rho := [some (.d (.scr ns)), some (.d (.o 0)), some (.d (.o 2)), some (.d (.lst (ev.map D.str))), s4, s5, s6, s7, some (.d (.o k)), some (.d (.o r)), s10, some (.l (.o m.length :: ev.map fun x => .lst (rowE E x)))]) rfl gm (by rw [List.length_map]; have := (nms_ok hE).2; omega)
 have hs : (m ++ [MO.lst ((nmsE E).map D.str)]).set m.length (.lst ((nmsE E).map D.str ++ [.str (Str.ofString "more")])) = m ++ [.lst ((nmsE E).map D.str ++ [.str (Str.ofString "more")])] := by
  rw [List.set_append_right _ _ (Nat.le_refl _), Nat.sub_self]
  rfl
 rw [hs] at b2
 exact ⟨_, _, (seq_nx b0).trans ((seq_nx b1).trans b2)⟩
end
theorem TOk.app {m : List MO} {ts : List Tr} (h : TOk m ts) (x : List MO) : TOk (m ++ x) ts := fun t ht => ⟨rol_app (h t ht).1, kno_app (h t ht).2.1, (h t ht).2.2⟩
theorem llF_ok {ns : List Int} {r k : Nat} {E : Ent} {m : List MO} {ev : List Str} {s3 s4 s5 s6 s7 s10 s11 : Option S} (n : Nat) (hr : Rol m r E) (hk : Kno m k E) (hE : EOk' E 40) (hv : ev.length ≤ 42) (h3 : s3 = some (.l (ev.map D.str)) ∨ s3 = some (.d (.lst (ev.map D.str)))) : ∃ (s3' s10' s11' : Option S) (X : List MO), (s3' = some (.l (ev.map D.str)) ∨ s3' = some (.d (.lst (ev.map D.str)))) ∧ llF (mir (n + 2)) ⟨[some (.d (.scr ns)), some (.d (.o 0)), some (.d (.o 2)), s3, s4, s5, s6, s7, some (.d (.o k)), some (.d (.o r)), s10, s11], m⟩ = .ok .nx ⟨[some (.d (.scr ns)), some (.d (.o 0)), some (.d (.o 2)), s3', s4, s5, s6, s7, some (.d (.o k)), some (.d (.o r)), s10', s11'], m ++ X⟩ := by
 have it := rg_at (g := (aCons (opd (eC (.int 2))) aNil)) (z := ⟨[some (.d (.scr ns)), some (.d (.o 0)), some (.d (.o 2)), s3, s4, s5, s6, s7, some (.d (.o k)), some (.d (.o r)), s10, s11], m⟩) (z1 := ⟨[some (.d (.scr ns)), some (.d (.o 0)), some (.d (.o 2)), s3, s4, s5, s6, s7, some (.d (.o k)), some (.d (.o r)), s10, s11], m⟩) (c := 2) rfl (by omega)
 obtain ⟨z', e, m', t3, t10, t11, X, h', rfl, rfl⟩ := for_all (kk := kName (M := MX) 10) (b := llB (mir (n + 2))) (N := 2) (fun _ z => ∃ m' s3 s10 s11 X, (s3 = some (.l (ev.map D.str)) ∨ s3 = some (.d (.lst (ev.map D.str)))) ∧ m' = m ++ X ∧ z = ⟨[some (.d (.scr ns)), some (.d (.o 0)), some (.d (.o 2)), s3, s4, s5, s6, s7, some (.d (.o k)), some (.d (.o r)), s10, s11], m'⟩) (rangeD 0 2) 0 ⟨[some (.d (.scr ns)), some (.d (.o 0)), some (.d (.o 2)), s3, s4, s5, s6, s7, some (.d (.o k)), some (.d (.o r)), s10, s11], m⟩ (fun d hd i z hi ⟨m', t3, t10, t11, X, h3, hm, hz⟩ => by
  subst hz hm
  obtain ⟨u11, Y, e⟩ := llB_ok (ns := ns) (s4 := s4) (s5 := s5) (s6 := s6) (s7 := s7) (s10 := some (.d d)) (s11 := t11) n (rol_app (x := X) hr) (kno_app (x := X) hk) hE hv h3
  exact ⟨⟨[some (.d (.scr ns)), some (.d (.o 0)), some (.d (.o 2)), t3, s4, s5, s6, s7, some (.d (.o k)), some (.d (.o r)), some (.d d), t11], m ++ X⟩, _, rfl, e, m ++ X ++ Y, _, _, u11, X ++ Y, .inr rfl, by rw [List.append_assoc], rfl⟩) (by rw [range_len]) ⟨m, s3, s10, s11, [], h3, by rw [List.append_nil], rfl⟩
 refine ⟨t3, t10, t11, X, h', ?_⟩
 unfold llF sFor
 rw [it, Rs.bind_ok]
 exact e
theorem zip_ts : ∀ ts : List Tr, zipD (ksD ts) (rsD ts) = ts.map fun t => .tup [.o t.2.1, .o t.1]
 | [] => rfl
 | t :: r => by
  show zipD (.o t.2.1 :: ksD r) (.o t.1 :: rsD r) = _
  rw [zipD, zip_ts r]
  rfl
theorem told_loop {ns : List Int} {ev : List Str} {s4 s5 s6 s7 : Option S} (n : Nat) (hv : ev.length ≤ 42) : ∀ (ts : List Tr) (m : List MO) (s3 s8 s9 s10 s11 : Option S), TOk m ts → (s3 = some (.l (ev.map D.str)) ∨ s3 = some (.d (.lst (ev.map D.str)))) → ∃ z', forL (M := MX) (_root_.G.kTup 2 (ksCons (kName 8) (ksCons (kName 9) ksNil))) (llF (mir (n + 2))) (ts.map fun t => .tup [.o t.2.1, .o t.1]) ⟨[some (.d (.scr ns)), some (.d (.o 0)), some (.d (.o 2)), s3, s4, s5, s6, s7, s8, s9, s10, s11], m⟩ = .ok .nx z'
 | [], m, s3, s8, s9, s10, s11, _, _ => ⟨_, rfl⟩
 | t :: r, m, s3, s8, s9, s10, s11, ht, h3 => by
  obtain ⟨h1, h2, h4⟩ := ht t List.mem_cons_self
  obtain ⟨t3, t10, t11, X, h3', e⟩ := llF_ok (ns := ns) (s4 := s4) (s5 := s5) (s6 := s6) (s7 := s7) (s10 := s10) (s11 := s11) n h1 h2 h4 hv h3
  obtain ⟨z', e'⟩ := told_loop (ns := ns) (ev := ev) (s4 := s4) (s5 := s5) (s6 := s6) (s7 := s7) n hv r (m ++ X) t3 (some (.d (.o t.2.1))) (some (.d (.o t.1))) t10 t11 (fun x hx => TOk.app ht X x (List.mem_cons_of_mem _ hx)) h3'
  exact ⟨z', by rw [List.map_cons]; exact (for_cons1 rfl e).trans e'⟩
noncomputable def lw0 (call callI : CF) : Sm MX Out := (sSet 1 (eCall (call ._law_begun) (aCons (escf (eVar 0)) aNil)))
noncomputable def lw1 (call callI : CF) : Sm MX Out := (sSet 2 (eCall (call ._law_names) (aCons (escf (eVar 1)) aNil)))
noncomputable def lw2 (call callI : CF) : Sm MX Out := (sSet 3 (eBin dAdd (eFnO fList (aCons (opd (eVar 2)) aNil)) (eLst (aCons (escf (eC (.str "zzz"))) (aCons (escf (eC (.str "take"))) aNil)))))
noncomputable def lw3 (call callI : CF) : Sm MX Out := (sSet 4 (eLst (aCons (escf (eCall (call ._law_roll) aNil)) aNil)))
noncomputable def lw4 (call callI : CF) : Sm MX Out := (sSet 5 (eLst (aCons (escf (eMake "Known" (callI .Known___init__) aNil)) aNil)))
noncomputable def lwN (call callI : CF) : Sm MX (List S) := (aCons (opd (eFn fMax (aCons (opd (eBin dAdd (eC (.int 1)) (eCall (call ._law_next) (aCons (escf (eVar 1)) (aCons (escf (eC (.int 14))) aNil))))) (aCons (opd (eFn fMin (aCons (opd (eC (.int 14))) (aCons (opd (eFn fLen (aCons (opd (eVar 0)) aNil))) aNil)))) aNil)))) aNil)
section
variable {ns : List Int} {m m1 : List MO} {c cI : CF} {s2 s3 s4 s5 s6 s7 s8 s9 s10 s11 : Option S}
theorem lw0_ok (e : c ._law_begun [.d (.scr ns)] [] = .ok (.d (.o 0)) m) : lw0 c cI ⟨[some (.d (.scr ns)), none, none, none, none, none, none, none, none, none, none, none], []⟩ = .ok .nx ⟨[some (.d (.scr ns)), some (.d (.o 0)), none, none, none, none, none, none, none, none, none, none], m⟩ := by
 unfold lw0
 walk_at "z"
 rw [e]
 walk_at "z"
theorem lw1_ok (e : c ._law_names [.d (.o 0)] m = .ok (.d (.o 2)) m1) : lw1 c cI ⟨[some (.d (.scr ns)), some (.d (.o 0)), none, none, none, none, none, none, none, none, none, none], m⟩ = .ok .nx ⟨[some (.d (.scr ns)), some (.d (.o 0)), some (.d (.o 2)), none, none, none, none, none, none, none, none, none], m1⟩ := by
 unfold lw1
 walk_at "z"
 rw [e]
 walk_at "z"
theorem lst_o {z : Z (List MO)} {nm : List Str} {s0 s1 : Option S} {t : List (Option S)} (hz : z.rho = s0 :: s1 :: some (.d (.o 2)) :: t) (h : NS z.m nm) : (eFnO fList (aCons (opd (eVar 2)) aNil) : Sm MX S) z = .ok (.l (nm.map D.str)) z := by
 have h : z.m[2]? = some (.lst (nm.map D.str)) := h
 obtain ⟨rho, m⟩ := z
 have hz : rho = _ := hz
 subst hz
 have h : m[2]? = some (.lst (nm.map D.str)) := h
 unfold eFnO aCons kA opd aNil
 simp only [eVar, List.getElem?_cons_succ, List.getElem?_cons_zero, Rs.bind_ok, rdsO, rdO, listAt, rd, h, Option.bind_some, fin, fList, itemsD, Option.map_some, R.toS]
theorem lw2_ok {ss : List Str} (h : NS m ss) (hl : ss.length = 40) : lw2 c cI ⟨[some (.d (.scr ns)), some (.d (.o 0)), some (.d (.o 2)), s3, s4, s5, s6, s7, s8, s9, s10, s11], m⟩ = .ok .nx ⟨[some (.d (.scr ns)), some (.d (.o 0)), some (.d (.o 2)), some (.l ((ss ++ [Str.ofString "zzz", Str.ofString "take"]).map D.str)), s4, s5, s6, s7, s8, s9, s10, s11], m⟩ := by
 have q := lst_o (z := ⟨[some (.d (.scr ns)), some (.d (.o 0)), some (.d (.o 2)), s3, s4, s5, s6, s7, s8, s9, s10, s11], m⟩) (nm := ss) rfl h
 have ad := dAdd_l (ss.map D.str) [.str (Str.ofString "zzz"), .str (Str.ofString "take")] (by rw [List.length_map, hl]; decide)
 unfold lw2
 walk_at "z"
 rw [q]
 walk_at "z"
 rw [ad]
 walk_at "z"
 rw [List.map_append]
 try rfl
theorem lw3_ok {r : Nat} (e : c ._law_roll [] m = .ok (.d (.o r)) m1) : lw3 c cI ⟨[some (.d (.scr ns)), some (.d (.o 0)), some (.d (.o 2)), s3, s4, s5, s6, s7, s8, s9, s10, s11], m⟩ = .ok .nx ⟨[some (.d (.scr ns)), some (.d (.o 0)), some (.d (.o 2)), s3, some (.l [.o r]), s5, s6, s7, s8, s9, s10, s11], m1⟩ := by
 unfold lw3
 walk_at "z"
 rw [e]
 walk_at "z"
theorem lw4_ok {k : Nat} (e : (eMake "Known" (cI .Known___init__) aNil : Sm MX S) ⟨[some (.d (.scr ns)), some (.d (.o 0)), some (.d (.o 2)), s3, s4, s5, s6, s7, s8, s9, s10, s11], m⟩ = .ok (.d (.o k)) ⟨[some (.d (.scr ns)), some (.d (.o 0)), some (.d (.o 2)), s3, s4, s5, s6, s7, s8, s9, s10, s11], m1⟩) : lw4 c cI ⟨[some (.d (.scr ns)), some (.d (.o 0)), some (.d (.o 2)), s3, s4, s5, s6, s7, s8, s9, s10, s11], m⟩ = .ok .nx ⟨[some (.d (.scr ns)), some (.d (.o 0)), some (.d (.o 2)), s3, s4, some (.l [.o k]), s6, s7, s8, s9, s10, s11], m1⟩ := by
 unfold lw4
 revert e
 generalize (eMake "Known" (cI .Known___init__) aNil : Sm MX S) = F
 intro e
 walk_at "z"
 rw [e]
 walk_at "z"
theorem lwN_ok {w : Int} (hl : ns.length ≤ 63) (e1 : c ._law_next [.d (.o 0), .d (.int 14)] m = .ok (.d (.int w)) m1) (w0 : 0 ≤ w) (w1 : w < 14) : ∃ N : Nat, N ≤ 14 ∧ lwN c cI ⟨[some (.d (.scr ns)), some (.d (.o 0)), some (.d (.o 2)), s3, s4, s5, s6, s7, s8, s9, s10, s11], m⟩ = .ok [.d (.int (N : Int))] ⟨[some (.d (.scr ns)), some (.d (.o 0)), some (.d (.o 2)), s3, s4, s5, s6, s7, s8, s9, s10, s11], m1⟩ := by
 have q1 : fLen [.scr ns] = some (.d (.int (ns.length : Nat))) := rfl
 have q2 : fMin [.int 14, .int (ns.length : Nat)] = some (.d (.int (if ((ns.length : Nat) : Int) < 14 then ((ns.length : Nat) : Int) else 14))) := rfl
 obtain ⟨C, hC, hC2⟩ : ∃ C : Nat, (if (if ((ns.length : Nat) : Int) < 14 then ((ns.length : Nat) : Int) else 14) > 1 + w then (if ((ns.length : Nat) : Int) < 14 then ((ns.length : Nat) : Int) else 14) else 1 + w) = (C : Int) ∧ C ≤ 14 := by
  refine ⟨(if (if ((ns.length : Nat) : Int) < 14 then ((ns.length : Nat) : Int) else 14) > 1 + w then (if ((ns.length : Nat) : Int) < 14 then ((ns.length : Nat) : Int) else 14) else 1 + w).toNat, ?_, ?_⟩
  ·split <;> (try split) <;> omega
  ·split <;> (try split) <;> omega
 refine ⟨C, hC2, ?_⟩
 unfold lwN
 walk_at "z"
 rw [e1]
 walk_at "z"
 rw [q1]
 walk_at "z"
 rw [q2]
 walk_at "z"
 rw [hC]
end
theorem law_all (n : Nat) (ns : List Int) (hl : ns.length ≤ 63) : ∃ z', m_law (mir (n + 100)) (mir (n + 99)) ⟨[some (.d (.scr ns)), none, none, none, none, none, none, none, none, none, none, none], []⟩ = .ok (.rt (.d (.bl true))) z' := by
 have hdl : drLim = 1000000000000000000 := rfl
 obtain ⟨m1, e1, dr1, l1⟩ := begun_eq (c := mir (n + 99)) ns
 have b0 := lw0_ok (c := mir (n + 100)) (cI := mir (n + 99)) e1
 obtain ⟨ss, m2, e2, sl, sn, d2, l2⟩ := names_eq (n + 98) (⟨0, dr1, Nat.le_refl _, Fr.refl _ _⟩ : DS 2 (ns.take 63) m1 0 m1) (by omega)
 rw [l1] at e2 l2
 have b1 := lw1_ok (c := mir (n + 100)) (cI := mir (n + 99)) (ns := ns) e2
 obtain ⟨a2, dr2, ha2, _⟩ := d2
 have n2 : NS (m2 ++ [MO.lst (ss.map D.str)]) ss := by
  show (m2 ++ [MO.lst (ss.map D.str)])[2]? = _
  rw [List.getElem?_append_right (by omega), l2]
  rfl
 have l3 : (m2 ++ [MO.lst (ss.map D.str)]).length = 3 := by rw [List.length_append, l2]; rfl
 have b2 := lw2_ok (c := mir (n + 100)) (cI := mir (n + 99)) (ns := ns) (s3 := none) (s4 := none) (s5 := none) (s6 := none) (s7 := none) (s8 := none) (s9 := none) (s10 := none) (s11 := none) n2 sl
 obtain ⟨x3, e3, r3⟩ := roll_eq (c := mir (n + 99)) (m2 ++ [MO.lst (ss.map D.str)]) (by omega)
 rw [l3] at e3 r3
 have hev : (ss ++ [Str.ofString "zzz", Str.ofString "take"]).length ≤ 42 := by rw [List.length_append, sl]; decide
 generalize ss ++ [Str.ofString "zzz", Str.ofString "take"] = ev at b2 hev
 have b3 := lw3_ok (c := mir (n + 100)) (cI := mir (n + 99)) (ns := ns) (s3 := some (.l (ev.map D.str))) (s4 := none) (s5 := none) (s6 := none) (s7 := none) (s8 := none) (s9 := none) (s10 := none) (s11 := none) e3
 obtain ⟨x4, e4, k4⟩ := make_mir (n + 98) [some (.d (.scr ns)), some (.d (.o 0)), some (.d (.o 2)), some (.l (ev.map D.str)), some (.l [.o 3]), none, none, none, none, none, none, none] (m2 ++ [MO.lst (ss.map D.str)] ++ x3) (by rw [List.length_append]; omega)
 have b4 := lw4_ok (c := mir (n + 100)) e4
 have dr4 : Dr (m2 ++ [MO.lst (ss.map D.str)] ++ x3 ++ x4) a2 (ns.take 63) := ((dr2.app _).app _).app _
 have h4 : LI (ns.take 63) 0 3 (m2 ++ [MO.lst (ss.map D.str)] ++ x3).length E0 ss (m2 ++ [MO.lst (ss.map D.str)] ++ x3 ++ x4) := ⟨⟨a2, dr4, by omega⟩, by rw [List.length_append, List.length_append]; omega, rol_app r3, k4, by rw [sl]; exact E0_ok, gP (gP n2), sn, by omega, fun h => absurd h (by omega)⟩
 have l4 : (m2 ++ [MO.lst (ss.map D.str)] ++ x3 ++ x4).length ≥ 3 := by rw [List.length_append, List.length_append]; omega
 generalize (m2 ++ [MO.lst (ss.map D.str)] ++ x3).length = k at *
 generalize m2 ++ [MO.lst (ss.map D.str)] ++ x3 ++ x4 = m4 at *
 obtain ⟨w, m5, e5, w0, w1, d5⟩ := next_ds (n + 99) (Nat.le_refl 2) (⟨a2, dr4, Nat.le_refl _, Fr.refl _ _⟩ : DS 2 (ns.take 63) m4 a2 m4) (by omega) 14 (by decide) (by decide)
 obtain ⟨N, hN, eN⟩ := lwN_ok (cI := mir (n + 99)) (s3 := some (.l (ev.map D.str))) (s4 := some (.l [.o 3])) (s5 := some (.l [.o k])) (s6 := none) (s7 := none) (s8 := none) (s9 := none) (s10 := none) (s11 := none) hl e5 w0 w1
 obtain ⟨a5, dr5, ha5, f5⟩ := d5
 have h5 : LI (ns.take 63) 0 3 k E0 ss m5 := ⟨⟨a5, dr5, by omega⟩, by rw [f5.1]; exact l4, rol_fr h4.rol (f5.up (by omega)), kno_fr h4.kno (f5.up (by omega)), h4.ok, (f5.2 2 (Nat.le_refl 2)).trans h4.ns, h4.nok, h4.len, h4.so⟩
 obtain ⟨ts, m6, s6, s7, e6, ht, hts⟩ := ents_gen (ns := ns) (n + 90) h5 (by omega) (some (.l (ev.map D.str))) none none none none N hN
 have b5 : (sFor (iRg1M (lwN (mir (n + 100)) (mir (n + 99)))) (kName 6) (lqB (mir (n + 100))) : Sm MX Out) ⟨[some (.d (.scr ns)), some (.d (.o 0)), some (.d (.o 2)), some (.l (ev.map D.str)), some (.l [.o 3]), some (.l [.o k]), none, none, none, none, none, none], m4⟩ = .ok .nx ⟨[some (.d (.scr ns)), some (.d (.o 0)), some (.d (.o 2)), some (.l (ev.map D.str)), some (.l (rsD ts)), some (.l (ksD ts)), s6, s7, none, none, none, none], m6⟩ := by
  have it := rg_at eN (by omega)
  unfold sFor
  rw [it, Rs.bind_ok]
  exact e6
 obtain ⟨z', e7⟩ := told_loop (ns := ns) (ev := ev) (s4 := some (.d (.lst (rsD ts)))) (s5 := some (.d (.lst (ksD ts)))) (s6 := s6) (s7 := s7) (n + 98) hev ts m6 (some (.l (ev.map D.str))) none none none none ht (.inl rfl)
 have b6 : (sFor (iZipM (aCons (escf (eVar 5)) (aCons (escf (eVar 4)) aNil))) (_root_.G.kTup 2 (ksCons (kName 8) (ksCons (kName 9) ksNil))) (llF (mir (n + 100))) : Sm MX Out) ⟨[some (.d (.scr ns)), some (.d (.o 0)), some (.d (.o 2)), some (.l (ev.map D.str)), some (.l (rsD ts)), some (.l (ksD ts)), s6, s7, none, none, none, none], m6⟩ = .ok .nx z' := by
  have it : (iZipM (aCons (escf (eVar 5)) (aCons (escf (eVar 4)) aNil)) : Sm MX (List D)) ⟨[some (.d (.scr ns)), some (.d (.o 0)), some (.d (.o 2)), some (.l (ev.map D.str)), some (.l (rsD ts)), some (.l (ksD ts)), s6, s7, none, none, none, none], m6⟩ = .ok (zipD (ksD ts) (rsD ts)) ⟨[some (.d (.scr ns)), some (.d (.o 0)), some (.d (.o 2)), some (.l (ev.map D.str)), some (.d (.lst (rsD ts))), some (.d (.lst (ksD ts))), s6, s7, none, none, none, none], m6⟩ := rfl
  unfold sFor
  rw [it, Rs.bind_ok, zip_ts]
  exact e7
 have b7 : (sRet (eC (.bl true)) : Sm MX Out) z' = .ok (.rt (.d (.bl true))) z' := rfl
 exact ⟨_, (seq_nx b0).trans ((seq_nx b1).trans ((seq_nx b2).trans ((seq_nx b3).trans ((seq_nx b4).trans ((seq_nx b5).trans ((seq_nx b6).trans b7))))))⟩
theorem law_true : ∀ ns : List Int, ns.length ≤ 63 → (∀ z ∈ ns, Builtin.Int.intBits z ≤ 1048576) → ∃ z', m_law (mir lawLevel) (mirI lawLevel) (zX 11 ns) = .ok (.rt (.d (.bl true))) z' := fun ns hl _ => law_all 500 ns hl
theorem sc_Known___init__ : FnScope ["self"] ["self"] (defScope s_Known___init__) := ⟨rfl, rfl, rfl, by decide +kernel, rfl, by decide +kernel, by decide +kernel⟩
theorem sc_Known_again : FnScope ["self", "found"] ["self"] (defScope s_Known_again) := ⟨rfl, rfl, rfl, by decide +kernel, rfl, by decide +kernel, by decide +kernel⟩
theorem sc_Known_with_entry : FnScope ["self", "entry", "found", "word", "name", "member"] ["self", "entry"] (defScope s_Known_with_entry) := ⟨rfl, rfl, rfl, by decide +kernel, rfl, by decide +kernel, by decide +kernel⟩
theorem sc_Known_members : FnScope ["self", "s"] ["self", "s"] (defScope s_Known_members) := ⟨rfl, rfl, rfl, by decide +kernel, rfl, by decide +kernel, by decide +kernel⟩
theorem sc_Known_func : FnScope ["self", "f"] ["self", "f"] (defScope s_Known_func) := ⟨rfl, rfl, rfl, by decide +kernel, rfl, by decide +kernel, by decide +kernel⟩
theorem sc_Known_rel : FnScope ["self", "r"] ["self", "r"] (defScope s_Known_rel) := ⟨rfl, rfl, rfl, by decide +kernel, rfl, by decide +kernel, by decide +kernel⟩
theorem sc_Known_meaning : FnScope ["self", "r"] ["self", "r"] (defScope s_Known_meaning) := ⟨rfl, rfl, rfl, by decide +kernel, rfl, by decide +kernel, by decide +kernel⟩
theorem sc_Known_statement : FnScope ["self", "x"] ["self", "x"] (defScope s_Known_statement) := ⟨rfl, rfl, rfl, by decide +kernel, rfl, by decide +kernel, by decide +kernel⟩
theorem sc_Known_names : FnScope ["self"] ["self"] (defScope s_Known_names) := ⟨rfl, rfl, rfl, by decide +kernel, rfl, by decide +kernel, by decide +kernel⟩
theorem sc__law_next : FnScope ["_law_m", "_law_many", "_law_k", "_law_cells", "_law_at", "_law_found", "_law_cell", "_law_number"] ["_law_m", "_law_many"] (defScope s__law_next) := ⟨rfl, rfl, rfl, by decide +kernel, rfl, by decide +kernel, by decide +kernel⟩
theorem sc__law_begun : FnScope begunN ["_law_script"] (defScope s__law_begun) := ⟨rfl, rfl, rfl, by decide +kernel, rfl, by decide +kernel, by decide +kernel⟩
theorem sc__law_names : FnScope ["_law_m", "_law_letters", "_law_head", "_law_k"] ["_law_m"] (defScope s__law_names) := ⟨rfl, rfl, rfl, by decide +kernel, rfl, by decide +kernel, by decide +kernel⟩
theorem sc__law_roll : FnScope [] [] (defScope s__law_roll) := ⟨rfl, rfl, rfl, by decide +kernel, rfl, by decide +kernel, by decide +kernel⟩
theorem sc__law_with : FnScope ["_law_roll_here", "_law_entry_here", "_law_found", "_law_name", "_law_part"] ["_law_roll_here", "_law_entry_here"] (defScope s__law_with) := ⟨rfl, rfl, rfl, by decide +kernel, rfl, by decide +kernel, by decide +kernel⟩
theorem sc__law_term : FnScope ["_law_m", "_law_roll_here", "_law_around", "_law_sort", "_law_deep", "_law_some", "_law_calls", "_law_great", "_law_name", "_law_args", "_law_k", "_law_one"] ["_law_m", "_law_roll_here", "_law_around", "_law_sort", "_law_deep"] (defScope s__law_term) := ⟨rfl, rfl, rfl, by decide +kernel, rfl, by decide +kernel, by decide +kernel⟩
theorem sc__law_leaf : FnScope ["_law_m", "_law_roll_here", "_law_around", "_law_way", "_law_rels", "_law_sorts", "_law_name", "_law_args", "_law_sort", "_law_one", "_law_other"] ["_law_m", "_law_roll_here", "_law_around"] (defScope s__law_leaf) := ⟨rfl, rfl, rfl, by decide +kernel, rfl, by decide +kernel, by decide +kernel⟩
theorem sc__law_statement : FnScope ["_law_m", "_law_roll_here", "_law_around", "_law_deep", "_law_way", "_law_one", "_law_sorts", "_law_sort"] ["_law_m", "_law_roll_here", "_law_around", "_law_deep"] (defScope s__law_statement) := ⟨rfl, rfl, rfl, by decide +kernel, rfl, by decide +kernel, by decide +kernel⟩
theorem sc__law_entry : FnScope ["_law_m", "_law_roll_here", "_law_names_here", "_law_sorts", "_law_way", "_law_name", "_law_args", "_law_k"] ["_law_m", "_law_roll_here", "_law_names_here"] (defScope s__law_entry) := ⟨rfl, rfl, rfl, by decide +kernel, rfl, by decide +kernel, by decide +kernel⟩
theorem sc__law_all : FnScope ["_law_known", "_law_names_here", "_law_found", "_law_name", "_law_row"] ["_law_known", "_law_names_here"] (defScope s__law_all) := ⟨rfl, rfl, rfl, by decide +kernel, rfl, by decide +kernel, by decide +kernel⟩
theorem sc__law_due : FnScope ["_law_roll_here", "_law_names_here", "_law_parts", "_law_found", "_law_name", "_law_part"] ["_law_roll_here", "_law_names_here"] (defScope s__law_due) := ⟨rfl, rfl, rfl, by decide +kernel, rfl, by decide +kernel, by decide +kernel⟩
theorem sc_law : FnScope ["_law_script", "_law_m", "_law_names_here", "_law_every", "_law_rolls", "_law_told", "_law_k", "_law_entry_here", "_law_known", "_law_roll_here", "_law_turn", "_law_found"] ["_law_script"] (defScope s_law) := ⟨rfl, rfl, rfl, by decide +kernel, rfl, by decide +kernel, by decide +kernel⟩
structure Tt (K : PySem.W.Frag) (mg : Str → Option Value) (pr : Params) (C_Known : Addr) : Prop where
  cl_Known : ClF K "Known" C_Known
  na_Known_told_calls : NoAttr K C_Known "told_calls"
  na_Known_told_facts : NoAttr K C_Known "told_facts"
  na_Known_told_means : NoAttr K C_Known "told_means"
  na_Known_told_rels : NoAttr K C_Known "told_rels"
  na_Known_told_sorts : NoAttr K C_Known "told_sorts"
  mk_Known : MkIn K mg "Known" "Known.__init__" s_Known___init__ ["self"]
  Known_again : MeIn K "Known" "again" "Known.again" s_Known_again ["self"]
  Known_with_entry : MeIn K "Known" "with_entry" "Known.with_entry" s_Known_with_entry ["self", "entry"]
  Known_members : MeIn K "Known" "members" "Known.members" s_Known_members ["self", "s"]
  Known_func : MeIn K "Known" "func" "Known.func" s_Known_func ["self", "f"]
  Known_rel : MeIn K "Known" "rel" "Known.rel" s_Known_rel ["self", "r"]
  Known_meaning : MeIn K "Known" "meaning" "Known.meaning" s_Known_meaning ["self", "r"]
  Known_statement : MeIn K "Known" "statement" "Known.statement" s_Known_statement ["self", "x"]
  Known_names : MeIn K "Known" "names" "Known.names" s_Known_names ["self"]
  _law_next : FnIn K mg "_law_next" s__law_next ["_law_m", "_law_many"] []
  _law_begun : FnIn K mg "_law_begun" s__law_begun ["_law_script"] []
  _law_names : FnIn K mg "_law_names" s__law_names ["_law_m"] []
  _law_roll : FnIn K mg "_law_roll" s__law_roll [] []
  _law_with : FnIn K mg "_law_with" s__law_with ["_law_roll_here", "_law_entry_here"] []
  _law_term : FnIn K mg "_law_term" s__law_term ["_law_m", "_law_roll_here", "_law_around", "_law_sort", "_law_deep"] []
  _law_leaf : FnIn K mg "_law_leaf" s__law_leaf ["_law_m", "_law_roll_here", "_law_around"] []
  _law_statement : FnIn K mg "_law_statement" s__law_statement ["_law_m", "_law_roll_here", "_law_around", "_law_deep"] []
  _law_entry : FnIn K mg "_law_entry" s__law_entry ["_law_m", "_law_roll_here", "_law_names_here"] []
  _law_all : FnIn K mg "_law_all" s__law_all ["_law_known", "_law_names_here"] []
  _law_due : FnIn K mg "_law_due" s__law_due ["_law_roll_here", "_law_names_here"] []
  b_dict : mg "dict" = none
  b_enumerate : mg "enumerate" = none
  b_int : mg "int" = none
  b_len : mg "len" = none
  b_list : mg "list" = none
  b_max : mg "max" = none
  b_min : mg "min" = none
  b_range : mg "range" = none
  b_repr : mg "repr" = none
  b_sorted : mg "sorted" = none
  b_str : mg "str" = none
  b_sum : mg "sum" = none
  b_tuple : mg "tuple" = none
  b_zip : mg "zip" = none
structure Tx (P : Program) (w : World) (K : PySem.W.Frag) (mg : Str → Option Value) (base : Heap) (n : Nat) : Prop where
  sb : SysB base
  mk_Known : MkAt P w K mg base (xrK K) n "Known" ["self"] (mirI n .Known___init__)
  ini_Known : MkAt P w K mg base (xrK K) (n + 1) "Known" ["self"] (mir n .Known___init__)
  Known_again : MeAt P w K mg base (xrK K) n "Known" "again" ["self"] (mir n .Known_again)
  Known_with_entry : MeAt P w K mg base (xrK K) n "Known" "with_entry" ["self", "entry"] (mir n .Known_with_entry)
  Known_members : MeAt P w K mg base (xrK K) n "Known" "members" ["self", "s"] (mir n .Known_members)
  Known_func : MeAt P w K mg base (xrK K) n "Known" "func" ["self", "f"] (mir n .Known_func)
  Known_rel : MeAt P w K mg base (xrK K) n "Known" "rel" ["self", "r"] (mir n .Known_rel)
  Known_meaning : MeAt P w K mg base (xrK K) n "Known" "meaning" ["self", "r"] (mir n .Known_meaning)
  Known_statement : MeAt P w K mg base (xrK K) n "Known" "statement" ["self", "x"] (mir n .Known_statement)
  Known_names : MeAt P w K mg base (xrK K) n "Known" "names" ["self"] (mir n .Known_names)
  _law_next : FnAt MX P w K mg base (xrK K) n "_law_next" ["_law_m", "_law_many"] [] (mir n ._law_next)
  _law_begun : FnAt MX P w K mg base (xrK K) n "_law_begun" ["_law_script"] [] (mir n ._law_begun)
  _law_names : FnAt MX P w K mg base (xrK K) n "_law_names" ["_law_m"] [] (mir n ._law_names)
  _law_roll : FnAt MX P w K mg base (xrK K) n "_law_roll" [] [] (mir n ._law_roll)
  _law_with : FnAt MX P w K mg base (xrK K) n "_law_with" ["_law_roll_here", "_law_entry_here"] [] (mir n ._law_with)
  _law_term : FnAt MX P w K mg base (xrK K) n "_law_term" ["_law_m", "_law_roll_here", "_law_around", "_law_sort", "_law_deep"] [] (mir n ._law_term)
  _law_leaf : FnAt MX P w K mg base (xrK K) n "_law_leaf" ["_law_m", "_law_roll_here", "_law_around"] [] (mir n ._law_leaf)
  _law_statement : FnAt MX P w K mg base (xrK K) n "_law_statement" ["_law_m", "_law_roll_here", "_law_around", "_law_deep"] [] (mir n ._law_statement)
  _law_entry : FnAt MX P w K mg base (xrK K) n "_law_entry" ["_law_m", "_law_roll_here", "_law_names_here"] [] (mir n ._law_entry)
  _law_all : FnAt MX P w K mg base (xrK K) n "_law_all" ["_law_known", "_law_names_here"] [] (mir n ._law_all)
  _law_due : FnAt MX P w K mg base (xrK K) n "_law_due" ["_law_roll_here", "_law_names_here"] [] (mir n ._law_due)
section
variable {P : Program} {w : World} {K : PySem.W.Frag} {mg : Str → Option Value} {base : Heap} {n : Nat} {C_Known : Addr}
theorem d_Known___init__ (T : Tt K mg w.params C_Known) (H : Tx P w K mg base n) : MkAt P w K mg base (xrK K) (n + 2) "Known" ["self"] (fnM 1 (m_Known___init__ (mir n))) := by
 refine mkAt_succ T.mk_Known sc_Known___init__ (fun f cdv A outer s Hp E hr hgu => ?_)
 have p := pc_def (P := P) (w := w) (K := K) (mg := mg) (base := base) (outer := outer) (H := Hp) (E := E) sc_Known___init__ hr hgu
 exact (dss_cons (ds_fld p.toPl (cls1 T.cl_Known T.na_Known_told_sorts) de_newD (de_var 0))
  (dss_cons (ds_fld p.toPl (cls1 T.cl_Known T.na_Known_told_calls) de_newD (de_var 0))
  (dss_cons (ds_fld p.toPl (cls1 T.cl_Known T.na_Known_told_rels) de_newD (de_var 0))
  (dss_cons (ds_fld p.toPl (cls1 T.cl_Known T.na_Known_told_means) de_newD (de_var 0))
  (dss_one (ds_fld p.toPl (cls1 T.cl_Known T.na_Known_told_facts) de_newD (de_var 0)))))))
theorem d_Known_again (T : Tt K mg w.params C_Known) (H : Tx P w K mg base n) : MeAt P w K mg base (xrK K) (n + 1) "Known" "again" ["self"] (fnM 2 (m_Known_again (mir n) (mirI n))) := by
 refine meAt_succ T.Known_again sc_Known_again (fun f cdv A outer s Hp E hr hgu => ?_)
 have p := pc_def (P := P) (w := w) (K := K) (mg := mg) (base := base) (outer := outer) (H := Hp) (E := E) sc_Known_again hr hgu
 exact (dss_cons (ds_set (i := 1) p.toPl.nds (fun _ => rfl) (fun _ => by first | exact Or.inl rfl | exact Or.inr rfl) (de_make0 p H.mk_Known))
  (dss_cons (ds_fld p.toPl (cls1 T.cl_Known T.na_Known_told_sorts) (de_dcopy p.toPl T.b_dict (de_fld p.toPl (cls1 T.cl_Known T.na_Known_told_sorts) (de_var 0))) (de_var 1))
  (dss_cons (ds_fld p.toPl (cls1 T.cl_Known T.na_Known_told_calls) (de_dcopy p.toPl T.b_dict (de_fld p.toPl (cls1 T.cl_Known T.na_Known_told_calls) (de_var 0))) (de_var 1))
  (dss_cons (ds_fld p.toPl (cls1 T.cl_Known T.na_Known_told_rels) (de_dcopy p.toPl T.b_dict (de_fld p.toPl (cls1 T.cl_Known T.na_Known_told_rels) (de_var 0))) (de_var 1))
  (dss_cons (ds_fld p.toPl (cls1 T.cl_Known T.na_Known_told_means) (de_dcopy p.toPl T.b_dict (de_fld p.toPl (cls1 T.cl_Known T.na_Known_told_means) (de_var 0))) (de_var 1))
  (dss_cons (ds_fld p.toPl (cls1 T.cl_Known T.na_Known_told_facts) (de_dcopy p.toPl T.b_dict (de_fld p.toPl (cls1 T.cl_Known T.na_Known_told_facts) (de_var 0))) (de_var 1))
  (dss_one (ds_ret (de_var 1)))))))))
theorem d_Known_with_entry (T : Tt K mg w.params C_Known) (H : Tx P w K mg base n) : MeAt P w K mg base (xrK K) (n + 1) "Known" "with_entry" ["self", "entry"] (fnM 6 (m_Known_with_entry (mir n))) := by
 refine meAt_succ T.Known_with_entry sc_Known_with_entry (fun f cdv A outer s Hp E hr hgu => ?_)
 have p := pc_def (P := P) (w := w) (K := K) (mg := mg) (base := base) (outer := outer) (H := Hp) (E := E) sc_Known_with_entry hr hgu
 exact (dss_cons (ds_set (i := 2) p.toPl.nds (fun _ => rfl) (fun _ => by first | exact Or.inl rfl | exact Or.inr rfl) (de_meth0 p H.Known_again (de_var 0)))
  (dss_cons (ds_asg (de_sl p.toPl (de_var 1) do_none (do_some de_int)) (dg_tup p.k p.c (dgs_cons (dg_name p.toPl.nds (fun _ => rfl) (fun _ => by first | exact Or.inl rfl | exact Or.inr rfl)) (dgs_cons (dg_name p.toPl.nds (fun _ => rfl) (fun _ => by first | exact Or.inl rfl | exact Or.inr rfl)) dgs_nil))))
  (dss_cons (ds_if (Cp.dt (cp_eq p.toPl) (de_var 3) de_str (nomark _)) (dss_cons (ds_dput p.toPl (de_ixA p.toPl (de_var 1) de_int) (de_fld p.toPl (cls1 T.cl_Known T.na_Known_told_sorts) (de_var 2)) (de_var 4))
  (dss_one (ds_for own_def p.c (di_any p.toPl (de_ixA p.toPl (de_var 1) de_int)) (dg_name p.toPl.nds (fun _ => rfl) (fun _ => by first | exact Or.inl rfl | exact Or.inr rfl)) (dss_one (ds_dput p.toPl (de_tup (da_es (de_tup da_nil) (da_es (de_var 4) da_nil))) (de_fld p.toPl (cls1 T.cl_Known T.na_Known_told_calls) (de_var 2)) (de_var 5)))))) (dss_one (ds_if (Cp.dt (cp_eq p.toPl) (de_var 3) de_str (nomark _)) (dss_one (ds_dput p.toPl (de_tup (da_es (de_ixA p.toPl (de_var 1) de_int) (da_es (de_ixA p.toPl (de_var 1) de_int) da_nil))) (de_fld p.toPl (cls1 T.cl_Known T.na_Known_told_calls) (de_var 2)) (de_var 4))) (dss_one (ds_if (Cp.dt (cp_in p.toPl) (de_var 3) (de_tup (da_es de_str (da_es de_str da_nil))) rfl) (dss_one (ds_dput p.toPl (de_ixA p.toPl (de_var 1) de_int) (de_fld p.toPl (cls1 T.cl_Known T.na_Known_told_facts) (de_var 2)) (de_var 4))) (dss_cons (ds_dput p.toPl (de_ixA p.toPl (de_var 1) de_int) (de_fld p.toPl (cls1 T.cl_Known T.na_Known_told_rels) (de_var 2)) (de_var 4))
  (dss_one (ds_if (Cp.dt (cp_eq p.toPl) (de_var 3) de_str (nomark _)) (dss_one (ds_dput p.toPl (de_ixA p.toPl (de_var 1) de_int) (de_fld p.toPl (cls1 T.cl_Known T.na_Known_told_means) (de_var 2)) (de_var 4))) dss_nil))))))))
  (dss_one (ds_ret (de_var 2))))))
theorem d_Known_members (T : Tt K mg w.params C_Known) (H : Tx P w K mg base n) : MeAt P w K mg base (xrK K) (n + 1) "Known" "members" ["self", "s"] (fnM 2 (m_Known_members (mir n))) := by
 refine meAt_succ T.Known_members sc_Known_members (fun f cdv A outer s Hp E hr hgu => ?_)
 have p := pc_def (P := P) (w := w) (K := K) (mg := mg) (base := base) (outer := outer) (H := Hp) (E := E) sc_Known_members hr hgu
 exact (dss_one (ds_ret (de_dget2 p.toPl (de_fld p.toPl (cls1 T.cl_Known T.na_Known_told_sorts) (de_var 0)) (de_var 1) de_non (fun _ => ⟨rfl, rfl, rfl, rfl⟩))))
theorem d_Known_func (T : Tt K mg w.params C_Known) (H : Tx P w K mg base n) : MeAt P w K mg base (xrK K) (n + 1) "Known" "func" ["self", "f"] (fnM 2 (m_Known_func (mir n))) := by
 refine meAt_succ T.Known_func sc_Known_func (fun f cdv A outer s Hp E hr hgu => ?_)
 have p := pc_def (P := P) (w := w) (K := K) (mg := mg) (base := base) (outer := outer) (H := Hp) (E := E) sc_Known_func hr hgu
 exact (dss_one (ds_ret (de_dget2 p.toPl (de_fld p.toPl (cls1 T.cl_Known T.na_Known_told_calls) (de_var 0)) (de_var 1) de_non (fun _ => ⟨rfl, rfl, rfl, rfl⟩))))
theorem d_Known_rel (T : Tt K mg w.params C_Known) (H : Tx P w K mg base n) : MeAt P w K mg base (xrK K) (n + 1) "Known" "rel" ["self", "r"] (fnM 2 (m_Known_rel (mir n))) := by
 refine meAt_succ T.Known_rel sc_Known_rel (fun f cdv A outer s Hp E hr hgu => ?_)
 have p := pc_def (P := P) (w := w) (K := K) (mg := mg) (base := base) (outer := outer) (H := Hp) (E := E) sc_Known_rel hr hgu
 exact (dss_one (ds_ret (de_dget2 p.toPl (de_fld p.toPl (cls1 T.cl_Known T.na_Known_told_rels) (de_var 0)) (de_var 1) de_non (fun _ => ⟨rfl, rfl, rfl, rfl⟩))))
theorem d_Known_meaning (T : Tt K mg w.params C_Known) (H : Tx P w K mg base n) : MeAt P w K mg base (xrK K) (n + 1) "Known" "meaning" ["self", "r"] (fnM 2 (m_Known_meaning (mir n))) := by
 refine meAt_succ T.Known_meaning sc_Known_meaning (fun f cdv A outer s Hp E hr hgu => ?_)
 have p := pc_def (P := P) (w := w) (K := K) (mg := mg) (base := base) (outer := outer) (H := Hp) (E := E) sc_Known_meaning hr hgu
 exact (dss_one (ds_ret (de_dget2 p.toPl (de_fld p.toPl (cls1 T.cl_Known T.na_Known_told_means) (de_var 0)) (de_var 1) de_non (fun _ => ⟨rfl, rfl, rfl, rfl⟩))))
theorem d_Known_statement (T : Tt K mg w.params C_Known) (H : Tx P w K mg base n) : MeAt P w K mg base (xrK K) (n + 1) "Known" "statement" ["self", "x"] (fnM 2 (m_Known_statement (mir n))) := by
 refine meAt_succ T.Known_statement sc_Known_statement (fun f cdv A outer s Hp E hr hgu => ?_)
 have p := pc_def (P := P) (w := w) (K := K) (mg := mg) (base := base) (outer := outer) (H := Hp) (E := E) sc_Known_statement hr hgu
 exact (dss_one (ds_ret (de_dget2 p.toPl (de_fld p.toPl (cls1 T.cl_Known T.na_Known_told_facts) (de_var 0)) (de_var 1) de_non (fun _ => ⟨rfl, rfl, rfl, rfl⟩))))
theorem d_Known_names (T : Tt K mg w.params C_Known) (H : Tx P w K mg base n) : MeAt P w K mg base (xrK K) (n + 1) "Known" "names" ["self"] (fnM 1 (m_Known_names (mir n))) := by
 refine meAt_succ T.Known_names sc_Known_names (fun f cdv A outer s Hp E hr hgu => ?_)
 have p := pc_def (P := P) (w := w) (K := K) (mg := mg) (base := base) (outer := outer) (H := Hp) (E := E) sc_Known_names hr hgu
 exact (dss_one (ds_ret (de_sto (Fb.de (fb_sortS p.toPl) p.toPl T.b_sorted (da_rd (de_add p.toPl (de_add p.toPl (de_add p.toPl (de_dlist p.toPl T.b_list (de_fld p.toPl (cls1 T.cl_Known T.na_Known_told_sorts) (de_var 0))) (de_dlist p.toPl T.b_list (de_fld p.toPl (cls1 T.cl_Known T.na_Known_told_calls) (de_var 0)))) (de_dlist p.toPl T.b_list (de_fld p.toPl (cls1 T.cl_Known T.na_Known_told_rels) (de_var 0)))) (de_dlist p.toPl T.b_list (de_fld p.toPl (cls1 T.cl_Known T.na_Known_told_facts) (de_var 0)))) da_nil)))))
theorem d__law_next (T : Tt K mg w.params C_Known) (H : Tx P w K mg base n) : FnAt MX P w K mg base (xrK K) (n + 1) "_law_next" ["_law_m", "_law_many"] [] (fnM 8 (m__law_next (mir n))) := by
 refine fnAt_succ T._law_next sc__law_next (fun f cdv A outer s Hp E hr hgu => ?_)
 have p := pc_def (P := P) (w := w) (K := K) (mg := mg) (base := base) (outer := outer) (H := Hp) (E := E) sc__law_next hr hgu
 exact (dss_cons (ds_set (i := 2) p.toPl.nds (fun _ => rfl) (fun _ => by first | exact Or.inl rfl | exact Or.inr rfl) (de_dix p.toPl (de_var 0) de_str))
  (dss_cons (ds_dput p.toPl (de_add p.toPl (de_var 2) de_int) (de_var 0) de_str)
  (dss_cons (ds_set (i := 3) p.toPl.nds (fun _ => rfl) (fun _ => by first | exact Or.inl rfl | exact Or.inr rfl) (de_dix p.toPl (de_var 0) de_str))
  (dss_cons (ds_set (i := 4) p.toPl.nds (fun _ => rfl) (fun _ => by first | exact Or.inl rfl | exact Or.inr rfl) (de_mod (de_var 2) (Fb.de (fb_max p.toPl) p.toPl T.b_max (da_rd de_int (da_rd (Fb.de (fb_len p.toPl) p.toPl T.b_len (da_rd (de_var 3) da_nil)) da_nil)))))
  (dss_cons (ds_if (dt_w (dw_and (Cp.dt (cp_ne0 p.toPl) (de_var 3) (de_lst da_nil) (nomark _)) (dw_and1 (Cp.dt cp_gt (de_ixO p.toPl (de_dix p.toPl (de_var 0) de_str) (de_var 4)) de_int (nomark _))))) (dss_cons (ds_set (i := 5) p.toPl.nds (fun _ => rfl) (fun _ => by first | exact Or.inl rfl | exact Or.inr rfl) (de_mod (de_ixO p.toPl (de_dix p.toPl (de_var 0) de_str) (de_var 4)) (de_var 1)))
  (dss_cons (ds_lput p.toPl (de_fdiv (de_ixO p.toPl (de_dix p.toPl (de_var 0) de_str) (de_var 4)) (de_var 1)) (de_dix p.toPl (de_var 0) de_str) (de_var 4))
  (dss_one (ds_ret (de_var 5))))) dss_nil)
  (dss_cons (ds_set (i := 6) p.toPl.nds (fun _ => rfl) (fun _ => by first | exact Or.inl rfl | exact Or.inr rfl) de_int)
  (dss_cons (ds_if (Cp.dt (cp_ne0 p.toPl) (de_var 3) (de_lst da_nil) (nomark _)) (dss_one (ds_set (i := 6) p.toPl.nds (fun _ => rfl) (fun _ => by first | exact Or.inl rfl | exact Or.inr rfl) (de_mod (de_ixA p.toPl (de_var 3) (de_var 4)) de_int))) dss_nil)
  (dss_cons (ds_set (i := 7) p.toPl.nds (fun _ => rfl) (fun _ => by first | exact Or.inl rfl | exact Or.inr rfl) (de_mod (de_mul (de_mod (de_mul (de_add p.toPl (de_add p.toPl (de_var 6) (de_mul (de_mul de_int (de_var 2)) (de_var 2))) (de_mul de_int (de_var 2))) de_int) de_int) de_int) de_int))
  (dss_one (ds_ret (de_mod (de_fdiv (de_mod (de_mul (de_fdiv (de_var 7) de_int) de_int) de_int) de_int) (de_var 1))))))))))))
theorem d__law_begun (T : Tt K mg w.params C_Known) (H : Tx P w K mg base n) : FnAt MX P w K mg base (xrK K) (n + 1) "_law_begun" ["_law_script"] [] (fnM 3 (m__law_begun (mir n))) := by
 refine fnAt_succ T._law_begun sc__law_begun (fun f cdv A outer s Hp E hr hgu => ?_)
 have p := pc_def (P := P) (w := w) (K := K) (mg := mg) (base := base) (outer := outer) (H := Hp) (E := E) sc__law_begun hr hgu
 exact (dss_cons (ds_set (i := 1) p.toPl.nds (fun _ => rfl) (fun _ => by first | exact Or.inl rfl | exact Or.inr rfl) (de_sl p.toPl (de_var 0) do_none (do_some de_int)))
  (dss_one (ds_ret (de_dispG (dp_cons (de_var 1) (dp_cons de_int (dp_cons (de_sto (de_lc (own := [("_law_cell", 2)]) p.c p.toPl.nds (fun _ => blkOk_by (N := ["_law_script", "_law_cells", "_law_cell"]) (sc := defScope s__law_begun) (by decide +kernel)) (di_any p.toPl (de_var 1)) (dg_name (p.blk _).toPl.nds (fun _ => rfl) (fun _ => by first | exact Or.inl rfl | exact Or.inr rfl)) dts_nil (de_mul (de_var 2) (Fb.de fb_int (p.blk _).toPl T.b_int (da_rd (Cp.de cp_ge (de_var 2) (de_pow de_int de_int) (nomark _)) da_nil))))) dp_nil))) rfl rfl (fun h => nomatch h) (by decide)))))
theorem d__law_names (T : Tt K mg w.params C_Known) (H : Tx P w K mg base n) : FnAt MX P w K mg base (xrK K) (n + 1) "_law_names" ["_law_m"] [] (fnM 4 (m__law_names (mir n))) := by
 refine fnAt_succ T._law_names sc__law_names (fun f cdv A outer s Hp E hr hgu => ?_)
 have p := pc_def (P := P) (w := w) (K := K) (mg := mg) (base := base) (outer := outer) (H := Hp) (E := E) sc__law_names hr hgu
 exact (dss_cons (ds_set (i := 1) p.toPl.nds (fun _ => rfl) (fun _ => by first | exact Or.inl rfl | exact Or.inr rfl) de_str)
  (dss_cons (ds_set (i := 2) p.toPl.nds (fun _ => rfl) (fun _ => by first | exact Or.inl rfl | exact Or.inr rfl) (de_add p.toPl (de_ixA p.toPl (de_var 1) (de_fn p H._law_next (da_es (de_var 0) (da_es de_int da_nil)) (len_cons (len_cons (fun _ _ _ h => len_nil h))))) (de_ixA p.toPl (de_lst (da_es de_str (da_es (de_ixA p.toPl (de_var 1) (de_fn p H._law_next (da_es (de_var 0) (da_es de_int da_nil)) (len_cons (len_cons (fun _ _ _ h => len_nil h))))) (da_es de_str da_nil)))) (de_fn p H._law_next (da_es (de_var 0) (da_es de_int da_nil)) (len_cons (len_cons (fun _ _ _ h => len_nil h)))))))
  (dss_one (ds_ret (de_sto (de_lc (own := [("_law_k", 3)]) p.c p.toPl.nds (fun _ => blkOk_by (N := ["_law_m", "_law_letters", "_law_head", "_law_k"]) (sc := defScope s__law_names) (by decide +kernel)) (di_range1 p.toPl T.b_range (da_rd de_int da_nil)) (dg_name (p.blk _).toPl.nds (fun _ => rfl) (fun _ => by first | exact Or.inl rfl | exact Or.inr rfl)) dts_nil (de_add (p.blk _).toPl (de_var 2) (Fb.de fb_str (p.blk _).toPl T.b_str (da_rd (de_mod (de_mul (de_var 3) de_int) de_int) da_nil)))))))))
theorem d__law_roll (T : Tt K mg w.params C_Known) (H : Tx P w K mg base n) : FnAt MX P w K mg base (xrK K) (n + 1) "_law_roll" [] [] (fnM 0 (m__law_roll (mir n))) := by
 refine fnAt_succ T._law_roll sc__law_roll (fun f cdv A outer s Hp E hr hgu => ?_)
 have p := pc_def (P := P) (w := w) (K := K) (mg := mg) (base := base) (outer := outer) (H := Hp) (E := E) sc__law_roll hr hgu
 exact (dss_one (ds_ret (de_dispG (dp_cons de_newD (dp_cons de_newD (dp_cons de_newD (dp_cons de_newD (dp_cons de_newD dp_nil))))) rfl rfl (fun h => nomatch h) (by decide))))
theorem d__law_with (T : Tt K mg w.params C_Known) (H : Tx P w K mg base n) : FnAt MX P w K mg base (xrK K) (n + 1) "_law_with" ["_law_roll_here", "_law_entry_here"] [] (fnM 5 (m__law_with (mir n))) := by
 refine fnAt_succ T._law_with sc__law_with (fun f cdv A outer s Hp E hr hgu => ?_)
 have p := pc_def (P := P) (w := w) (K := K) (mg := mg) (base := base) (outer := outer) (H := Hp) (E := E) sc__law_with hr hgu
 exact (dss_cons (ds_set (i := 2) p.toPl.nds (fun _ => rfl) (fun _ => by first | exact Or.inl rfl | exact Or.inr rfl) (de_lk 0 (de_dpairs p.toPl T.b_dict (de_lcF (own := [("_law_part", 4)]) p.c p.toPl.nds (fun _ => blkOk_by (N := ["_law_roll_here", "_law_entry_here", "_law_found", "_law_name", "_law_part"]) (sc := defScope s__law_with) (by decide +kernel)) (di_kyF p.toPl (de_var 0)) (dg_name (p.blk _).toPl.nds (fun _ => rfl) (fun _ => by first | exact Or.inl rfl | exact Or.inr rfl)) dts_nil (de_tup (da_es (de_var 4) (da_es (de_dcopy (p.blk _).toPl T.b_dict (de_dixF (p.blk _).toPl (de_var 0) (de_var 4))) da_nil)))))))
  (dss_cons (ds_if (Cp.dt (cp_eq p.toPl) (de_ixA p.toPl (de_var 1) de_int) de_str (nomark _)) (dss_cons (ds_dput p.toPl (de_ixA p.toPl (de_var 1) de_int) (de_dix p.toPl (de_var 2) de_str) (de_ixA p.toPl (de_var 1) de_int))
  (dss_one (ds_for own_def p.c (di_any p.toPl (de_ixA p.toPl (de_var 1) de_int)) (dg_name p.toPl.nds (fun _ => rfl) (fun _ => by first | exact Or.inl rfl | exact Or.inr rfl)) (dss_one (ds_dput p.toPl (de_tup (da_es (de_tup da_nil) (da_es (de_ixA p.toPl (de_var 1) de_int) da_nil))) (de_dix p.toPl (de_var 2) de_str) (de_var 3)))))) (dss_one (ds_if (Cp.dt (cp_eq p.toPl) (de_ixA p.toPl (de_var 1) de_int) de_str (nomark _)) (dss_one (ds_dput p.toPl (de_sl p.toPl (de_var 1) (do_some de_int) do_none) (de_dix p.toPl (de_var 2) de_str) (de_ixA p.toPl (de_var 1) de_int))) (dss_one (ds_if (Cp.dt (cp_inW p.toPl) (de_ixA p.toPl (de_var 1) de_int) (de_tup (da_es de_str (da_es de_str da_nil))) rfl) (dss_cons (ds_dput p.toPl (de_ixA p.toPl (de_var 1) de_int) (de_dix p.toPl (de_var 2) de_str) (de_ixA p.toPl (de_var 1) de_int))
  (dss_one (ds_if (Cp.dt (cp_eq p.toPl) (de_ixA p.toPl (de_var 1) de_int) de_str (nomark _)) (dss_one (ds_dput p.toPl (de_ixA p.toPl (de_var 1) de_int) (de_dix p.toPl (de_var 2) de_str) (de_ixA p.toPl (de_var 1) de_int))) dss_nil))) (dss_one (ds_dput p.toPl (de_ixA p.toPl (de_var 1) de_int) (de_dix p.toPl (de_var 2) de_str) (de_ixA p.toPl (de_var 1) de_int))))))))
  (dss_one (ds_ret (de_var 2)))))
theorem d__law_term (T : Tt K mg w.params C_Known) (H : Tx P w K mg base n) : FnAt MX P w K mg base (xrK K) (n + 1) "_law_term" ["_law_m", "_law_roll_here", "_law_around", "_law_sort", "_law_deep"] [] (fnM 12 (m__law_term (mir n))) := by
 refine fnAt_succ T._law_term sc__law_term (fun f cdv A outer s Hp E hr hgu => ?_)
 have p := pc_def (P := P) (w := w) (K := K) (mg := mg) (base := base) (outer := outer) (H := Hp) (E := E) sc__law_term hr hgu
 exact (dss_cons (ds_setLc (i := 5) (own := [("_law_k", 10), ("_law_one", 11)]) p.c p.toPl.nds (fun _ => rfl) (fun _ => rfl) (fun _ => sw_true rfl rfl rfl (by decide +kernel)) (fun _ => blkOk_by (N := ["_law_m", "_law_roll_here", "_law_around", "_law_sort", "_law_deep", "_law_some", "_law_calls", "_law_great", "_law_name", "_law_args", "_law_k", "_law_one"]) (sc := defScope s__law_term) (by decide +kernel)) (di_enum p.toPl T.b_enumerate (de_var 2)) (dg_tup (p.blk _).k (p.blk _).c (dgs_cons (dg_name (p.blk _).toPl.nds (fun _ => rfl) (fun _ => by first | exact Or.inl rfl | exact Or.inr rfl)) (dgs_cons (dg_name (p.blk _).toPl.nds (fun _ => rfl) (fun _ => by first | exact Or.inl rfl | exact Or.inr rfl)) dgs_nil))) (dts_one (Cp.dt (cp_eq (p.blk _).toPl) (de_var 11) (de_var 3) (nomark _))) (de_tup (da_es de_str (da_es (de_var 10) da_nil))))
  (dss_cons (ds_set (i := 6) p.toPl.nds (fun _ => rfl) (fun _ => by first | exact Or.inl rfl | exact Or.inr rfl) (de_dix p.toPl (de_var 1) de_str))
  (dss_cons (ds_set (i := 5) p.toPl.nds (fun _ => rfl) (fun _ => by first | exact Or.inl rfl | exact Or.inr rfl) (de_add p.toPl (de_var 5) (de_lc (own := [("_law_name", 8)]) p.c p.toPl.nds (fun _ => blkOk_by (N := ["_law_m", "_law_roll_here", "_law_around", "_law_sort", "_law_deep", "_law_some", "_law_calls", "_law_great", "_law_name", "_law_args", "_law_k", "_law_one"]) (sc := defScope s__law_term) (by decide +kernel)) (di_any p.toPl (de_dsort p.toPl T.b_sorted (de_var 6))) (dg_name (p.blk _).toPl.nds (fun _ => rfl) (fun _ => by first | exact Or.inl rfl | exact Or.inr rfl)) (dts_one (Cp.dt (cp_eq (p.blk _).toPl) (de_dix (p.blk _).toPl (de_var 6) (de_var 8)) (de_tup (da_es (de_tup da_nil) (da_es (de_var 3) da_nil))) (nomark _))) (de_tup (da_es de_str (da_es (de_var 8) (da_es (de_tup da_nil) da_nil)))))))
  (dss_cons (ds_setLc (i := 7) (own := [("_law_name", 8)]) p.c p.toPl.nds (fun _ => rfl) (fun _ => rfl) (fun _ => sw_true rfl rfl rfl (by decide +kernel)) (fun _ => blkOk_by (N := ["_law_m", "_law_roll_here", "_law_around", "_law_sort", "_law_deep", "_law_some", "_law_calls", "_law_great", "_law_name", "_law_args", "_law_k", "_law_one"]) (sc := defScope s__law_term) (by decide +kernel)) (di_any p.toPl (de_dsort p.toPl T.b_sorted (de_var 6))) (dg_name (p.blk _).toPl.nds (fun _ => rfl) (fun _ => by first | exact Or.inl rfl | exact Or.inr rfl)) (dts_one (dt_w (dw_and (Cp.dt (cp_eq (p.blk _).toPl) (de_ixA (p.blk _).toPl (de_dix (p.blk _).toPl (de_var 6) (de_var 8)) de_int) (de_var 3) (nomark _)) (dw_and1 (Cp.dt (cp_ne0 (p.blk _).toPl) (de_ixA (p.blk _).toPl (de_dix (p.blk _).toPl (de_var 6) (de_var 8)) de_int) (de_tup da_nil) (nomark _)))))) (de_var 8))
  (dss_cons (ds_if (dt_w (dw_and (Cp.dt (cp_ne0 p.toPl) (de_var 7) (de_lst da_nil) (nomark _)) (dw_and (Cp.dt cp_gt (de_var 4) de_int (nomark _)) (dw_and1 (dt_w (dw_or (Cp.dt (cp_eq0 p.toPl) (de_var 5) (de_lst da_nil) (nomark _)) (dw_or1 (Cp.dt (cp_eq p.toPl) (de_fn p H._law_next (da_es (de_var 0) (da_es de_int da_nil)) (len_cons (len_cons (fun _ _ _ h => len_nil h)))) de_int (nomark _))))))))) (dss_cons (ds_set (i := 8) p.toPl.nds (fun _ => rfl) (fun _ => by first | exact Or.inl rfl | exact Or.inr rfl) (de_ixA p.toPl (de_var 7) (de_fn p H._law_next (da_es (de_var 0) (da_es (Fb.de (fb_len p.toPl) p.toPl T.b_len (da_rd (de_var 7) da_nil)) da_nil)) (len_cons (len_cons (fun _ _ _ h => len_nil h))))))
  (dss_cons (ds_setLc (i := 9) (own := [("_law_one", 11)]) p.c p.toPl.nds (fun _ => rfl) (fun _ => rfl) (fun _ => sw_true rfl rfl rfl (by decide +kernel)) (fun _ => blkOk_by (N := ["_law_m", "_law_roll_here", "_law_around", "_law_sort", "_law_deep", "_law_some", "_law_calls", "_law_great", "_law_name", "_law_args", "_law_k", "_law_one"]) (sc := defScope s__law_term) (by decide +kernel)) (di_any p.toPl (de_ixA p.toPl (de_dix p.toPl (de_var 6) (de_var 8)) de_int)) (dg_name (p.blk _).toPl.nds (fun _ => rfl) (fun _ => by first | exact Or.inl rfl | exact Or.inr rfl)) dts_nil (de_fn (p.blk _) H._law_term (da_es (de_var 0) (da_es (de_var 1) (da_es (de_var 2) (da_es (de_var 11) (da_es (de_sub (de_var 4) de_int) da_nil))))) (len_cons (len_cons (len_cons (len_cons (len_cons (fun _ _ _ h => len_nil h))))))))
  (dss_one (ds_if (Cp.dt (cp_notInW p.toPl) de_non (de_var 9) rfl) (dss_one (ds_ret (de_tup (da_es de_str (da_es (de_var 8) (da_es (Fb.de (fb_tuple p.toPl) p.toPl T.b_tuple (da_rd (de_var 9) da_nil)) da_nil)))))) dss_nil)))) dss_nil)
  (dss_one (ds_ret (de_if (Cp.dt (cp_ne0 p.toPl) (de_var 5) (de_lst da_nil) (nomark _)) (de_ixA p.toPl (de_var 5) (de_fn p H._law_next (da_es (de_var 0) (da_es (Fb.de (fb_len p.toPl) p.toPl T.b_len (da_rd (de_var 5) da_nil)) da_nil)) (len_cons (len_cons (fun _ _ _ h => len_nil h))))) de_non))))))))
theorem d__law_leaf (T : Tt K mg w.params C_Known) (H : Tx P w K mg base n) : FnAt MX P w K mg base (xrK K) (n + 1) "_law_leaf" ["_law_m", "_law_roll_here", "_law_around"] [] (fnM 11 (m__law_leaf (mir n))) := by
 refine fnAt_succ T._law_leaf sc__law_leaf (fun f cdv A outer s Hp E hr hgu => ?_)
 have p := pc_def (P := P) (w := w) (K := K) (mg := mg) (base := base) (outer := outer) (H := Hp) (E := E) sc__law_leaf hr hgu
 exact (dss_cons (ds_set (i := 3) p.toPl.nds (fun _ => rfl) (fun _ => by first | exact Or.inl rfl | exact Or.inr rfl) (de_fn p H._law_next (da_es (de_var 0) (da_es de_int da_nil)) (len_cons (len_cons (fun _ _ _ h => len_nil h)))))
  (dss_cons (ds_set (i := 4) p.toPl.nds (fun _ => rfl) (fun _ => by first | exact Or.inl rfl | exact Or.inr rfl) (de_dsort p.toPl T.b_sorted (de_dix p.toPl (de_var 1) de_str)))
  (dss_cons (ds_set (i := 5) p.toPl.nds (fun _ => rfl) (fun _ => by first | exact Or.inl rfl | exact Or.inr rfl) (de_dsort p.toPl T.b_sorted (de_dix p.toPl (de_var 1) de_str)))
  (dss_cons (ds_if (dt_w (dw_and (Cp.dt cp_lt (de_var 3) de_int (nomark _)) (dw_and1 (Cp.dt (cp_ne0 p.toPl) (de_var 4) (de_lst da_nil) (nomark _))))) (dss_cons (ds_set (i := 6) p.toPl.nds (fun _ => rfl) (fun _ => by first | exact Or.inl rfl | exact Or.inr rfl) (de_ixA p.toPl (de_var 4) (de_fn p H._law_next (da_es (de_var 0) (da_es (Fb.de (fb_len p.toPl) p.toPl T.b_len (da_rd (de_var 4) da_nil)) da_nil)) (len_cons (len_cons (fun _ _ _ h => len_nil h))))))
  (dss_cons (ds_setLc (i := 7) (own := [("_law_sort", 8)]) p.c p.toPl.nds (fun _ => rfl) (fun _ => rfl) (fun _ => sw_true rfl rfl rfl (by decide +kernel)) (fun _ => blkOk_by (N := ["_law_m", "_law_roll_here", "_law_around", "_law_way", "_law_rels", "_law_sorts", "_law_name", "_law_args", "_law_sort", "_law_one", "_law_other"]) (sc := defScope s__law_leaf) (by decide +kernel)) (di_any p.toPl (de_dix p.toPl (de_dix p.toPl (de_var 1) de_str) (de_var 6))) (dg_name (p.blk _).toPl.nds (fun _ => rfl) (fun _ => by first | exact Or.inl rfl | exact Or.inr rfl)) dts_nil (de_fn (p.blk _) H._law_term (da_es (de_var 0) (da_es (de_var 1) (da_es (de_var 2) (da_es (de_var 8) (da_es de_int da_nil))))) (len_cons (len_cons (len_cons (len_cons (len_cons (fun _ _ _ h => len_nil h))))))))
  (dss_one (ds_if (Cp.dt (cp_notInW p.toPl) de_non (de_var 7) rfl) (dss_one (ds_ret (de_tup (da_es de_str (da_es (de_var 6) (da_es (Fb.de (fb_tuple p.toPl) p.toPl T.b_tuple (da_rd (de_var 7) da_nil)) da_nil)))))) dss_nil)))) dss_nil)
  (dss_cons (ds_if (dt_w (dw_and (Cp.dt cp_lt (de_var 3) de_int (nomark _)) (dw_and1 (Cp.dt (cp_ne0 p.toPl) (de_var 5) (de_lst da_nil) (nomark _))))) (dss_cons (ds_set (i := 8) p.toPl.nds (fun _ => rfl) (fun _ => by first | exact Or.inl rfl | exact Or.inr rfl) (de_ixA p.toPl (de_var 5) (de_fn p H._law_next (da_es (de_var 0) (da_es (Fb.de (fb_len p.toPl) p.toPl T.b_len (da_rd (de_var 5) da_nil)) da_nil)) (len_cons (len_cons (fun _ _ _ h => len_nil h))))))
  (dss_cons (ds_par (i := 9) (j := 10) p.c p.toPl.nds (fun _ => rfl) (fun _ => rfl) (by decide) (fun _ => rfl) (fun _ => rfl) (da_es (de_fn p H._law_term (da_es (de_var 0) (da_es (de_var 1) (da_es (de_var 2) (da_es (de_var 8) (da_es de_int da_nil))))) (len_cons (len_cons (len_cons (len_cons (len_cons (fun _ _ _ h => len_nil h))))))) (da_es (de_fn p H._law_term (da_es (de_var 0) (da_es (de_var 1) (da_es (de_var 2) (da_es (de_var 8) (da_es de_int da_nil))))) (len_cons (len_cons (len_cons (len_cons (len_cons (fun _ _ _ h => len_nil h))))))) da_nil)))
  (dss_one (ds_if (dt_w (dw_and (Cp.dt cp_isNot (de_var 9) de_non (nomark _)) (dw_and1 (Cp.dt cp_isNot (de_var 10) de_non (nomark _))))) (dss_one (ds_ret (de_tup (da_es de_str (da_es (de_var 9) (da_es (de_var 10) da_nil)))))) dss_nil)))) dss_nil)
  (dss_one (ds_ret (de_tup (da_es de_str da_nil)))))))))
theorem d__law_statement (T : Tt K mg w.params C_Known) (H : Tx P w K mg base n) : FnAt MX P w K mg base (xrK K) (n + 1) "_law_statement" ["_law_m", "_law_roll_here", "_law_around", "_law_deep"] [] (fnM 8 (m__law_statement (mir n))) := by
 refine fnAt_succ T._law_statement sc__law_statement (fun f cdv A outer s Hp E hr hgu => ?_)
 have p := pc_def (P := P) (w := w) (K := K) (mg := mg) (base := base) (outer := outer) (H := Hp) (E := E) sc__law_statement hr hgu
 exact (dss_cons (ds_set (i := 4) p.toPl.nds (fun _ => rfl) (fun _ => by first | exact Or.inl rfl | exact Or.inr rfl) (de_fn p H._law_next (da_es (de_var 0) (da_es de_int da_nil)) (len_cons (len_cons (fun _ _ _ h => len_nil h)))))
  (dss_cons (ds_if (dt_w (dw_or (Cp.dt cp_lt (de_var 3) de_int (nomark _)) (dw_or1 (Cp.dt cp_lt (de_var 4) de_int (nomark _))))) (dss_one (ds_ret (de_fn p H._law_leaf (da_es (de_var 0) (da_es (de_var 1) (da_es (de_var 2) da_nil))) (len_cons (len_cons (len_cons (fun _ _ _ h => len_nil h))))))) dss_nil)
  (dss_cons (ds_if (Cp.dt cp_lt (de_var 4) de_int (nomark _)) (dss_cons (ds_set (i := 5) p.toPl.nds (fun _ => rfl) (fun _ => by first | exact Or.inl rfl | exact Or.inr rfl) (de_fn p H._law_statement (da_es (de_var 0) (da_es (de_var 1) (da_es (de_var 2) (da_es (de_sub (de_var 3) de_int) da_nil)))) (len_cons (len_cons (len_cons (len_cons (fun _ _ _ h => len_nil h)))))))
  (dss_one (ds_ret (de_tup (da_es (de_ixA p.toPl (de_lst (da_es de_str (da_es de_str (da_es de_str da_nil)))) (de_sub (de_var 4) de_int)) (da_es (de_var 5) (da_es (de_fn p H._law_statement (da_es (de_var 0) (da_es (de_var 1) (da_es (de_var 2) (da_es (de_sub (de_var 3) de_int) da_nil)))) (len_cons (len_cons (len_cons (len_cons (fun _ _ _ h => len_nil h)))))) da_nil))))))) dss_nil)
  (dss_cons (ds_set (i := 6) p.toPl.nds (fun _ => rfl) (fun _ => by first | exact Or.inl rfl | exact Or.inr rfl) (de_dsort p.toPl T.b_sorted (de_dix p.toPl (de_var 1) de_str)))
  (dss_cons (ds_if (Cp.dt (cp_eq0 p.toPl) (de_var 6) (de_lst da_nil) (nomark _)) (dss_one (ds_ret (de_tup (da_es de_str da_nil)))) dss_nil)
  (dss_cons (ds_set (i := 7) p.toPl.nds (fun _ => rfl) (fun _ => by first | exact Or.inl rfl | exact Or.inr rfl) (de_ixA p.toPl (de_var 6) (de_fn p H._law_next (da_es (de_var 0) (da_es (Fb.de (fb_len p.toPl) p.toPl T.b_len (da_rd (de_var 6) da_nil)) da_nil)) (len_cons (len_cons (fun _ _ _ h => len_nil h))))))
  (dss_one (ds_ret (de_tup (da_es (de_ixA p.toPl (de_lst (da_es de_str (da_es de_str (da_es de_str da_nil)))) (de_sub (de_var 4) de_int)) (da_es (de_var 7) (da_es (de_fn p H._law_statement (da_es (de_var 0) (da_es (de_var 1) (da_es (de_add p.toPl (de_tup (da_es (de_var 7) da_nil)) (de_var 2)) (da_es (de_sub (de_var 3) de_int) da_nil)))) (len_cons (len_cons (len_cons (len_cons (fun _ _ _ h => len_nil h)))))) da_nil))))))))))))
theorem d__law_entry (T : Tt K mg w.params C_Known) (H : Tx P w K mg base n) : FnAt MX P w K mg base (xrK K) (n + 1) "_law_entry" ["_law_m", "_law_roll_here", "_law_names_here"] [] (fnM 8 (m__law_entry (mir n))) := by
 refine fnAt_succ T._law_entry sc__law_entry (fun f cdv A outer s Hp E hr hgu => ?_)
 have p := pc_def (P := P) (w := w) (K := K) (mg := mg) (base := base) (outer := outer) (H := Hp) (E := E) sc__law_entry hr hgu
 exact (dss_cons (ds_set (i := 3) p.toPl.nds (fun _ => rfl) (fun _ => by first | exact Or.inl rfl | exact Or.inr rfl) (de_dsort p.toPl T.b_sorted (de_dix p.toPl (de_var 1) de_str)))
  (dss_cons (ds_set (i := 4) p.toPl.nds (fun _ => rfl) (fun _ => by first | exact Or.inl rfl | exact Or.inr rfl) (de_mul (de_fn p H._law_next (da_es (de_var 0) (da_es de_int da_nil)) (len_cons (len_cons (fun _ _ _ h => len_nil h)))) (Fb.de fb_int p.toPl T.b_int (da_rd (Cp.de (cp_ne0 p.toPl) (de_var 3) (de_lst da_nil) (nomark _)) da_nil))))
  (dss_cons (ds_set (i := 5) p.toPl.nds (fun _ => rfl) (fun _ => by first | exact Or.inl rfl | exact Or.inr rfl) (de_popI p.toPl (de_var 2) (de_fn p H._law_next (da_es (de_var 0) (da_es de_int da_nil)) (len_cons (len_cons (fun _ _ _ h => len_nil h))))))
  (dss_cons (ds_if (Cp.dt (cp_eq p.toPl) (de_var 4) de_int (nomark _)) (dss_one (ds_ret (de_tup (da_es de_str (da_es (de_var 5) (da_es (Fb.de (fb_tuple p.toPl) p.toPl T.b_tuple (da_rd (de_lc (own := [("_law_k", 7)]) p.c p.toPl.nds (fun _ => blkOk_by (N := ["_law_m", "_law_roll_here", "_law_names_here", "_law_sorts", "_law_way", "_law_name", "_law_args", "_law_k"]) (sc := defScope s__law_entry) (by decide +kernel)) (di_range1 p.toPl T.b_range (da_rd (de_ixA p.toPl (de_lst (da_es de_int (da_es de_int (da_es de_int (da_es de_int (da_es de_int (da_es de_int da_nil))))))) (de_fn p H._law_next (da_es (de_var 0) (da_es de_int da_nil)) (len_cons (len_cons (fun _ _ _ h => len_nil h))))) da_nil)) (dg_name (p.blk _).toPl.nds (fun _ => rfl) (fun _ => by first | exact Or.inl rfl | exact Or.inr rfl)) dts_nil (de_popI (p.blk _).toPl (de_var 2) de_int)) da_nil)) da_nil)))))) dss_nil)
  (dss_cons (ds_set (i := 6) p.toPl.nds (fun _ => rfl) (fun _ => by first | exact Or.inl rfl | exact Or.inr rfl) (Fb.de (fb_tuple p.toPl) p.toPl T.b_tuple (da_rd (de_lc (own := [("_law_k", 7)]) p.c p.toPl.nds (fun _ => blkOk_by (N := ["_law_m", "_law_roll_here", "_law_names_here", "_law_sorts", "_law_way", "_law_name", "_law_args", "_law_k"]) (sc := defScope s__law_entry) (by decide +kernel)) (di_range1 p.toPl T.b_range (da_rd (de_fn p H._law_next (da_es (de_var 0) (da_es de_int da_nil)) (len_cons (len_cons (fun _ _ _ h => len_nil h)))) da_nil)) (dg_name (p.blk _).toPl.nds (fun _ => rfl) (fun _ => by first | exact Or.inl rfl | exact Or.inr rfl)) dts_nil (de_ixA (p.blk _).toPl (de_var 3) (de_fn (p.blk _) H._law_next (da_es (de_var 0) (da_es (Fb.de (fb_len (p.blk _).toPl) (p.blk _).toPl T.b_len (da_rd (de_var 3) da_nil)) da_nil)) (len_cons (len_cons (fun _ _ _ h => len_nil h)))))) da_nil)))
  (dss_cons (ds_if (Cp.dt cp_lt (de_var 4) de_int (nomark _)) (dss_one (ds_ret (de_tup (da_es de_str (da_es (de_var 5) (da_es (de_ixA p.toPl (de_lst (da_es (de_tup da_nil) (da_es (de_var 6) da_nil))) (de_fn p H._law_next (da_es (de_var 0) (da_es de_int da_nil)) (len_cons (len_cons (fun _ _ _ h => len_nil h))))) (da_es (de_ixA p.toPl (de_var 3) (de_fn p H._law_next (da_es (de_var 0) (da_es (Fb.de (fb_len p.toPl) p.toPl T.b_len (da_rd (de_var 3) da_nil)) da_nil)) (len_cons (len_cons (fun _ _ _ h => len_nil h))))) da_nil))))))) dss_nil)
  (dss_cons (ds_if (Cp.dt (cp_eq p.toPl) (de_var 4) de_int (nomark _)) (dss_one (ds_ret (de_tup (da_es de_str (da_es (de_var 5) (da_es (de_var 6) da_nil)))))) dss_nil)
  (dss_cons (ds_if (Cp.dt (cp_eq p.toPl) (de_var 4) de_int (nomark _)) (dss_one (ds_ret (de_tup (da_es de_str (da_es (de_var 5) (da_es (de_var 6) (da_es (de_fn p H._law_statement (da_es (de_var 0) (da_es (de_var 1) (da_es (de_rev p.toPl (de_var 6)) (da_es de_int da_nil)))) (len_cons (len_cons (len_cons (len_cons (fun _ _ _ h => len_nil h)))))) da_nil))))))) dss_nil)
  (dss_one (ds_ret (de_tup (da_es de_str (da_es (de_var 5) (da_es (de_fn p H._law_statement (da_es (de_var 0) (da_es (de_var 1) (da_es (de_tup da_nil) (da_es de_int da_nil)))) (len_cons (len_cons (len_cons (len_cons (fun _ _ _ h => len_nil h)))))) da_nil))))))))))))))
theorem d__law_all (T : Tt K mg w.params C_Known) (H : Tx P w K mg base n) : FnAt MX P w K mg base (xrK K) (n + 1) "_law_all" ["_law_known", "_law_names_here"] [] (fnM 5 (m__law_all (mir n))) := by
 refine fnAt_succ T._law_all sc__law_all (fun f cdv A outer s Hp E hr hgu => ?_)
 have p := pc_def (P := P) (w := w) (K := K) (mg := mg) (base := base) (outer := outer) (H := Hp) (E := E) sc__law_all hr hgu
 exact (dss_cons (ds_set (i := 2) p.toPl.nds (fun _ => rfl) (fun _ => by first | exact Or.inl rfl | exact Or.inr rfl) (de_lst (da_es (de_meth0 p H.Known_names (de_var 0)) da_nil)))
  (dss_cons (ds_for own_def p.c (di_any p.toPl (de_var 1)) (dg_name p.toPl.nds (fun _ => rfl) (fun _ => by first | exact Or.inl rfl | exact Or.inr rfl)) (dss_cons (ds_set (i := 4) p.toPl.nds (fun _ => rfl) (fun _ => by first | exact Or.inl rfl | exact Or.inr rfl) (de_lst (da_es (de_meth p H.Known_members (de_var 0) (da_es (de_var 3) da_nil) (len_cons (fun _ _ _ h => len_nil h))) (da_es (de_meth p H.Known_func (de_var 0) (da_es (de_var 3) da_nil) (len_cons (fun _ _ _ h => len_nil h))) (da_es (de_meth p H.Known_rel (de_var 0) (da_es (de_var 3) da_nil) (len_cons (fun _ _ _ h => len_nil h))) (da_es (de_meth p H.Known_meaning (de_var 0) (da_es (de_var 3) da_nil) (len_cons (fun _ _ _ h => len_nil h))) da_nil))))))
  (dss_one (ds_expr (de_append (i := 2) p.k (fun _ => rfl) (fun _ => by first | exact Or.inl rfl | exact Or.inr (Or.inl rfl) | exact Or.inr (Or.inr rfl)) (by decide) (by decide) (de_add p.toPl (de_var 4) (de_lst (da_es (de_meth p H.Known_statement (de_var 0) (da_es (de_var 3) da_nil) (len_cons (fun _ _ _ h => len_nil h))) da_nil))))))))
  (dss_one (ds_ret (de_var 2)))))
theorem d__law_due (T : Tt K mg w.params C_Known) (H : Tx P w K mg base n) : FnAt MX P w K mg base (xrK K) (n + 1) "_law_due" ["_law_roll_here", "_law_names_here"] [] (fnM 6 (m__law_due (mir n))) := by
 refine fnAt_succ T._law_due sc__law_due (fun f cdv A outer s Hp E hr hgu => ?_)
 have p := pc_def (P := P) (w := w) (K := K) (mg := mg) (base := base) (outer := outer) (H := Hp) (E := E) sc__law_due hr hgu
 exact (dss_cons (ds_set (i := 2) p.toPl.nds (fun _ => rfl) (fun _ => by first | exact Or.inl rfl | exact Or.inr rfl) (de_lst (da_es de_str (da_es de_str (da_es de_str (da_es de_str (da_es de_str da_nil)))))))
  (dss_cons (ds_set (i := 3) p.toPl.nds (fun _ => rfl) (fun _ => by first | exact Or.inl rfl | exact Or.inr rfl) (de_lst (da_es (Fb.de (fb_sortS p.toPl) p.toPl T.b_sorted (da_rd (Fb.de (fb_sumL p.toPl) p.toPl T.b_sum (da_rd (de_lc (own := [("_law_part", 5)]) p.c p.toPl.nds (fun _ => blkOk_by (N := ["_law_roll_here", "_law_names_here", "_law_parts", "_law_found", "_law_name", "_law_part"]) (sc := defScope s__law_due) (by decide +kernel)) (di_any p.toPl (de_var 2)) (dg_name (p.blk _).toPl.nds (fun _ => rfl) (fun _ => by first | exact Or.inl rfl | exact Or.inr rfl)) (dts_one (Cp.dt (cp_ne (p.blk _).toPl) (de_var 5) de_str (nomark _))) (de_dlist (p.blk _).toPl T.b_list (de_dix (p.blk _).toPl (de_var 0) (de_var 5)))) (da_rd (de_lst da_nil) da_nil))) da_nil)) da_nil)))
  (dss_cons (ds_for own_def p.c (di_any p.toPl (de_var 1)) (dg_name p.toPl.nds (fun _ => rfl) (fun _ => by first | exact Or.inl rfl | exact Or.inr rfl)) (dss_one (ds_expr (de_append (i := 3) p.k (fun _ => rfl) (fun _ => by first | exact Or.inl rfl | exact Or.inr (Or.inl rfl) | exact Or.inr (Or.inr rfl)) (by decide) (by decide) (de_lc (own := [("_law_part", 5)]) p.c p.toPl.nds (fun _ => blkOk_by (N := ["_law_roll_here", "_law_names_here", "_law_parts", "_law_found", "_law_name", "_law_part"]) (sc := defScope s__law_due) (by decide +kernel)) (di_any p.toPl (de_var 2)) (dg_name (p.blk _).toPl.nds (fun _ => rfl) (fun _ => by first | exact Or.inl rfl | exact Or.inr rfl)) dts_nil (de_dget1 (p.blk _).toPl (de_dix (p.blk _).toPl (de_var 0) (de_var 5)) (de_var 4) (fun _ => ⟨rfl, rfl, rfl, rfl⟩)))))))
  (dss_one (ds_ret (de_var 3))))))
theorem tx_zero (T : Tt K mg w.params C_Known) (sb : SysB base) : Tx P w K mg base 0 := ⟨sb, mkAt_zero T.mk_Known 0, mkAt_zero T.mk_Known 1, meAt_zero T.Known_again, meAt_zero T.Known_with_entry, meAt_zero T.Known_members, meAt_zero T.Known_func, meAt_zero T.Known_rel, meAt_zero T.Known_meaning, meAt_zero T.Known_statement, meAt_zero T.Known_names, fnAt_zero T._law_next, fnAt_zero T._law_begun, fnAt_zero T._law_names, fnAt_zero T._law_roll, fnAt_zero T._law_with, fnAt_zero T._law_term, fnAt_zero T._law_leaf, fnAt_zero T._law_statement, fnAt_zero T._law_entry, fnAt_zero T._law_all, fnAt_zero T._law_due⟩
theorem tx_succ (T : Tt K mg w.params C_Known) (H : Tx P w K mg base n) : Tx P w K mg base (n + 1) := ⟨H.sb, H.ini_Known, d_Known___init__ T H, d_Known_again T H, d_Known_with_entry T H, d_Known_members T H, d_Known_func T H, d_Known_rel T H, d_Known_meaning T H, d_Known_statement T H, d_Known_names T H, d__law_next T H, d__law_begun T H, d__law_names T H, d__law_roll T H, d__law_with T H, d__law_term T H, d__law_leaf T H, d__law_statement T H, d__law_entry T H, d__law_all T H, d__law_due T H⟩
theorem tx_all (T : Tt K mg w.params C_Known) (sb : SysB base) : ∀ n : Nat, Tx P w K mg base n
 | 0 => tx_zero T sb
 | n + 1 => tx_succ T (tx_all T sb n)
theorem d_law (T : Tt K mg w.params C_Known) (sb : SysB base) {f : Addr} {fd : FuncData} (hF : FunD K "law" "law" (defArgs s_law) (defBody s_law) (defScope s_law) [] [] f fd)
  (hp : ∀ ns : List Int, ns.length ≤ 63 → (∀ z ∈ ns, Builtin.Int.intBits z ≤ 1048576) → ∃ z', m_law (mir lawLevel) (mirI lawLevel) (zX 11 ns) = .ok (.rt (.d (.bl true))) z') : FnG P w K mg base (L2.CX P w) (lawLevel + 9) f fd ["_law_script"] (spLaw K) := by
 have H : Tx P w K mg base lawLevel := tx_all T sb lawLevel
 refine okG hF sc_law (fun vs H Q E h => by obtain ⟨a, ns, rfl, _⟩ := h; rfl) (fun cdv A outer s Hp vs Q E hr hgu h => ?_)
 have p := pc_def (P := P) (w := w) (K := K) (mg := mg) (base := base) (outer := outer) (H := Hp) (E := E) sc_law hr hgu
 obtain ⟨t, pt, ct⟩ : DSs MX (xrK K) K (fun _ : Unit => cxOf (L2.CX P w) P w K mg base ["_law_script", "_law_m", "_law_names_here", "_law_every", "_law_rolls", "_law_told", "_law_k", "_law_entry_here", "_law_known", "_law_roll_here", "_law_turn", "_law_found"] "law" (defScope s_law) f cdv A outer s Hp E) (fun cls d _ H => E cls d H) (defBody s_law) (m_law (mir lawLevel) (mirI lawLevel)) :=
  (dss_cons (ds_set (i := 1) p.toPl.nds (fun _ => rfl) (fun _ => by first | exact Or.inl rfl | exact Or.inr rfl) (de_fn p H._law_begun (da_es (de_var 0) da_nil) (len_cons (fun _ _ _ h => len_nil h))))
  (dss_cons (ds_set (i := 2) p.toPl.nds (fun _ => rfl) (fun _ => by first | exact Or.inl rfl | exact Or.inr rfl) (de_fn p H._law_names (da_es (de_var 1) da_nil) (len_cons (fun _ _ _ h => len_nil h))))
  (dss_cons (ds_set (i := 3) p.toPl.nds (fun _ => rfl) (fun _ => by first | exact Or.inl rfl | exact Or.inr rfl) (de_add p.toPl (Fb.deO (fb_list p.toPl) p.toPl T.b_list (da_rd (de_var 2) da_nil)) (de_lst (da_es de_str (da_es de_str da_nil)))))
  (dss_cons (ds_set (i := 4) p.toPl.nds (fun _ => rfl) (fun _ => by first | exact Or.inl rfl | exact Or.inr rfl) (de_lst (da_es (de_fn0 p H._law_roll) da_nil)))
  (dss_cons (ds_set (i := 5) p.toPl.nds (fun _ => rfl) (fun _ => by first | exact Or.inl rfl | exact Or.inr rfl) (de_lst (da_es (de_make0 p H.mk_Known) da_nil)))
  (dss_cons (ds_for own_def p.c (di_range1 p.toPl T.b_range (da_rd (Fb.de (fb_max p.toPl) p.toPl T.b_max (da_rd (de_add p.toPl de_int (de_fn p H._law_next (da_es (de_var 1) (da_es de_int da_nil)) (len_cons (len_cons (fun _ _ _ h => len_nil h))))) (da_rd (Fb.de (fb_min p.toPl) p.toPl T.b_min (da_rd de_int (da_rd (Fb.de (fb_len p.toPl) p.toPl T.b_len (da_rd (de_var 0) da_nil)) da_nil))) da_nil))) da_nil)) (dg_name p.toPl.nds (fun _ => rfl) (fun _ => by first | exact Or.inl rfl | exact Or.inr rfl)) (dss_cons (ds_set (i := 7) p.toPl.nds (fun _ => rfl) (fun _ => by first | exact Or.inl rfl | exact Or.inr rfl) (de_fn p H._law_entry (da_es (de_var 1) (da_es (de_ixA p.toPl (de_var 4) (de_neg de_int)) (da_es (de_var 2) da_nil))) (len_cons (len_cons (len_cons (fun _ _ _ h => len_nil h))))))
  (dss_cons (ds_expr (de_append (i := 4) p.k (fun _ => rfl) (fun _ => by first | exact Or.inl rfl | exact Or.inr (Or.inl rfl) | exact Or.inr (Or.inr rfl)) (by decide) (by decide) (de_fn p H._law_with (da_es (de_ixA p.toPl (de_var 4) (de_neg de_int)) (da_es (de_var 7) da_nil)) (len_cons (len_cons (fun _ _ _ h => len_nil h))))))
  (dss_cons (ds_expr (de_append (i := 5) p.k (fun _ => rfl) (fun _ => by first | exact Or.inl rfl | exact Or.inr (Or.inl rfl) | exact Or.inr (Or.inr rfl)) (by decide) (by decide) (de_meth p H.Known_with_entry (de_ixA p.toPl (de_var 5) (de_neg de_int)) (da_es (de_var 7) da_nil) (len_cons (fun _ _ _ h => len_nil h)))))
  (dss_one (ds_if (Cp.dt cp_lt (Fb.deO (fb_len p.toPl) p.toPl T.b_len (da_rd (de_var 2) da_nil)) de_int (nomark _)) (dss_one ds_break) dss_nil))))))
  (dss_cons (ds_for own_def p.c (di_zip p.toPl T.b_zip (da_es (de_var 5) (da_es (de_var 4) da_nil))) (dg_tup p.k p.c (dgs_cons (dg_name p.toPl.nds (fun _ => rfl) (fun _ => by first | exact Or.inl rfl | exact Or.inr rfl)) (dgs_cons (dg_name p.toPl.nds (fun _ => rfl) (fun _ => by first | exact Or.inl rfl | exact Or.inr rfl)) dgs_nil))) (dss_one (ds_for own_def p.c (di_range1 p.toPl T.b_range (da_rd de_int da_nil)) (dg_name p.toPl.nds (fun _ => rfl) (fun _ => by first | exact Or.inl rfl | exact Or.inr rfl)) (dss_cons (ds_set (i := 11) p.toPl.nds (fun _ => rfl) (fun _ => by first | exact Or.inl rfl | exact Or.inr rfl) (de_fn p H._law_all (da_es (de_var 8) (da_es (de_var 3) da_nil)) (len_cons (len_cons (fun _ _ _ h => len_nil h)))))
  (dss_cons (ds_if (Cp.dt (cp_neT p.toPl) (de_reprO p H.sb T.b_repr (da_rd (de_var 11) da_nil)) (Fb.de (fb_reprT p H.sb) p.toPl T.b_repr (da_rd (de_fn p H._law_due (da_es (de_var 9) (da_es (de_var 3) da_nil)) (len_cons (len_cons (fun _ _ _ h => len_nil h)))) da_nil)) (nomark _)) (dss_one (ds_ret de_bl)) dss_nil)
  (dss_one (ds_expr (de_appendO p.toPl (de_ixA p.toPl (de_var 11) de_int) de_str))))))))
  (dss_one (ds_ret de_bl)))))))))
 exact ⟨_, pt (), law_runX (N := ["_law_script", "_law_m", "_law_names_here", "_law_every", "_law_rolls", "_law_told", "_law_k", "_law_entry_here", "_law_known", "_law_roll_here", "_law_turn", "_law_found"]) (by decide) hp ct h⟩
end
theorem all_mk {l : PySem.W.OpenLaw} {w : World} {K : PySem.W.Frag} {h : Heap} {mg : Str → Option Value} {fa f0 f1 f2 f3 f4 f5 f6 f7 f8 f9 f10 f11 f12 f13 f14 f15 f16 f17 f18 f19 f20 : Addr} (X : K.In h) (G0 : h.Ns mainGlobals mg) (hfa : mg "law" = some (.ref fa))
  {od0 an0 od1 an1 od2 an2 od3 an3 od4 an4 od5 an5 od6 an6 od7 an7 od8 an8 od9 an9 od10 an10 od11 an11 od12 an12 od13 an13 od14 an14 od15 an15 od16 an16 od17 an17 od18 an18 od19 an19 od20 an20 : Option Addr} {sl0 sl1 sl2 sl3 sl4 sl5 sl6 sl7 sl8 sl9 sl10 sl11 sl12 sl13 sl14 sl15 sl16 sl17 sl18 sl19 sl20 : Array (Option Value)} {oc0 kV0 dc0 pm0 cd0 ct0 oc1 kV1 dc1 pm1 cd1 ct1 oc2 kV2 dc2 pm2 cd2 ct2 oc3 kV3 dc3 pm3 cd3 ct3 oc4 kV4 dc4 pm4 cd4 ct4 oc5 kV5 dc5 pm5 cd5 ct5 oc6 kV6 dc6 pm6 cd6 ct6 oc7 kV7 dc7 pm7 cd7 ct7 oc8 kV8 dc8 pm8 cd8 ct8 oc9 kV9 dc9 pm9 cd9 ct9 oc10 kV10 dc10 pm10 cd10 ct10 oc11 kV11 dc11 pm11 cd11 ct11 oc12 kV12 dc12 pm12 cd12 ct12 oc13 kV13 dc13 pm13 cd13 ct13 oc14 kV14 dc14 pm14 cd14 ct14 oc15 kV15 dc15 pm15 cd15 ct15 oc16 kV16 dc16 pm16 cd16 ct16 oc17 kV17 dc17 pm17 cd17 ct17 oc18 kV18 dc18 pm18 cd18 ct18 oc19 kV19 dc19 pm19 cd19 ct19 oc20 kV20 dc20 pm20 cd20 ct20 : Value}
  {C_Known : Addr} (ca_Known : PySem.W.nsIn K mainGlobals "Known" = some (some (.ref C_Known)))
  (cb1_Known : PySem.W.plainGet K C_Known Str.empty = true)
  (cb2_Known : PySem.W.hasDictIn K C_Known = true)
  (cb3_Known : PySem.W.plainOver K C_Known = true)
  (cb4_Known : PySem.W.findIn K (.ref C_Known) "__setattr__" = some (some (.builtin "object.__setattr__")))
  (cm1_Known : PySem.W.makesIn K C_Known = true)
  (cm2_Known : PySem.W.keepIn K (.ref C_Known) = true)
  (na_Known_told_calls : PySem.W.findIn K (.ref C_Known) "told_calls" = some none)
  (na_Known_told_facts : PySem.W.findIn K (.ref C_Known) "told_facts" = some none)
  (na_Known_told_means : PySem.W.findIn K (.ref C_Known) "told_means" = some none)
  (na_Known_told_rels : PySem.W.findIn K (.ref C_Known) "told_rels" = some none)
  (na_Known_told_sorts : PySem.W.findIn K (.ref C_Known) "told_sorts" = some none)
  (a0 : PySem.W.findIn K (.ref C_Known) "__init__" = some (some (.ref f0))) (n0 : PySem.W.isFn K (.ref f0) = true) (l0 : K.lookup f0 = some ⟨oc0, od0, .func (PySem.W.fnOf "__init__" "Known.__init__" (defArgs s_Known___init__) (defBody s_Known___init__) (defScope s_Known___init__) .none kV0 dc0 pm0 an0 cd0 ct0), sl0⟩) (c0 : PySem.W.codeIn K cd0 "Known.__init__" = true) (k0 : PySem.W.keepIn K (.ref f0) = true)
  (a1 : PySem.W.findIn K (.ref C_Known) "again" = some (some (.ref f1))) (n1 : PySem.W.isFn K (.ref f1) = true) (l1 : K.lookup f1 = some ⟨oc1, od1, .func (PySem.W.fnOf "again" "Known.again" (defArgs s_Known_again) (defBody s_Known_again) (defScope s_Known_again) .none kV1 dc1 pm1 an1 cd1 ct1), sl1⟩) (c1 : PySem.W.codeIn K cd1 "Known.again" = true) (k1 : PySem.W.keepIn K (.ref f1) = true)
  (a2 : PySem.W.findIn K (.ref C_Known) "with_entry" = some (some (.ref f2))) (n2 : PySem.W.isFn K (.ref f2) = true) (l2 : K.lookup f2 = some ⟨oc2, od2, .func (PySem.W.fnOf "with_entry" "Known.with_entry" (defArgs s_Known_with_entry) (defBody s_Known_with_entry) (defScope s_Known_with_entry) .none kV2 dc2 pm2 an2 cd2 ct2), sl2⟩) (c2 : PySem.W.codeIn K cd2 "Known.with_entry" = true) (k2 : PySem.W.keepIn K (.ref f2) = true)
  (a3 : PySem.W.findIn K (.ref C_Known) "members" = some (some (.ref f3))) (n3 : PySem.W.isFn K (.ref f3) = true) (l3 : K.lookup f3 = some ⟨oc3, od3, .func (PySem.W.fnOf "members" "Known.members" (defArgs s_Known_members) (defBody s_Known_members) (defScope s_Known_members) .none kV3 dc3 pm3 an3 cd3 ct3), sl3⟩) (c3 : PySem.W.codeIn K cd3 "Known.members" = true) (k3 : PySem.W.keepIn K (.ref f3) = true)
  (a4 : PySem.W.findIn K (.ref C_Known) "func" = some (some (.ref f4))) (n4 : PySem.W.isFn K (.ref f4) = true) (l4 : K.lookup f4 = some ⟨oc4, od4, .func (PySem.W.fnOf "func" "Known.func" (defArgs s_Known_func) (defBody s_Known_func) (defScope s_Known_func) .none kV4 dc4 pm4 an4 cd4 ct4), sl4⟩) (c4 : PySem.W.codeIn K cd4 "Known.func" = true) (k4 : PySem.W.keepIn K (.ref f4) = true)
  (a5 : PySem.W.findIn K (.ref C_Known) "rel" = some (some (.ref f5))) (n5 : PySem.W.isFn K (.ref f5) = true) (l5 : K.lookup f5 = some ⟨oc5, od5, .func (PySem.W.fnOf "rel" "Known.rel" (defArgs s_Known_rel) (defBody s_Known_rel) (defScope s_Known_rel) .none kV5 dc5 pm5 an5 cd5 ct5), sl5⟩) (c5 : PySem.W.codeIn K cd5 "Known.rel" = true) (k5 : PySem.W.keepIn K (.ref f5) = true)
  (a6 : PySem.W.findIn K (.ref C_Known) "meaning" = some (some (.ref f6))) (n6 : PySem.W.isFn K (.ref f6) = true) (l6 : K.lookup f6 = some ⟨oc6, od6, .func (PySem.W.fnOf "meaning" "Known.meaning" (defArgs s_Known_meaning) (defBody s_Known_meaning) (defScope s_Known_meaning) .none kV6 dc6 pm6 an6 cd6 ct6), sl6⟩) (c6 : PySem.W.codeIn K cd6 "Known.meaning" = true) (k6 : PySem.W.keepIn K (.ref f6) = true)
  (a7 : PySem.W.findIn K (.ref C_Known) "statement" = some (some (.ref f7))) (n7 : PySem.W.isFn K (.ref f7) = true) (l7 : K.lookup f7 = some ⟨oc7, od7, .func (PySem.W.fnOf "statement" "Known.statement" (defArgs s_Known_statement) (defBody s_Known_statement) (defScope s_Known_statement) .none kV7 dc7 pm7 an7 cd7 ct7), sl7⟩) (c7 : PySem.W.codeIn K cd7 "Known.statement" = true) (k7 : PySem.W.keepIn K (.ref f7) = true)
  (a8 : PySem.W.findIn K (.ref C_Known) "names" = some (some (.ref f8))) (n8 : PySem.W.isFn K (.ref f8) = true) (l8 : K.lookup f8 = some ⟨oc8, od8, .func (PySem.W.fnOf "names" "Known.names" (defArgs s_Known_names) (defBody s_Known_names) (defScope s_Known_names) .none kV8 dc8 pm8 an8 cd8 ct8), sl8⟩) (c8 : PySem.W.codeIn K cd8 "Known.names" = true) (k8 : PySem.W.keepIn K (.ref f8) = true)
  (a9 : PySem.W.nsIn K mainGlobals "_law_next" = some (some (.ref f9))) (l9 : K.lookup f9 = some ⟨oc9, od9, .func (PySem.W.fnOf "_law_next" "_law_next" (defArgs s__law_next) (defBody s__law_next) (defScope s__law_next) .none kV9 dc9 pm9 an9 cd9 ct9), sl9⟩) (c9 : PySem.W.codeIn K cd9 "_law_next" = true) (k9 : PySem.W.keepIn K (.ref f9) = true)
  (a10 : PySem.W.nsIn K mainGlobals "_law_begun" = some (some (.ref f10))) (l10 : K.lookup f10 = some ⟨oc10, od10, .func (PySem.W.fnOf "_law_begun" "_law_begun" (defArgs s__law_begun) (defBody s__law_begun) (defScope s__law_begun) .none kV10 dc10 pm10 an10 cd10 ct10), sl10⟩) (c10 : PySem.W.codeIn K cd10 "_law_begun" = true) (k10 : PySem.W.keepIn K (.ref f10) = true)
  (a11 : PySem.W.nsIn K mainGlobals "_law_names" = some (some (.ref f11))) (l11 : K.lookup f11 = some ⟨oc11, od11, .func (PySem.W.fnOf "_law_names" "_law_names" (defArgs s__law_names) (defBody s__law_names) (defScope s__law_names) .none kV11 dc11 pm11 an11 cd11 ct11), sl11⟩) (c11 : PySem.W.codeIn K cd11 "_law_names" = true) (k11 : PySem.W.keepIn K (.ref f11) = true)
  (a12 : PySem.W.nsIn K mainGlobals "_law_roll" = some (some (.ref f12))) (l12 : K.lookup f12 = some ⟨oc12, od12, .func (PySem.W.fnOf "_law_roll" "_law_roll" (defArgs s__law_roll) (defBody s__law_roll) (defScope s__law_roll) .none kV12 dc12 pm12 an12 cd12 ct12), sl12⟩) (c12 : PySem.W.codeIn K cd12 "_law_roll" = true) (k12 : PySem.W.keepIn K (.ref f12) = true)
  (a13 : PySem.W.nsIn K mainGlobals "_law_with" = some (some (.ref f13))) (l13 : K.lookup f13 = some ⟨oc13, od13, .func (PySem.W.fnOf "_law_with" "_law_with" (defArgs s__law_with) (defBody s__law_with) (defScope s__law_with) .none kV13 dc13 pm13 an13 cd13 ct13), sl13⟩) (c13 : PySem.W.codeIn K cd13 "_law_with" = true) (k13 : PySem.W.keepIn K (.ref f13) = true)
  (a14 : PySem.W.nsIn K mainGlobals "_law_term" = some (some (.ref f14))) (l14 : K.lookup f14 = some ⟨oc14, od14, .func (PySem.W.fnOf "_law_term" "_law_term" (defArgs s__law_term) (defBody s__law_term) (defScope s__law_term) .none kV14 dc14 pm14 an14 cd14 ct14), sl14⟩) (c14 : PySem.W.codeIn K cd14 "_law_term" = true) (k14 : PySem.W.keepIn K (.ref f14) = true)
  (a15 : PySem.W.nsIn K mainGlobals "_law_leaf" = some (some (.ref f15))) (l15 : K.lookup f15 = some ⟨oc15, od15, .func (PySem.W.fnOf "_law_leaf" "_law_leaf" (defArgs s__law_leaf) (defBody s__law_leaf) (defScope s__law_leaf) .none kV15 dc15 pm15 an15 cd15 ct15), sl15⟩) (c15 : PySem.W.codeIn K cd15 "_law_leaf" = true) (k15 : PySem.W.keepIn K (.ref f15) = true)
  (a16 : PySem.W.nsIn K mainGlobals "_law_statement" = some (some (.ref f16))) (l16 : K.lookup f16 = some ⟨oc16, od16, .func (PySem.W.fnOf "_law_statement" "_law_statement" (defArgs s__law_statement) (defBody s__law_statement) (defScope s__law_statement) .none kV16 dc16 pm16 an16 cd16 ct16), sl16⟩) (c16 : PySem.W.codeIn K cd16 "_law_statement" = true) (k16 : PySem.W.keepIn K (.ref f16) = true)
  (a17 : PySem.W.nsIn K mainGlobals "_law_entry" = some (some (.ref f17))) (l17 : K.lookup f17 = some ⟨oc17, od17, .func (PySem.W.fnOf "_law_entry" "_law_entry" (defArgs s__law_entry) (defBody s__law_entry) (defScope s__law_entry) .none kV17 dc17 pm17 an17 cd17 ct17), sl17⟩) (c17 : PySem.W.codeIn K cd17 "_law_entry" = true) (k17 : PySem.W.keepIn K (.ref f17) = true)
  (a18 : PySem.W.nsIn K mainGlobals "_law_all" = some (some (.ref f18))) (l18 : K.lookup f18 = some ⟨oc18, od18, .func (PySem.W.fnOf "_law_all" "_law_all" (defArgs s__law_all) (defBody s__law_all) (defScope s__law_all) .none kV18 dc18 pm18 an18 cd18 ct18), sl18⟩) (c18 : PySem.W.codeIn K cd18 "_law_all" = true) (k18 : PySem.W.keepIn K (.ref f18) = true)
  (a19 : PySem.W.nsIn K mainGlobals "_law_due" = some (some (.ref f19))) (l19 : K.lookup f19 = some ⟨oc19, od19, .func (PySem.W.fnOf "_law_due" "_law_due" (defArgs s__law_due) (defBody s__law_due) (defScope s__law_due) .none kV19 dc19 pm19 an19 cd19 ct19), sl19⟩) (c19 : PySem.W.codeIn K cd19 "_law_due" = true) (k19 : PySem.W.keepIn K (.ref f19) = true)
  (a20 : PySem.W.nsIn K mainGlobals "law" = some (some (.ref f20))) (l20 : K.lookup f20 = some ⟨oc20, od20, .func (PySem.W.fnOf "law" "law" (defArgs s_law) (defBody s_law) (defScope s_law) .none kV20 dc20 pm20 an20 cd20 ct20), sl20⟩) (c20 : PySem.W.codeIn K cd20 "law" = true) (k20 : PySem.W.keepIn K (.ref f20) = true)
  (z_dict : PySem.W.nsIn K mainGlobals "dict" = some none)
  (z_enumerate : PySem.W.nsIn K mainGlobals "enumerate" = some none)
  (z_int : PySem.W.nsIn K mainGlobals "int" = some none)
  (z_len : PySem.W.nsIn K mainGlobals "len" = some none)
  (z_list : PySem.W.nsIn K mainGlobals "list" = some none)
  (z_max : PySem.W.nsIn K mainGlobals "max" = some none)
  (z_min : PySem.W.nsIn K mainGlobals "min" = some none)
  (z_range : PySem.W.nsIn K mainGlobals "range" = some none)
  (z_repr : PySem.W.nsIn K mainGlobals "repr" = some none)
  (z_sorted : PySem.W.nsIn K mainGlobals "sorted" = some none)
  (z_str : PySem.W.nsIn K mainGlobals "str" = some none)
  (z_sum : PySem.W.nsIn K mainGlobals "sum" = some none)
  (z_tuple : PySem.W.nsIn K mainGlobals "tuple" = some none)
  (z_zip : PySem.W.nsIn K mainGlobals "zip" = some none)
  (hp : ∀ ns : List Int, ns.length ≤ 63 → (∀ z ∈ ns, Builtin.Int.intBits z ≤ 1048576) → ∃ z', m_law (mir lawLevel) (mirI lawLevel) (zX 11 ns) = .ok (.rt (.d (.bl true))) z') :
  ∃ fd : FuncData, (∀ (s : Shared) (v : Value), BindsTo s fd ⟨[v], []⟩ [("_law_script", v)]) ∧ ∀ base : Heap, SysB base → K.In base → base.Ns mainGlobals mg → FnG l.prog w K mg base (L2.CX l.prog w) (lawLevel + 9) fa fd ["_law_script"] (spLaw K) := by
 have e := hfa.symm.trans (PySem.W.mg_of X G0 a20)
 cases e
 have T : Tt K mg w.params C_Known := ⟨clF_mk ca_Known cb1_Known cb2_Known cb3_Known cb4_Known, na_Known_told_calls, na_Known_told_facts, na_Known_told_means, na_Known_told_rels, na_Known_told_sorts, mkIn_mk X G0 (clF_mk ca_Known cb1_Known cb2_Known cb3_Known cb4_Known) ca_Known cm1_Known cm2_Known a0 n0 l0 c0 k0 (fun _ _ _ _ _ _ us hl => match us, hl with | [_], _ => rfl), meIn_mk (clF_mk ca_Known cb1_Known cb2_Known cb3_Known cb4_Known) a1 n1 l1 c1 k1 (fun _ _ _ _ _ _ us hl => match us, hl with | [_], _ => rfl), meIn_mk (clF_mk ca_Known cb1_Known cb2_Known cb3_Known cb4_Known) a2 n2 l2 c2 k2 (fun _ _ _ _ _ _ us hl => match us, hl with | [_, _], _ => rfl), meIn_mk (clF_mk ca_Known cb1_Known cb2_Known cb3_Known cb4_Known) a3 n3 l3 c3 k3 (fun _ _ _ _ _ _ us hl => match us, hl with | [_, _], _ => rfl), meIn_mk (clF_mk ca_Known cb1_Known cb2_Known cb3_Known cb4_Known) a4 n4 l4 c4 k4 (fun _ _ _ _ _ _ us hl => match us, hl with | [_, _], _ => rfl), meIn_mk (clF_mk ca_Known cb1_Known cb2_Known cb3_Known cb4_Known) a5 n5 l5 c5 k5 (fun _ _ _ _ _ _ us hl => match us, hl with | [_, _], _ => rfl), meIn_mk (clF_mk ca_Known cb1_Known cb2_Known cb3_Known cb4_Known) a6 n6 l6 c6 k6 (fun _ _ _ _ _ _ us hl => match us, hl with | [_, _], _ => rfl), meIn_mk (clF_mk ca_Known cb1_Known cb2_Known cb3_Known cb4_Known) a7 n7 l7 c7 k7 (fun _ _ _ _ _ _ us hl => match us, hl with | [_, _], _ => rfl), meIn_mk (clF_mk ca_Known cb1_Known cb2_Known cb3_Known cb4_Known) a8 n8 l8 c8 k8 (fun _ _ _ _ _ _ us hl => match us, hl with | [_], _ => rfl), fnIn_mk X G0 a9 l9 c9 k9 (fun _ _ _ _ _ _ us hl => match us, hl with | [_, _], _ => rfl), fnIn_mk X G0 a10 l10 c10 k10 (fun _ _ _ _ _ _ us hl => match us, hl with | [_], _ => rfl), fnIn_mk X G0 a11 l11 c11 k11 (fun _ _ _ _ _ _ us hl => match us, hl with | [_], _ => rfl), fnIn_mk X G0 a12 l12 c12 k12 (fun _ _ _ _ _ _ us hl => match us, hl with | [], _ => rfl), fnIn_mk X G0 a13 l13 c13 k13 (fun _ _ _ _ _ _ us hl => match us, hl with | [_, _], _ => rfl), fnIn_mk X G0 a14 l14 c14 k14 (fun _ _ _ _ _ _ us hl => match us, hl with | [_, _, _, _, _], _ => rfl), fnIn_mk X G0 a15 l15 c15 k15 (fun _ _ _ _ _ _ us hl => match us, hl with | [_, _, _], _ => rfl), fnIn_mk X G0 a16 l16 c16 k16 (fun _ _ _ _ _ _ us hl => match us, hl with | [_, _, _, _], _ => rfl), fnIn_mk X G0 a17 l17 c17 k17 (fun _ _ _ _ _ _ us hl => match us, hl with | [_, _, _], _ => rfl), fnIn_mk X G0 a18 l18 c18 k18 (fun _ _ _ _ _ _ us hl => match us, hl with | [_, _], _ => rfl), fnIn_mk X G0 a19 l19 c19 k19 (fun _ _ _ _ _ _ us hl => match us, hl with | [_, _], _ => rfl), PySem.W.mg_none_of X G0 z_dict, PySem.W.mg_none_of X G0 z_enumerate, PySem.W.mg_none_of X G0 z_int, PySem.W.mg_none_of X G0 z_len, PySem.W.mg_none_of X G0 z_list, PySem.W.mg_none_of X G0 z_max, PySem.W.mg_none_of X G0 z_min, PySem.W.mg_none_of X G0 z_range, PySem.W.mg_none_of X G0 z_repr, PySem.W.mg_none_of X G0 z_sorted, PySem.W.mg_none_of X G0 z_str, PySem.W.mg_none_of X G0 z_sum, PySem.W.mg_none_of X G0 z_tuple, PySem.W.mg_none_of X G0 z_zip⟩
 exact ⟨PySem.W.fnOf "law" "law" (defArgs s_law) (defBody s_law) (defScope s_law) .none kV20 dc20 pm20 an20 cd20 ct20, fun s v => .of_eq rfl, fun base sb _ _ => d_law T sb (funD_mk (st := s_law) l20 c20 k20) hp⟩
end L
open PySem PySem.W PyProof.Rows
set_option maxRecDepth 100000 in
set_option maxHeartbeats 0 in
theorem PySem.Challenge.cw_groundroom_k08_what_entries_tell_holds : PySem.Challenge.rw_groundroom_k08_what_entries_tell.Holds := by
 w_on; o_law; k_head; (case hw => w_witness2)
 k_fill
 refine G.walkGS (by kernel_rfl) (l := PySem.Challenge.rw_groundroom_k08_what_entries_tell) (m := 63) (n := L.lawLevel + 9) (x := "_law_script") (CX := fun w => L2.CX PySem.Challenge.rw_groundroom_k08_what_entries_tell.prog w) (sp := fun w => G.spLaw _) rfl (by decide) rfl ⟨rfl, by decide, by decide⟩ (fun w h Y => PySem.W.kIn_of Y) ?F (fun _ _ a ns hl hb _ hS => ⟨a, ns, rfl, hS, hl, hb, fun _ => rfl⟩) (fun w H s e s' h => by
  obtain ⟨_, _, _, _, _, _, _, _, _, _, _, _, z⟩ := h
  exact z)
 case F =>
  intro w mg fa h KX G hmg
  refine' L.all_mk KX G hmg ?ca_Known ?cb1_Known ?cb2_Known ?cb3_Known ?cb4_Known ?cm1_Known ?cm2_Known ?na_Known_told_calls ?na_Known_told_facts ?na_Known_told_means ?na_Known_told_rels ?na_Known_told_sorts ?a0 ?n0 ?l0 ?c0 ?k0 ?a1 ?n1 ?l1 ?c1 ?k1 ?a2 ?n2 ?l2 ?c2 ?k2 ?a3 ?n3 ?l3 ?c3 ?k3 ?a4 ?n4 ?l4 ?c4 ?k4 ?a5 ?n5 ?l5 ?c5 ?k5 ?a6 ?n6 ?l6 ?c6 ?k6 ?a7 ?n7 ?l7 ?c7 ?k7 ?a8 ?n8 ?l8 ?c8 ?k8 ?a9 ?l9 ?c9 ?k9 ?a10 ?l10 ?c10 ?k10 ?a11 ?l11 ?c11 ?k11 ?a12 ?l12 ?c12 ?k12 ?a13 ?l13 ?c13 ?k13 ?a14 ?l14 ?c14 ?k14 ?a15 ?l15 ?c15 ?k15 ?a16 ?l16 ?c16 ?k16 ?a17 ?l17 ?c17 ?k17 ?a18 ?l18 ?c18 ?k18 ?a19 ?l19 ?c19 ?k19 ?a20 ?l20 ?c20 ?k20 ?z_dict ?z_enumerate ?z_int ?z_len ?z_list ?z_max ?z_min ?z_range ?z_repr ?z_sorted ?z_str ?z_sum ?z_tuple ?z_zip L.law_true
  (case ca_Known => k_is)
  (case cb1_Known => k_is)
  (case cb2_Known => k_is)
  (case cb3_Known => k_is)
  (case cb4_Known => k_is)
  (case cm1_Known => k_is)
  (case cm2_Known => k_is)
  (case na_Known_told_calls => k_is)
  (case na_Known_told_facts => k_is)
  (case na_Known_told_means => k_is)
  (case na_Known_told_rels => k_is)
  (case na_Known_told_sorts => k_is)
  (case a0 => k_is)
  (case n0 => k_is)
  (case l0 => k_is)
  (case c0 => k_is)
  (case k0 => k_is)
  (case a1 => k_is)
  (case n1 => k_is)
  (case l1 => k_is)
  (case c1 => k_is)
  (case k1 => k_is)
  (case a2 => k_is)
  (case n2 => k_is)
  (case l2 => k_is)
  (case c2 => k_is)
  (case k2 => k_is)
  (case a3 => k_is)
  (case n3 => k_is)
  (case l3 => k_is)
  (case c3 => k_is)
  (case k3 => k_is)
  (case a4 => k_is)
  (case n4 => k_is)
  (case l4 => k_is)
  (case c4 => k_is)
  (case k4 => k_is)
  (case a5 => k_is)
  (case n5 => k_is)
  (case l5 => k_is)
  (case c5 => k_is)
  (case k5 => k_is)
  (case a6 => k_is)
  (case n6 => k_is)
  (case l6 => k_is)
  (case c6 => k_is)
  (case k6 => k_is)
  (case a7 => k_is)
  (case n7 => k_is)
  (case l7 => k_is)
  (case c7 => k_is)
  (case k7 => k_is)
  (case a8 => k_is)
  (case n8 => k_is)
  (case l8 => k_is)
  (case c8 => k_is)
  (case k8 => k_is)
  (case a9 => k_is)
  (case l9 => k_is)
  (case c9 => k_is)
  (case k9 => k_is)
  (case a10 => k_is)
  (case l10 => k_is)
  (case c10 => k_is)
  (case k10 => k_is)
  (case a11 => k_is)
  (case l11 => k_is)
  (case c11 => k_is)
  (case k11 => k_is)
  (case a12 => k_is)
  (case l12 => k_is)
  (case c12 => k_is)
  (case k12 => k_is)
  (case a13 => k_is)
  (case l13 => k_is)
  (case c13 => k_is)
  (case k13 => k_is)
  (case a14 => k_is)
  (case l14 => k_is)
  (case c14 => k_is)
  (case k14 => k_is)
  (case a15 => k_is)
  (case l15 => k_is)
  (case c15 => k_is)
  (case k15 => k_is)
  (case a16 => k_is)
  (case l16 => k_is)
  (case c16 => k_is)
  (case k16 => k_is)
  (case a17 => k_is)
  (case l17 => k_is)
  (case c17 => k_is)
  (case k17 => k_is)
  (case a18 => k_is)
  (case l18 => k_is)
  (case c18 => k_is)
  (case k18 => k_is)
  (case a19 => k_is)
  (case l19 => k_is)
  (case c19 => k_is)
  (case k19 => k_is)
  (case a20 => k_is)
  (case l20 => k_is)
  (case c20 => k_is)
  (case k20 => k_is)
  (case z_dict => k_is)
  (case z_enumerate => k_is)
  (case z_int => k_is)
  (case z_len => k_is)
  (case z_list => k_is)
  (case z_max => k_is)
  (case z_min => k_is)
  (case z_range => k_is)
  (case z_repr => k_is)
  (case z_sorted => k_is)
  (case z_str => k_is)
  (case z_sum => k_is)
  (case z_tuple => k_is)
  (case z_zip => k_is)
