import PyProof.Rows.All
import Wide.All
import OpenK.AllK
import HandS.CallSlots
import HandS.Conv
import HandS.Defaults
import HandS.Dict
import HandS.EndBits
import HandS.ExcIs
import HandS.Flow
import HandS.ForExc
import HandS.ForMost
import HandS.IsInst
import HandS.Iter
import HandS.More
import HandS.Nested
import HandS.SetTxtIn
import HandS.SortKw
import HandS.Style
import HandS.Text
import HandS.TryOnly
import HandS.TupAny
import HandS.TupLe
import HandS.TupMul
import HandS.Walk
import HandS.Zip
import KE.DataMinMax
import KE.GoesEnum
import KE.GoesMore
import KE.GoesZip
import KE.OsGo
import PyProof.EqAt
import PyProof.EqKinds
import PyProof.ReprLen
import PyProof.ReprRoads
import PyProof.Rows.SetFrom
import PyProof.Rows.TmSorted
import PyProof.TupleCall
import Wide.FinOn
import PySem.Challenge.RW_groundroom_k27_statements_told
set_option Elab.async false
set_option linter.all false
set_option maxRecDepth 100000
set_option maxHeartbeats 4000000
namespace G
open PySem L2
inductive D where
  | non
  | bl (b : Bool)
  | int (i : Int)
  | str (x : Str)
  | tup (xs : List D)
  | lst (xs : List D)
  | scr (ns : List Int)
  | emp
  | exc (c : Str) (xs : List D)
  /-- a mutable object of the store, by its number -/
  | o (n : Nat)
noncomputable def XO (cls : Value) (d : Option Addr) (a : Addr) : HO := .ext fun h => ∃ (ox : Obj) (fs : Array Value), h.get? a = some ox ∧ Zc cls d ox ∧ ox.data = .fields fs
noncomputable def xrK (K : PySem.W.Frag) (c : Str) : Option Value := match PySem.W.nsIn K mainGlobals c with
 | some o => o
 | none => none
noncomputable def tag (n : Nat) : HO := .tbl #[rawInt n]
noncomputable def SameX (F H : Hp) : Prop := ∀ b o, F b = some o → (∀ ps, o ≠ .tbl ps) → H b = some o
noncomputable def noT (F : Hp) : Hp := fun a => match F a with
 | some (.tbl _) => none
 | o => o
theorem noT_at {F : Hp} {a : Addr} {o : HO} (h : F a = some o) (n : ∀ ps, o ≠ .tbl ps) : noT F a = some o := by
 unfold noT
 rw [h]
 cases o with
 | tbl ps => exact (n ps rfl).elim
 | _ => rfl
theorem noT_of {F : Hp} {a : Addr} {o : HO} (h : noT F a = some o) : F a = some o ∧ ∀ ps, o ≠ .tbl ps := by
 unfold noT at h
 cases q : F a with
 | none => rw [q] at h; cases h
 | some u =>
  rw [q] at h
  cases u with
  | tbl ps => cases h
  | _ => cases h; exact ⟨rfl, fun ps e => by cases e⟩
theorem SameX.same {F H : Hp} (s : SameX F H) : Same (noT F) H := fun b o q => s b o (noT_of q).1 (noT_of q).2
noncomputable def TgK (F F' H H' : Hp) : Prop := ∀ a ps, F' a = some (.tbl ps) → F a = some (.tbl ps) ∧ H' a = H a
theorem TgK.refl (F H : Hp) : TgK F F H H := fun _ _ h => ⟨h, rfl⟩
theorem sqT_mono {K : PySem.W.Frag} {H H' : Hp} {a : Addr} {xs : List V} (e : Same H H') (h : SqT K H a xs) : SqT K H' a xs := by
 rcases h with (h | ⟨o, h⟩) | h
 ·exact .inl (.inl (e _ _ h))
 ·exact .inl (.inr ⟨o, e _ _ h⟩)
 ·exact .inr h
theorem tupNT {vs : List V} : ∀ ps, HO.tup vs ≠ .tbl ps := fun _ e => by cases e
theorem lstNT {vs : List V} : ∀ ps, HO.lst vs ≠ .tbl ps := fun _ e => by cases e
theorem SameX.tup {K : PySem.W.Frag} {F H : Hp} {a : Addr} {xs : List V} (e : SameX F H) (h : SqT K F a xs) : SqT K H a xs := by
 rcases h with (h | ⟨o, h⟩) | h
 ·exact .inl (.inl (e _ _ h tupNT))
 ·exact .inl (.inr ⟨o, e _ _ h (fun _ q => by cases q)⟩)
 ·exact .inr h
theorem SameX.seq {K : PySem.W.Frag} {F H : Hp} {a : Addr} {xs : List V} (e : SameX F H) (h : SqL K F a xs) : SqL K H a xs := by
 rcases h with (h | ⟨o, h⟩) | h
 ·exact .inl (.inl (e _ _ h lstNT))
 ·exact .inl (.inr ⟨o, e _ _ h (fun _ q => by cases q)⟩)
 ·exact .inr h
theorem SameX.lst {F H : Hp} {a : Addr} {xs : List V} (e : SameX F H) (h : F a = some (.lst xs)) : H a = some (.lst xs) := e _ _ h lstNT
theorem SameX.emp {F H : Hp} {a : Addr} (e : SameX F H) (h : F a = some (.dK [])) : H a = some (.dK []) := e _ _ h (fun _ q => by cases q)
theorem SameX.ext {F H : Hp} {a : Addr} {φ : Heap → Prop} (e : SameX F H) (h : F a = some (.ext φ)) : H a = some (.ext φ) := e _ _ h (fun _ q => by cases q)
theorem thenX {F F1 H : Hp} (a : Same F F1) (b : SameX F1 H) : SameX F H := fun c o h n => b c o (a c o h) n
mutual
inductive Da (K : PySem.W.Frag) (F : Hp) : V → D → Prop
 | non : Da K F .non .non
 | bl (b : Bool) : Da K F (.bl b) (.bl b)
 | int (i : Int) : Da K F (.int i) (.int i)
 | str (x : Str) : Da K F (.str x) (.str x)
 | tup {a : Addr} {vs : List V} {ds : List D} : SqT K F a vs → DaAll K F vs ds → Da K F (.ref a) (.tup ds)
 | lst {a : Addr} {vs : List V} {ds : List D} : F a = some (.lst vs) → DaAll K F vs ds → Da K F (.ref a) (.lst ds)
 | scr {a : Addr} {ns : List Int} : SqL K F a (ns.map V.int) → Da K F (.ref a) (.scr ns)
 | emp {a : Addr} : F a = some (.dK []) → Da K F (.ref a) .emp
 | exc {a C : Addr} {c : Str} : F a = some (XO (.ref C) none a) → xrK K c = some (.ref C) → Da K F (.ref a) (.exc c [])
 | excA {a C dd : Addr} {c : Str} {v : V} {x : D} : F a = some (XO (.ref C) (some dd) a) → F dd = some (.xd [(("at" : Str), v)]) → Da K F v x → xrK K c = some (.ref C) → Da K F (.ref a) (.exc c [x])
 | o {a : Addr} {n : Nat} : F a = some (tag n) → Da K F (.ref a) (.o n)
inductive DaAll (K : PySem.W.Frag) (F : Hp) : List V → List D → Prop
 | nil : DaAll K F [] []
 | cons {v : V} {vs : List V} {d : D} {ds : List D} : Da K F v d → DaAll K F vs ds → DaAll K F (v :: vs) (d :: ds)
end
mutual
theorem Da.mono {K : PySem.W.Frag} {F F' : Hp} (h : Same F F') : ∀ {v : V} {d : D}, Da K F v d → Da K F' v d
 | _, _, .non => .non
 | _, _, .bl b => .bl b
 | _, _, .int i => .int i
 | _, _, .str x => .str x
 | _, _, .tup q r => .tup (sqT_mono h q) (DaAll.mono h r)
 | _, _, .lst q r => .lst (h _ _ q) (DaAll.mono h r)
 | _, _, .scr q => .scr (h.seq q)
 | _, _, .emp q => .emp (h _ _ q)
 | _, _, .exc q r => .exc (h _ _ q) r
 | _, _, .excA q q2 t r => .excA (h _ _ q) (h _ _ q2) (Da.mono h t) r
 | _, _, .o q => .o (h _ _ q)
theorem DaAll.mono {K : PySem.W.Frag} {F F' : Hp} (h : Same F F') : ∀ {vs : List V} {ds : List D}, DaAll K F vs ds → DaAll K F' vs ds
 | _, _, .nil => .nil
 | _, _, .cons a b => .cons (Da.mono h a) (DaAll.mono h b)
end
theorem DaAll.length {K : PySem.W.Frag} {F : Hp} : ∀ {vs : List V} {ds : List D}, DaAll K F vs ds → vs.length = ds.length
 | _, _, .nil => rfl
 | _, _, .cons _ b => congrArg (· + 1) (DaAll.length b)
theorem DaAll.get {K : PySem.W.Frag} {F : Hp} : ∀ {vs : List V} {ds : List D} {i : Nat} {d : D}, DaAll K F vs ds → ds[i]? = some d → ∃ v, vs[i]? = some v ∧ Da K F v d
 | _, _, _, _, .nil, e => by simp at e
 | _, _, 0, _, .cons a _, e => by simp at e; subst e; exact ⟨_, rfl, a⟩
 | _, _, i + 1, _, .cons _ b, e => by
  obtain ⟨v, h1, h2⟩ := DaAll.get (i := i) b (by simpa using e)
  exact ⟨v, by simpa using h1, h2⟩
theorem DaAll.getV {K : PySem.W.Frag} {F : Hp} : ∀ {vs : List V} {ds : List D} {i : Nat} {v : V}, DaAll K F vs ds → vs[i]? = some v → ∃ d, ds[i]? = some d ∧ Da K F v d
 | _, _, _, _, .nil, e => by simp at e
 | _, _, 0, _, .cons a _, e => by simp at e; subst e; exact ⟨_, rfl, a⟩
 | _, _, i + 1, _, .cons _ b, e => by
  obtain ⟨v, h1, h2⟩ := DaAll.getV (i := i) b (by simpa using e)
  exact ⟨v, by simpa using h1, h2⟩
theorem DaAll.append {K : PySem.W.Frag} {F : Hp} : ∀ {vs ws : List V} {ds es : List D}, DaAll K F vs ds → DaAll K F ws es → DaAll K F (vs ++ ws) (ds ++ es)
 | _, _, _, _, .nil, h => h
 | _, _, _, _, .cons a b, h => .cons a (DaAll.append b h)
theorem DaAll.take {K : PySem.W.Frag} {F : Hp} : ∀ {vs : List V} {ds : List D} (n : Nat), DaAll K F vs ds → DaAll K F (vs.take n) (ds.take n)
 | _, _, 0, _ => .nil
 | _, _, _ + 1, .nil => .nil
 | _, _, n + 1, .cons a b => .cons a (DaAll.take n b)
theorem DaAll.drop {K : PySem.W.Frag} {F : Hp} : ∀ {vs : List V} {ds : List D} (n : Nat), DaAll K F vs ds → DaAll K F (vs.drop n) (ds.drop n)
 | _, _, 0, h => h
 | _, _, _ + 1, .nil => .nil
 | _, _, n + 1, .cons _ b => DaAll.drop n b
theorem DaAll.dropLast {K : PySem.W.Frag} {F : Hp} {vs : List V} {ds : List D} (h : DaAll K F vs ds) : DaAll K F vs.dropLast ds.dropLast := by
 rw [List.dropLast_eq_take, List.dropLast_eq_take, h.length]
 exact h.take _
theorem DaAll.reverse {K : PySem.W.Frag} {F : Hp} : ∀ {vs : List V} {ds : List D}, DaAll K F vs ds → DaAll K F vs.reverse ds.reverse
 | _, _, .nil => .nil
 | _, _, .cons a b => by
  rw [List.reverse_cons, List.reverse_cons]
  exact (DaAll.reverse b).append (.cons a .nil)
theorem DaAll.set {K : PySem.W.Frag} {F : Hp} {v : V} {d : D} (hv : Da K F v d) : ∀ {vs : List V} {ds : List D} (n : Nat), DaAll K F vs ds → DaAll K F (vs.set n v) (ds.set n d)
 | _, _, _, .nil => .nil
 | _, _, 0, .cons _ b => .cons hv b
 | _, _, n + 1, .cons a b => .cons a (DaAll.set hv n b)
theorem DaAll.ints {K : PySem.W.Frag} {F : Hp} : ∀ (ns : List Int), DaAll K F (ns.map V.int) (ns.map D.int)
 | [] => .nil
 | n :: r => .cons (.int n) (DaAll.ints r)
inductive S where
  | d (x : D)
  | l (xs : List D)
  | v (i : Nat)
  | m (j : Nat)
structure Z (T : Type) where
  rho : List (Option S)
  m : T
structure Xc where
  c : Str
  arg : Option D
inductive Rs (α ζ : Type) where
  | ok (a : α) (z : ζ)
  | ex (x : Xc) (z : ζ)
  | bad
noncomputable def Rs.bind {α β ζ : Type} (r : Rs α ζ) (k : α → ζ → Rs β ζ) : Rs β ζ := match r with
 | .ok a z => k a z
 | .ex x z => .ex x z
 | .bad => .bad
@[simp] theorem Rs.bind_ok {α β ζ : Type} (a : α) (z : ζ) (k : α → ζ → Rs β ζ) : (Rs.ok a z).bind k = k a z := rfl
@[simp] theorem Rs.bind_ex {α β ζ : Type} (x : Xc) (z : ζ) (k : α → ζ → Rs β ζ) : (Rs.ex x z).bind k = .ex x z := rfl
@[simp] theorem Rs.bind_bad {α β ζ : Type} (k : α → ζ → Rs β ζ) : (Rs.bad : Rs α ζ).bind k = .bad := rfl
noncomputable def Rs.opt {α ζ : Type} (o : Option α) (z : ζ) : Rs α ζ := match o with
  | some a => .ok a z
  | none => .bad
@[simp] theorem Rs.opt_some {α ζ : Type} (a : α) (z : ζ) : Rs.opt (some a) z = .ok a z := rfl
@[simp] theorem Rs.opt_none {α ζ : Type} (z : ζ) : Rs.opt (none : Option α) z = .bad := rfl
structure MI where
  T : Type
  ok : PySem.W.Frag → Hp → Hp → List Addr → T → Prop
  mono : ∀ {K : PySem.W.Frag} {F F' H H' : Hp} {ms : List Addr} {t : T}, Same F F' → TgK F F' H H' → (∀ a ∈ ms, H' a = H a) → ok K F H ms t → ok K F' H' ms t
structure Gx where
  K : PySem.W.Frag
  xr : Str → Option Value
  ms : List Addr
  P : Hp
  Fp : Hp
noncomputable def SV (G : Gx) (F H : Hp) (v : V) : S → Prop
 | .d x => Da G.K F v x
 | .l xs => ∃ a vs, v = .ref a ∧ H a = some (.lst vs) ∧ DaAll G.K F vs xs ∧ F a = none ∧ G.P a = none ∧ a ∉ G.ms
 | .v _ => False
 | .m j => ∃ a, G.ms[j]? = some a ∧ v = .ref a
structure Ok (M : MI) (G : Gx) (σ : St) (H F : Hp) (z : Z M.T) : Prop where
  sub : SameX F H
  len : z.rho.length = σ.length
  slot : ∀ (i : Nat) (s : S), z.rho[i]? = some (some s) → ∃ v, σ[i]? = some (some v) ∧ SV G F H v s
  dist : ∀ (i j : Nat) (xs ys : List D) (v : V), z.rho[i]? = some (some (.l xs)) → z.rho[j]? = some (some (.l ys)) → σ[i]? = some (some v) → σ[j]? = some (some v) → i = j
  mach : M.ok G.K F H G.ms z.m
  msF : ∀ a ∈ G.ms, F a = none
  msP : ∀ a ∈ G.ms, G.P a = none
  msH : ∀ a ∈ G.ms, H a ≠ none
  fr : ∀ b o, G.P b = some o → H b = some o ∧ F b = G.Fp b
  tg : ∀ a ps, F a = some (.tbl ps) → H a ≠ none ∧ G.P a = none
noncomputable def Owned {T : Type} (σ : St) (z : Z T) (a : Addr) : Prop := ∃ (i : Nat) (xs : List D), z.rho[i]? = some (some (.l xs)) ∧ σ[i]? = some (some (.ref a))
noncomputable def EV {T : Type} (G : Gx) (σ : St) (F H : Hp) (z : Z T) (v : V) : S → Prop
 | .d x => Da G.K F v x
 | .l xs => ∃ a vs, v = .ref a ∧ H a = some (.lst vs) ∧ DaAll G.K F vs xs ∧ F a = none ∧ G.P a = none ∧ a ∉ G.ms ∧ ¬ Owned σ z a
 | .v i => σ[i]? = some (some v)
 | .m j => ∃ a, G.ms[j]? = some a ∧ v = .ref a
noncomputable def EO (G : Gx) (σ : St) (F : Hp) (v : V) : S → Prop
 | .d x => Da G.K F v x
 | .l _ => False
 | .v i => σ[i]? = some (some v)
 | .m j => ∃ a, G.ms[j]? = some a ∧ v = .ref a
theorem EO.mono {G : Gx} {σ : St} {F F' : Hp} {v : V} {s : S} (h : Same F F') (e : EO G σ F v s) : EO G σ F' v s := by
 cases s with
 | d x => exact Da.mono h e
 | l _ => exact e
 | v i => exact e
 | m j => exact e
section
variable {M : MI} {G : Gx} {σ : St} {H H' F F' : Hp} {z : Z M.T}
theorem Ok.ownH (ok : Ok M G σ H F z) {a : Addr} (o : Owned σ z a) : ∃ vs, H a = some (.lst vs) ∧ F a = none ∧ G.P a = none ∧ a ∉ G.ms := by
 obtain ⟨i, xs, h1, h2⟩ := o
 obtain ⟨v, e, b, vs, rfl, h3, _, h4, h5, h6⟩ := ok.slot i _ h1
 rw [h2] at e
 cases e
 exact ⟨vs, h3, h4, h5, h6⟩
theorem Ok.step (ok : Ok M G σ H F z) (hF : Same F F') (ht : TgK F F' H H') (hs : SameX F' H') (ho : ∀ a, Owned σ z a → H' a = H a ∧ F' a = none) (hm : ∀ a ∈ G.ms, H' a = H a ∧ F' a = none) (hf : ∀ b o, G.P b = some o → H' b = some o ∧ F' b = G.Fp b) : Ok M G σ H' F' z where
 sub := hs
 len := ok.len
 slot := fun i s e => by
  obtain ⟨v, h1, h2⟩ := ok.slot i s e
  refine ⟨v, h1, ?_⟩
  cases s with
  | d x => exact Da.mono hF h2
  | l xs =>
   obtain ⟨a, vs, rfl, h3, h4, h5, h6, h7⟩ := h2
   obtain ⟨q1, q2⟩ := ho a ⟨i, xs, e, h1⟩
   exact ⟨a, vs, rfl, q1.trans h3, h4.mono hF, q2, h6, h7⟩
  | v _ => exact h2
  | m j => exact h2
 dist := ok.dist
 mach := M.mono hF ht (fun a ha => (hm a ha).1) ok.mach
 tg := fun a ps e => by
  obtain ⟨h1, h2⟩ := ht a ps e
  rw [h2]
  exact ok.tg a ps h1
 msF := fun a ha => (hm a ha).2
 msP := ok.msP
 msH := fun a ha => by rw [(hm a ha).1]; exact ok.msH a ha
 fr := hf
theorem Ok.freshF (ok : Ok M G σ H F z) {p : Addr} (h : H p = none) : F p = none := by
 cases q : F p with
 | none => rfl
 | some o =>
  by_cases n : ∃ ps, o = .tbl ps
  ·obtain ⟨ps, rfl⟩ := n
   exact ((ok.tg p ps q).1 h).elim
  ·have := ok.sub p o q (fun ps e => n ⟨ps, e⟩)
   rw [h] at this
   cases this
theorem Ok.freshP (ok : Ok M G σ H F z) {p : Addr} (h : H p = none) : G.P p = none := by
 cases q : G.P p with
 | none => rfl
 | some o =>
  rw [(ok.fr p o q).1] at h
  cases h
theorem Ok.freshM (ok : Ok M G σ H F z) {p : Addr} (h : H p = none) : p ∉ G.ms := fun q => ok.msH p q h
theorem Ok.freshO (ok : Ok M G σ H F z) {p : Addr} (h : H p = none) : ¬ Owned σ z p := fun q => by
 obtain ⟨vs, e, _⟩ := ok.ownH q
 rw [h] at e
 cases e
theorem same_upd {H : Hp} {p : Addr} {o : HO} (h : H p = none) : Same H (upd H p o) := fun b u q => by
 rw [upd_ne (ne_of_none q h)]
 exact q
theorem same_upd2 {F H : Hp} {p : Addr} {o : HO} (h : SameX F H) : SameX (upd F p o) (upd H p o) := fun b u q n => by
 by_cases e : b = p
 ·subst e
  rw [upd_same] at q ⊢
  exact q
 ·rw [upd_ne e] at q ⊢
  exact h b u q n
theorem same_updR {F H : Hp} {p : Addr} {o : HO} (h : SameX F H) (hp : F p = none) : SameX F (upd H p o) := fun b u q n => by
 rw [upd_ne (ne_of_none q hp)]
 exact h b u q n
theorem tgk_new {F H : Hp} {p : Addr} {o : HO} (hp : F p = none) : TgK F F H (upd H p o) := fun a ps e => ⟨e, upd_ne (ne_of_none e hp)⟩
theorem tgk_newF {F H : Hp} {p : Addr} {o u : HO} (hp : F p = none) (n : ∀ ps, o ≠ .tbl ps) : TgK F (upd F p o) H (upd H p u) := fun a ps e => by
 by_cases h : a = p
 ·subst h
  rw [upd_same] at e
  exact (n ps (Option.some.inj e)).elim
 ·rw [upd_ne h] at e
  exact ⟨e, upd_ne h⟩
theorem tgk_frz {F H : Hp} {p : Addr} {o : HO} (hp : F p = none) (n : ∀ ps, o ≠ .tbl ps) : TgK F (upd F p o) H H := fun a ps e => by
 by_cases h : a = p
 ·subst h
  rw [upd_same] at e
  exact (n ps (Option.some.inj e)).elim
 ·rw [upd_ne h] at e
  exact ⟨e, rfl⟩
theorem Ok.new (ok : Ok M G σ H F z) {p : Addr} (hp : H p = none) (o : HO) : Ok M G σ (upd H p o) F z :=
 ok.step (Same.refl F) (tgk_new (ok.freshF hp)) (same_updR ok.sub (ok.freshF hp)) (fun a q => by
  obtain ⟨vs, e, e2, _⟩ := ok.ownH q
  exact ⟨upd_ne (ne_of_none e hp), e2⟩) (fun a q => by
  have n : a ≠ p := fun e => ok.freshM hp (e ▸ q)
  exact ⟨upd_ne n, ok.msF a q⟩) (fun b u q => by
  obtain ⟨h1, h2⟩ := ok.fr b u q
  exact ⟨by rw [upd_ne (ne_of_none h1 hp)]; exact h1, h2⟩)
theorem Ok.newF (ok : Ok M G σ H F z) {p : Addr} (hp : H p = none) (o : HO) (nt : ∀ ps, o ≠ .tbl ps) : Ok M G σ (upd H p o) (upd F p o) z :=
 ok.step (same_upd (ok.freshF hp)) (tgk_newF (ok.freshF hp) nt) (same_upd2 ok.sub) (fun a q => by
  obtain ⟨vs, e, e2, _⟩ := ok.ownH q
  exact ⟨upd_ne (ne_of_none e hp), by rw [upd_ne (ne_of_none e hp)]; exact e2⟩) (fun a q => by
  have n : a ≠ p := fun e => ok.freshM hp (e ▸ q)
  exact ⟨upd_ne n, by rw [upd_ne n]; exact ok.msF a q⟩) (fun b u q => by
  obtain ⟨h1, h2⟩ := ok.fr b u q
  have n := ne_of_none h1 hp
  exact ⟨by rw [upd_ne n]; exact h1, by rw [upd_ne n]; exact h2⟩)
theorem Ok.frz (ok : Ok M G σ H F z) {a : Addr} {vs : List V} (ha : H a = some (.lst vs)) (hF : F a = none) (hP : G.P a = none) (hm : a ∉ G.ms) (ho : ¬ Owned σ z a) : Ok M G σ H (upd F a (.lst vs)) z :=
 ok.step (same_upd hF) (tgk_frz hF lstNT) (fun b u q n => by
  by_cases e : b = a
  ·subst e
   rw [upd_same] at q
   rw [ha]
   exact q
  ·rw [upd_ne e] at q
   exact ok.sub b u q n) (fun b q => by
  obtain ⟨_, _, e2, _⟩ := ok.ownH q
  have n : b ≠ a := fun e => ho (e ▸ q)
  exact ⟨rfl, by rw [upd_ne n]; exact e2⟩) (fun b q => by
  have n : b ≠ a := fun e => hm (e ▸ q)
  exact ⟨rfl, by rw [upd_ne n]; exact ok.msF b q⟩) (fun b u q => by
  obtain ⟨h1, h2⟩ := ok.fr b u q
  have n : b ≠ a := fun e => by rw [e, hP] at q; cases q
  exact ⟨h1, by rw [upd_ne n]; exact h2⟩)
theorem Ok.set (ok : Ok M G σ H F z) {i : Nat} {v : V} {s : S} (hv : SV G F H v s) (hs : ∀ xs, s = .l xs → ∀ a, v = .ref a → ¬ Owned σ z a) : Ok M G (σ.set i (some v)) H F { z with rho := z.rho.set i (some s) } where
 sub := ok.sub
 len := by simp [ok.len]
 slot := fun j t e => by
  by_cases hj : j = i
  ·subst hj
   by_cases hl : j < z.rho.length
   ·have e2 : (z.rho.set j (some s))[j]? = some (some s) := List.getElem?_set_self hl
    have e' : (z.rho.set j (some s))[j]? = some (some t) := e
    rw [e2] at e'
    cases e'
    exact ⟨v, List.getElem?_set_self (by rw [← ok.len]; exact hl), hv⟩
   ·have e' : (z.rho.set j (some s))[j]? = some (some t) := e
    rw [List.getElem?_eq_none (by simp; omega)] at e'
    cases e'
  ·have e' : (z.rho.set i (some s))[j]? = some (some t) := e
   rw [List.getElem?_set_ne (Ne.symm hj)] at e'
   obtain ⟨w, h1, h2⟩ := ok.slot j t e'
   exact ⟨w, by rw [List.getElem?_set_ne (Ne.symm hj)]; exact h1, h2⟩
 dist := fun j k xs ys w e1 e2 e3 e4 => by
  have e1' : (z.rho.set i (some s))[j]? = some (some (.l xs)) := e1
  have e2' : (z.rho.set i (some s))[k]? = some (some (.l ys)) := e2
  have lt : ∀ {n : Nat} {t : Option S}, (z.rho.set i (some s))[n]? = some t → n < z.rho.length := fun {n t} q => by
   have := (List.getElem?_eq_some_iff.mp q).1
   simpa using this
  have hit : ∀ {n m : Nat} {xs ys : List D}, n = i → m ≠ i → (z.rho.set i (some s))[n]? = some (some (.l xs)) → (z.rho.set i (some s))[m]? = some (some (.l ys)) → (σ.set i (some v))[n]? = some (some w) → (σ.set i (some v))[m]? = some (some w) → False := fun {n m xs ys} hn hm q1 q2 q3 q4 => by
   subst hn
   have hl := lt q1
   rw [List.getElem?_set_self hl] at q1
   rw [List.getElem?_set_self (by rw [← ok.len]; exact hl)] at q3
   rw [List.getElem?_set_ne (Ne.symm hm)] at q2 q4
   cases q1
   cases q3
   obtain ⟨u, h1, a, vs, rfl, h2⟩ := ok.slot m _ q2
   rw [q4] at h1
   cases h1
   exact hs _ rfl a rfl ⟨m, ys, q2, q4⟩
  by_cases hj : j = i
  ·by_cases hk : k = i
   ·rw [hj, hk]
   ·exact (hit hj hk e1' e2' e3 e4).elim
  ·by_cases hk : k = i
   ·exact (hit hk hj e2' e1' e4 e3).elim
   ·rw [List.getElem?_set_ne (Ne.symm hj)] at e1' e3
    rw [List.getElem?_set_ne (Ne.symm hk)] at e2' e4
    exact ok.dist j k xs ys w e1' e2' e3 e4
 mach := ok.mach
 msF := ok.msF
 msP := ok.msP
 msH := ok.msH
 fr := ok.fr
 tg := ok.tg
end
end G
namespace G
open PySem L2
noncomputable abbrev Sm (M : MI) (α : Type) := Z M.T → Rs α (Z M.T)
noncomputable def XOk (G : Gx) (F H : Hp) (x : Xc) (cls : Value) (d : Option Addr) : Prop := G.xr x.c = some cls ∧ match x.arg with
 | none => d = none
 | some a => ∃ dd v, d = some dd ∧ F dd = some (.xd [(("at" : Str), v)]) ∧ Da G.K F v a
noncomputable def HitG {α β : Type} (M : MI) (G : Gx) (W : WX) (σ : St) (F : Hp) (R : α → β → Hp → Hp → Z M.T → Prop) (r : Rs α (Z M.T)) (Q : β → Hp → Prop) : Prop := match r with
 | .ok a z => ∀ b H' F', Same F F' → Ok M G σ H' F' z → R a b F' H' z → Q b H'
 | .ex x z => ∀ cls d H' F', Same F F' → Ok M G σ H' F' z → XOk G F' H' x cls d → W cls d σ H'
 | .bad => False
noncomputable def RelE {M : MI} (G : Gx) (σ : St) : S → V → Hp → Hp → Z M.T → Prop := fun s v F H z => EV G σ F H z v s
noncomputable def RelO {M : MI} (G : Gx) (σ : St) : S → V → Hp → Hp → Z M.T → Prop := fun s v F _ _ => EO G σ F v s
noncomputable def RelB {M : MI} (_ : Gx) (_ : St) : Bool → Bool → Hp → Hp → Z M.T → Prop := fun b c _ _ _ => c = b
noncomputable def RelA {M : MI} (G : Gx) (σ : St) : List S → List V → Hp → Hp → Z M.T → Prop := fun ss vs F _ _ => Paired (fun v s => EO G σ F v s) vs ss
noncomputable def RelI {M : MI} (_ : Gx) (_ : St) : Option Int → Option Int → Hp → Hp → Z M.T → Prop := fun b c _ _ _ => c = b
noncomputable def Cmp {α β : Type} (M : MI) (K : PySem.W.Frag) (xr : Str → Option Value) (W : WX) (t : St → Hp → (β → Hp → Prop) → Prop) (Rel : Gx → St → α → β → Hp → Hp → Z M.T → Prop) (f : Sm M α) : Prop :=
 ∀ (G : Gx) (σ : St) (H F : Hp) (z : Z M.T) (Q : β → Hp → Prop), G.K = K → G.xr = xr → Ok M G σ H F z → HitG M G W σ F (Rel G σ) (f z) Q → t σ H Q
section
variable {M : MI} {G : Gx} {W : WX} {σ : St} {H H' F F' : Hp} {z : Z M.T}
theorem HitG.mono {α β : Type} {R : α → β → Hp → Hp → Z M.T → Prop} {r : Rs α (Z M.T)} {Q : β → Hp → Prop} (h : HitG M G W σ F R r Q) (s : Same F F') : HitG M G W σ F' R r Q := by
 cases r with
 | ok a z => exact fun b H' F1 s1 ok rr => h b H' F1 (s.trans s1) ok rr
 | ex x z => exact fun cls d H' F1 s1 ok xo => h cls d H' F1 (s.trans s1) ok xo
 | bad => exact h
theorem hit_bind {α β α' β' : Type} {R1 : α → β → Hp → Hp → Z M.T → Prop} {R2 : α' → β' → Hp → Hp → Z M.T → Prop} {r : Rs α (Z M.T)} {k : α → Z M.T → Rs α' (Z M.T)} {Q : β' → Hp → Prop} {Q1 : β → Hp → Prop}
  (h : HitG M G W σ F R2 (r.bind k) Q) (hk : ∀ a z1 b H1 F1, r = .ok a z1 → Same F F1 → Ok M G σ H1 F1 z1 → R1 a b F1 H1 z1 → HitG M G W σ F1 R2 (k a z1) Q → Q1 b H1) : HitG M G W σ F R1 r Q1 := by
 cases r with
 | ok a z => exact fun b H' F1 s1 ok rr => hk a z b H' F1 rfl s1 ok rr (HitG.mono h s1)
 | ex x z => exact h
 | bad => exact h
noncomputable def opd (f : Sm M S) (z : Z M.T) : Rs S (Z M.T) := (f z).bind fun s z1 => .ok (match s with | .l xs => .d (.lst xs) | s => s) z1
noncomputable def escS (s : S) (z : Z M.T) : Rs S (Z M.T) := match s with
 | .d x => .ok (.d x) z
 | .l xs => .ok (.d (.lst xs)) z
 | .m j => .ok (.m j) z
 | .v i => match z.rho[i]? with
  | some (some (.l xs)) => .ok (.d (.lst xs)) { z with rho := z.rho.set i (some (.d (.lst xs))) }
  | some (some (.d x)) => .ok (.d x) z
  | _ => .bad
noncomputable def escf (f : Sm M S) (z : Z M.T) : Rs S (Z M.T) := (f z).bind escS
theorem EV.frz (ok : Ok M G σ H F z) {v : V} {xs : List D} (e : EV G σ F H z v (.l xs)) : ∃ F', Same F F' ∧ Ok M G σ H F' z ∧ Da G.K F' v (.lst xs) := by
 obtain ⟨a, vs, rfl, h1, h2, h3, h4, h5, h6⟩ := e
 exact ⟨upd F a (.lst vs), same_upd h3, ok.frz h1 h3 h4 h5 h6, .lst upd_same (h2.mono (same_upd h3))⟩
theorem cmp_opd {K : PySem.W.Frag} {xr : Str → Option Value} {t : TE} {f : Sm M S} (hf : Cmp M K xr W t RelE f) : Cmp M K xr W t RelO (opd f) := by
 intro G σ H F z Q hK hx ok h
 refine hf G σ H F z Q hK hx ok (hit_bind h fun s z1 v H1 F1 _ sm ok1 ev h1 => ?_)
 cases s with
 | d x => exact h1 v H1 F1 (Same.refl _) ok1 ev
 | l xs =>
  obtain ⟨F2, s2, ok2, da⟩ := EV.frz ok1 ev
  exact h1 v H1 F2 s2 ok2 da
 | v i => exact h1 v H1 F1 (Same.refl _) ok1 ev
 | m j => exact h1 v H1 F1 (Same.refl _) ok1 ev
theorem Ok.frzSlot (ok : Ok M G σ H F z) {i : Nat} {xs : List D} {v : V} (h : z.rho[i]? = some (some (.l xs))) (hv : σ[i]? = some (some v)) :
  ∃ F', Same F F' ∧ Ok M G σ H F' { z with rho := z.rho.set i (some (.d (.lst xs))) } ∧ Da G.K F' v (.lst xs) := by
 obtain ⟨w, e, a, vs, rfl, h1, h2, h3, h4, h5⟩ := ok.slot i _ h
 rw [hv] at e
 cases e
 have hl : i < z.rho.length := (List.getElem?_eq_some_iff.mp h).1
 have ok1 : Ok M G (σ.set i (some .non)) H F { z with rho := z.rho.set i (some (.d .non)) } := ok.set (v := .non) (s := .d .non) Da.non (fun _ e => by cases e)
 have no : ¬ Owned (σ.set i (some .non)) { z with rho := z.rho.set i (some (.d .non)) } a := fun ⟨j, ys, e1, e2⟩ => by
  by_cases hj : j = i
  ·subst hj
   have e1' : (z.rho.set j (some (.d .non)))[j]? = some (some (.l ys)) := e1
   rw [List.getElem?_set_self hl] at e1'
   cases e1'
  ·have e1' : (z.rho.set i (some (.d .non)))[j]? = some (some (.l ys)) := e1
   rw [List.getElem?_set_ne (Ne.symm hj)] at e1' e2
   exact hj (ok.dist j i ys xs _ e1' h e2 hv)
 have ok2 := ok1.frz h1 h3 h4 h5 no
 have da : Da G.K (upd F a (.lst vs)) (.ref a) (.lst xs) := .lst upd_same (h2.mono (same_upd h3))
 have ok3 := ok2.set (i := i) (v := .ref a) (s := .d (.lst xs)) da (fun _ e => by cases e)
 have e1 : (σ.set i (some V.non)).set i (some (.ref a)) = σ := by
  rw [List.set_set]
  exact List.ext_getElem? fun n => by
   by_cases hn : n = i
   ·subst hn
    rw [List.getElem?_set_self (by rw [← ok.len]; exact hl), hv]
   ·rw [List.getElem?_set_ne (Ne.symm hn)]
 rw [e1] at ok3
 have e2 : ({ rho := (z.rho.set i (some (.d .non))).set i (some (.d (.lst xs))), m := z.m } : Z M.T) = { z with rho := z.rho.set i (some (.d (.lst xs))) } := by rw [List.set_set]
 exact ⟨_, same_upd h3, by rw [← e2]; exact ok3, da⟩
theorem cmp_esc {K : PySem.W.Frag} {xr : Str → Option Value} {t : TE} {f : Sm M S} (hf : Cmp M K xr W t RelE f) : Cmp M K xr W t RelO (escf f) := by
 intro G σ H F z Q hK hx ok h
 refine hf G σ H F z Q hK hx ok (hit_bind h fun s z1 v H1 F1 _ sm ok1 ev h1 => ?_)
 cases s with
 | d x => exact h1 v H1 F1 (Same.refl _) ok1 ev
 | l xs =>
  obtain ⟨F2, s2, ok2, da⟩ := EV.frz ok1 ev
  exact h1 v H1 F2 s2 ok2 da
 | m j => exact h1 v H1 F1 (Same.refl _) ok1 ev
 | v i =>
  have ev' : σ[i]? = some (some v) := ev
  simp only [escS] at h1
  split at h1
  ·rename_i xs hs
   obtain ⟨F2, s2, ok2, da⟩ := ok1.frzSlot hs ev'
   exact h1 v H1 F2 s2 ok2 da
  ·rename_i x hs
   obtain ⟨w, e, q⟩ := ok1.slot i _ hs
   rw [ev'] at e
   cases e
   exact h1 v H1 F1 (Same.refl _) ok1 q
  ·exact h1.elim
noncomputable def rd {T : Type} (z : Z T) : S → Option D
 | .d x => some x
 | .l xs => some (.lst xs)
 | .v i => match z.rho[i]? with
  | some (some (.d x)) => some x
  | some (some (.l xs)) => some (.lst xs)
  | _ => none
 | .m _ => none
noncomputable def Rv (K : PySem.W.Frag) (F H : Hp) (v : V) (x : D) : Prop := Da K F v x ∨ ∃ a vs xs, v = .ref a ∧ x = .lst xs ∧ H a = some (.lst vs) ∧ DaAll K F vs xs
theorem EO.rv (ok : Ok M G σ H F z) {v : V} {s : S} {x : D} (e : EO G σ F v s) (h : rd z s = some x) : Rv G.K F H v x := by
 cases s with
 | d y => cases h; exact .inl e
 | l _ => exact e.elim
 | m _ => cases h
 | v i =>
  have e' : σ[i]? = some (some v) := e
  simp only [rd] at h
  split at h
  ·rename_i y hs
   cases h
   obtain ⟨w, e1, q⟩ := ok.slot i _ hs
   rw [e'] at e1
   cases e1
   exact .inl q
  ·rename_i xs hs
   cases h
   obtain ⟨w, e1, a, vs, rfl, h1, h2, _⟩ := ok.slot i _ hs
   rw [e'] at e1
   cases e1
   exact .inr ⟨a, vs, xs, rfl, rfl, h1, h2⟩
  ·cases h
inductive R where
  | d (x : D)
  /-- a tuple, an old one or a new one -/
  | t (xs : List D)
  | l (xs : List D)
noncomputable def R.toS : R → S
 | .d x => .d x
 | .t xs => .d (.tup xs)
 | .l xs => .l xs
noncomputable def Hit0 (K : PySem.W.Frag) (F H : Hp) (r : Option R) (Q : VK) : Prop := match r with
 | some (.d y) => ∀ v, Da K F v y → Q v H
 | some (.t ys) => (∀ v, Da K F v (.tup ys) → Q v H) ∧ ∀ p vs, H p = none → DaAll K F vs ys → Q (.ref p) (upd H p (.tup vs))
 | some (.l ys) => ∀ p vs, H p = none → DaAll K F vs ys → Q (.ref p) (upd H p (.lst vs))
 | none => False
noncomputable def fin (o : Option R) (z : Z M.T) : Rs S (Z M.T) := match o with
 | some r => .ok r.toS z
 | none => .bad
theorem fin_hit (ok : Ok M G σ H F z) {o : Option R} {Q : VK} (h : HitG M G W σ F (RelE G σ) (fin o z) Q) : Hit0 G.K F H o Q := by
 cases o with
 | none => exact h
 | some r =>
  cases r with
  | d y => exact fun v hv => h v H F (Same.refl _) ok hv
  | t ys => exact ⟨fun v hv => h v H F (Same.refl _) ok hv, fun p vs hp hv => h (.ref p) (upd H p (.tup vs)) (upd F p (.tup vs)) (same_upd (ok.freshF hp)) (ok.newF hp _ tupNT) (.tup (SqT.of upd_same) (hv.mono (same_upd (ok.freshF hp))))⟩
  | l ys => exact fun p vs hp hv => h (.ref p) (upd H p (.lst vs)) F (Same.refl _) (ok.new hp _) ⟨p, vs, rfl, upd_same, hv, ok.freshF hp, ok.freshP hp, ok.freshM hp, ok.freshO hp⟩
noncomputable def Op2 (K : PySem.W.Frag) (r : R2) (g : D → D → Option R) : Prop := ∀ (F H : Hp) (x y : V) (a b : D) (Q : VK), SameX F H → Rv K F H x a → Rv K F H y b → Hit0 K F H (g a b) Q → r x y H Q
noncomputable def Op1 (K : PySem.W.Frag) (r : V → Hp → VK → Prop) (g : D → Option R) : Prop := ∀ (F H : Hp) (x : V) (a : D) (Q : VK), SameX F H → Rv K F H x a → Hit0 K F H (g a) Q → r x H Q
noncomputable def OpN (K : PySem.W.Frag) (r : List V → Hp → VK → Prop) (g : List D → Option R) : Prop := ∀ (F H : Hp) (xs : List V) (as : List D) (Q : VK), SameX F H → Paired (Rv K F H) xs as → Hit0 K F H (g as) Q → r xs H Q
noncomputable def DE {ι : Type} (M : MI) (xr : Str → Option Value) (K : PySem.W.Frag) (X : ι → Cx) (W : WX) (e : Expr) (f : Sm M S) : Prop := ∃ t, (∀ i, PE (X i) e t) ∧ Cmp M K xr W t RelE f
noncomputable def DT {ι : Type} (M : MI) (xr : Str → Option Value) (K : PySem.W.Frag) (X : ι → Cx) (W : WX) (e : Expr) (f : Sm M Bool) : Prop := ∃ t, (∀ i, PT (X i) e t) ∧ Cmp M K xr W t RelB f
noncomputable def DA {ι : Type} (M : MI) (xr : Str → Option Value) (K : PySem.W.Frag) (X : ι → Cx) (W : WX) (es : List Expr) (f : Sm M (List S)) : Prop := ∃ t, (∀ i, PA (X i) es t) ∧ Cmp M K xr W t RelA f
noncomputable def DO {ι : Type} (M : MI) (xr : Str → Option Value) (K : PySem.W.Frag) (X : ι → Cx) (W : WX) (e : Option Expr) (f : Sm M (Option Int)) : Prop := ∃ t, (∀ i, PO (X i) e t) ∧ Cmp M K xr W t RelI f
noncomputable def eVar (i : Nat) (z : Z M.T) : Rs S (Z M.T) := match z.rho[i]? with
 | some (some (.l _)) => .ok (.v i) z
 | some (some s) => .ok s z
 | _ => .bad
noncomputable def eC (x : D) (z : Z M.T) : Rs S (Z M.T) := .ok (.d x) z
noncomputable def kB (g : D → D → Option R) (f' : Sm M S) (s : S) (z1 : Z M.T) : Rs S (Z M.T) := (opd f' z1).bind fun s' z2 => fin ((rd z2 s).bind fun x => (rd z2 s').bind fun y => g x y) z2
noncomputable def eBin (g : D → D → Option R) (f f' : Sm M S) (z : Z M.T) : Rs S (Z M.T) := (opd f z).bind (kB g f')
noncomputable def eUn (g : D → Option R) (f : Sm M S) (z : Z M.T) : Rs S (Z M.T) := (opd f z).bind fun s z1 => fin ((rd z1 s).bind g) z1
noncomputable def tOf (f : Sm M S) (z : Z M.T) : Rs Bool (Z M.T) := (f z).bind fun s z1 => match s with
 | .d (.bl b) => .ok b z1
 | _ => .bad
noncomputable def tTru (g : D → Option Bool) (f : Sm M S) (z : Z M.T) : Rs Bool (Z M.T) := (opd f z).bind fun s z1 => Rs.opt ((rd z1 s).bind g) z1
noncomputable def tAndM (f g : Sm M Bool) (z : Z M.T) : Rs Bool (Z M.T) := (f z).bind fun b z1 => if b = true then g z1 else .ok false z1
noncomputable def tOrM (f g : Sm M Bool) (z : Z M.T) : Rs Bool (Z M.T) := (f z).bind fun b z1 => if b = true then .ok true z1 else g z1
noncomputable def tNotM (f : Sm M Bool) (z : Z M.T) : Rs Bool (Z M.T) := (f z).bind fun b z1 => .ok (!b) z1
noncomputable def eAndM (f g : Sm M S) (z : Z M.T) : Rs S (Z M.T) := (tOf f z).bind fun b z1 => if b = true then g z1 else .ok (.d (.bl false)) z1
noncomputable def eOrM (f g : Sm M S) (z : Z M.T) : Rs S (Z M.T) := (tOf f z).bind fun b z1 => if b = true then .ok (.d (.bl true)) z1 else g z1
noncomputable def eNotM (f : Sm M S) (z : Z M.T) : Rs S (Z M.T) := (tOf f z).bind fun b z1 => .ok (.d (.bl (!b))) z1
noncomputable def kE (f g : Sm M S) (b : Bool) (z1 : Z M.T) : Rs S (Z M.T) := if b = true then f z1 else g z1
noncomputable def eIf (c : Sm M Bool) (f g : Sm M S) (z : Z M.T) : Rs S (Z M.T) := (c z).bind (kE f g)
noncomputable def aNil (z : Z M.T) : Rs (List S) (Z M.T) := .ok [] z
noncomputable def kA (g : Sm M (List S)) (s : S) (z1 : Z M.T) : Rs (List S) (Z M.T) := (g z1).bind fun ss z2 => .ok (s :: ss) z2
noncomputable def aCons (f : Sm M S) (g : Sm M (List S)) (z : Z M.T) : Rs (List S) (Z M.T) := (f z).bind (kA g)
noncomputable def dsOf : List S → Option (List D)
 | [] => some []
 | .d x :: r => (dsOf r).bind fun xs => some (x :: xs)
 | _ :: _ => none
noncomputable def lim : Nat := 1000000
theorem lim_line : lim < sizeLine := by rw [sizeLine_eq]; decide
noncomputable def eTup (g : Sm M (List S)) (z : Z M.T) : Rs S (Z M.T) := (g z).bind fun ss z1 => match dsOf ss with
 | some ds => if ds.length ≤ lim then .ok (.d (.tup ds)) z1 else .bad
 | none => .bad
noncomputable def eLst (g : Sm M (List S)) (z : Z M.T) : Rs S (Z M.T) := (g z).bind fun ss z1 => match dsOf ss with
 | some ds => if ds.length ≤ lim then .ok (.l ds) z1 else .bad
 | none => .bad
noncomputable def rds {T : Type} (z : Z T) : List S → Option (List D)
 | [] => some []
 | s :: r => (rd z s).bind fun x => (rds z r).bind fun xs => some (x :: xs)
noncomputable def eFn (g : List D → Option R) (f : Sm M (List S)) (z : Z M.T) : Rs S (Z M.T) := (f z).bind fun ss z1 => fin ((rds z1 ss).bind g) z1
end
end G
namespace G
open PySem L2
section
variable {ι : Type} {M : MI} {xr : Str → Option Value} {X : ι → Cx} {W : WX} {K : PySem.W.Frag}
theorem cmp_var {i : Nat} : Cmp M K xr W (tVar i) RelE (eVar i) := by
 intro G σ H F z Q _ _ ok h
 unfold eVar at h
 split at h
 ·rename_i xs hs
  obtain ⟨v, e, _⟩ := ok.slot i _ hs
  exact ⟨v, e, h v H F (Same.refl _) ok e⟩
 ·rename_i s hn hs
  obtain ⟨v, e, q⟩ := ok.slot i _ hs
  refine ⟨v, e, h v H F (Same.refl _) ok ?_⟩
  cases s with
  | d x => exact q
  | l xs => exact (hn xs rfl).elim
  | v j => exact q.elim
  | m j => exact q
 ·exact h.elim
theorem de_var (i : Nat) {x : Str} {pos : Pos} (hN : ∀ j, (X j).N[i]? = some x := by intro _; rfl) (hv : ∀ j, Vis (X j).env.scope x := by first | exact fun _ => Or.inl rfl | exact fun _ => Or.inr (Or.inl rfl) | exact fun _ => Or.inr (Or.inr rfl)) (hd : (x == ("__debug__" : Str)) = false := by decide)
  (hcd : (x == ("__classdict__" : Str)) = false := by decide) : DE M xr K X W (.Name x pos) (eVar i) := ⟨_, fun j => pe_var (hN j) (hv j) hd hcd, cmp_var⟩
theorem cmp_c {v : V} {d : D} (hd : ∀ F, Da K F v d) : Cmp M K xr W (tC v) RelE (eC d) := fun G σ H F z Q hK _ ok h => h v H F (Same.refl _) ok (by subst hK; exact hd F)
theorem de_int {i j pos} : DE M xr K X W (.Constant (.int i) j pos) (eC (.int i)) := ⟨_, fun _ => pe_int, cmp_c fun _ => .int i⟩
theorem de_str {i j pos} : DE M xr K X W (.Constant (.str i) j pos) (eC (.str i)) := ⟨_, fun _ => pe_str, cmp_c fun _ => .str _⟩
theorem de_bl {i j pos} : DE M xr K X W (.Constant (.bool i) j pos) (eC (.bl i)) := ⟨_, fun _ => pe_bl, cmp_c fun _ => .bl i⟩
theorem de_non {j pos} : DE M xr K X W (.Constant .none j pos) (eC .non) := ⟨_, fun _ => pe_non, cmp_c fun _ => .non⟩
theorem de_glob {x : Str} {v : V} {u : Value} {d : D} {pos : Pos} (hg : ∀ j, Gl (X j) x) (hm : ∀ j, (X j).mg x = some u) (r : RelV v u) (hd : ∀ F, Da K F v d) (hb : (x == ("__debug__" : Str)) = false := by decide) : DE M xr K X W (.Name x pos) (eC d) := ⟨_, fun j => pe_glob (hg j) (hm j) r hb, cmp_c hd⟩
theorem cmp_bin {r : R2} {g : D → D → Option R} {ta tb : TE} {f f' : Sm M S} (hd : Op2 K r g) (ha : Cmp M K xr W ta RelE f) (hb : Cmp M K xr W tb RelE f') : Cmp M K xr W (tOp r ta tb) RelE (eBin g f f') := by
 intro G σ H F z Q hK hx ok h
 refine cmp_opd ha G σ H F z _ hK hx ok (hit_bind h fun s z1 v H1 F1 _ sm1 ok1 e1 h1 => ?_)
 refine cmp_opd hb G σ H1 F1 z1 _ hK hx ok1 (hit_bind h1 fun s' z2 v' H2 F2 _ sm2 ok2 e2 h2 => ?_)
 have q := fin_hit ok2 h2
 subst hK
 cases ea : rd z2 s with
 | none => rw [ea] at q; exact q.elim
 | some x =>
  cases eb : rd z2 s' with
  | none => rw [ea, eb] at q; exact q.elim
  | some y =>
   rw [ea, eb] at q
   exact hd F2 H2 v v' x y Q ok2.sub (EO.rv ok2 (EO.mono sm2 e1) ea) (EO.rv ok2 e2 eb) q
theorem de_bin {op : Operator} {r : R2} {g : D → D → Option R} {a b : Expr} {f f' : Sm M S} {pos : Pos} (ho : ∀ j, OpR (X j) (binaryOp op) r) (hd : Op2 K r g) (ha : DE M xr K X W a f) (hb : DE M xr K X W b f') : DE M xr K X W (.BinOp a op b pos) (eBin g f f') := by
 obtain ⟨ta, pa, ca⟩ := ha
 obtain ⟨tb, pb, cb⟩ := hb
 exact ⟨_, fun j => pe_op (ho j) (pa j) (pb j), cmp_bin hd ca cb⟩
theorem de_cmp {op : CmpOp} {r : R2} {g : D → D → Option R} {a b : Expr} {f f' : Sm M S} {pos : Pos} (ho : ∀ j, OpR (X j) (compareOp op) r) (hd : Op2 K r g) (ha : DE M xr K X W a f) (hb : DE M xr K X W b f') (hm : behindInMarks op b = false) : DE M xr K X W (.Compare a [op] [b] pos) (eBin g f f') := by
 obtain ⟨ta, pa, ca⟩ := ha
 obtain ⟨tb, pb, cb⟩ := hb
 exact ⟨_, fun j => pe_cmpR (ho j) (pa j) (pb j) hm, cmp_bin hd ca cb⟩
theorem cmp_tOf {t : TE} {f : Sm M S} (h : Cmp M K xr W t RelE f) : Cmp M K xr W (tTest t) RelB (tOf f) := by
 intro G σ H F z Q hK hx ok hh
 refine h G σ H F z _ hK hx ok (hit_bind hh fun s z1 v H1 F1 _ sm1 ok1 e1 h1 => ?_)
 cases s with
 | d x =>
  cases x with
  | bl b =>
   cases (show Da G.K F1 v (.bl b) from e1)
   exact ⟨b, rfl, h1 b H1 F1 (Same.refl _) ok1 rfl⟩
  | _ => exact h1.elim
 | _ => exact h1.elim
theorem dt_cmp {op : CmpOp} {r : R2} {g : D → D → Option R} {a b : Expr} {f f' : Sm M S} {pos : Pos} (ho : ∀ j, OpR (X j) (compareOp op) r) (hd : Op2 K r g) (ha : DE M xr K X W a f) (hb : DE M xr K X W b f') (hm : behindInMarks op b = false) : DT M xr K X W (.Compare a [op] [b] pos) (tOf (eBin g f f')) := by
 obtain ⟨ta, pa, ca⟩ := ha
 obtain ⟨tb, pb, cb⟩ := hb
 exact ⟨_, fun j => pt_cmpR (ho j) (pa j) (pb j) hm, cmp_tOf (cmp_bin hd ca cb)⟩
theorem cmp_and {t u : TT} {f g : Sm M Bool} (h : Cmp M K xr W t RelB f) (h' : Cmp M K xr W u RelB g) : Cmp M K xr W (tAnd t u) RelB (tAndM f g) := by
 intro G σ H F z Q hK hx ok hh
 refine h G σ H F z _ hK hx ok (hit_bind hh fun b z1 c H1 F1 _ sm1 ok1 e1 h1 => ?_)
 cases (show c = b from e1)
 cases b with
 | true => exact h' G σ H1 F1 z1 Q hK hx ok1 h1
 | false => exact h1 false H1 F1 (Same.refl _) ok1 rfl
theorem cmp_or {t u : TT} {f g : Sm M Bool} (h : Cmp M K xr W t RelB f) (h' : Cmp M K xr W u RelB g) : Cmp M K xr W (tOr t u) RelB (tOrM f g) := by
 intro G σ H F z Q hK hx ok hh
 refine h G σ H F z _ hK hx ok (hit_bind hh fun b z1 c H1 F1 _ sm1 ok1 e1 h1 => ?_)
 cases (show c = b from e1)
 cases b with
 | false => exact h' G σ H1 F1 z1 Q hK hx ok1 h1
 | true => exact h1 true H1 F1 (Same.refl _) ok1 rfl
noncomputable def DW {ι : Type} (M : MI) (xr : Str → Option Value) (K : PySem.W.Frag) (X : ι → Cx) (W : WX) (e : Expr) (f : Sm M Bool) : Prop := ∃ t, (∀ j, PW (X j) e t) ∧ Cmp M K xr W t RelB f
theorem dw_and1 {a : Expr} {f : Sm M Bool} {pos : Pos} (h : DT M xr K X W a f) : DW M xr K X W (.BoolOp .And [a] pos) f := by
 obtain ⟨t, p, c⟩ := h
 exact ⟨_, fun j => pw_and1 (p j), c⟩
theorem dw_or1 {a : Expr} {f : Sm M Bool} {pos : Pos} (h : DT M xr K X W a f) : DW M xr K X W (.BoolOp .Or [a] pos) f := by
 obtain ⟨t, p, c⟩ := h
 exact ⟨_, fun j => pw_or1 (p j), c⟩
theorem dw_and {a b : Expr} {r : List Expr} {f g : Sm M Bool} {pos : Pos} (h : DT M xr K X W a f) (h' : DW M xr K X W (.BoolOp .And (b :: r) pos) g) : DW M xr K X W (.BoolOp .And (a :: b :: r) pos) (tAndM f g) := by
 obtain ⟨t, p, c⟩ := h
 obtain ⟨t', p', c'⟩ := h'
 exact ⟨_, fun j => pw_and (p j) (p' j), cmp_and c c'⟩
theorem dw_or {a b : Expr} {r : List Expr} {f g : Sm M Bool} {pos : Pos} (h : DT M xr K X W a f) (h' : DW M xr K X W (.BoolOp .Or (b :: r) pos) g) : DW M xr K X W (.BoolOp .Or (a :: b :: r) pos) (tOrM f g) := by
 obtain ⟨t, p, c⟩ := h
 obtain ⟨t', p', c'⟩ := h'
 exact ⟨_, fun j => pw_or (p j) (p' j), cmp_or c c'⟩
theorem dt_w {e : Expr} {f : Sm M Bool} (h : DW M xr K X W e f) : DT M xr K X W e f := by
 obtain ⟨t, p, c⟩ := h
 exact ⟨_, fun j => (p j).pt, c⟩
theorem dt_not {a : Expr} {f : Sm M Bool} {pos : Pos} (h : DT M xr K X W a f) : DT M xr K X W (.UnaryOp .Not a pos) (tNotM f) := by
 obtain ⟨t, p, c⟩ := h
 refine ⟨_, fun j => pt_not (p j), fun G σ H F z Q hK hx ok hh => ?_⟩
 refine c G σ H F z _ hK hx ok (hit_bind hh fun b z1 c H1 F1 _ sm1 ok1 e1 h1 => ?_)
 cases (show c = b from e1)
 exact h1 _ H1 F1 (Same.refl _) ok1 rfl
theorem de_one {op} {a : Expr} {f : Sm M S} {pos : Pos} (h : DE M xr K X W a f) : DE M xr K X W (.BoolOp op [a] pos) f := by
 obtain ⟨t, p, c⟩ := h
 exact ⟨_, fun j => pe_one (p j), c⟩
theorem de_and {a b : Expr} {r : List Expr} {f g : Sm M S} {pos : Pos} (h : DE M xr K X W a f) (h' : DE M xr K X W (.BoolOp .And (b :: r) pos) g) : DE M xr K X W (.BoolOp .And (a :: b :: r) pos) (eAndM f g) := by
 obtain ⟨t, p, c⟩ := h
 obtain ⟨t', p', c'⟩ := h'
 refine ⟨_, fun j => pe_and (p j) (p' j), fun G σ H F z Q hK hx ok hh => ?_⟩
 refine cmp_tOf c G σ H F z (fun b H1 => if b = true then t' σ H1 Q else Q (.bl false) H1) hK hx ok (hit_bind hh fun b z1 c H1 F1 _ sm1 ok1 e1 h1 => ?_)
 cases (show c = b from e1)
 cases b with
 | true => exact c' G σ H1 F1 z1 Q hK hx ok1 h1
 | false => exact h1 (.bl false) H1 F1 (Same.refl _) ok1 (Da.bl false)
theorem de_if {c a b : Expr} {fc : Sm M Bool} {f g : Sm M S} {pos : Pos} (hc : DT M xr K X W c fc) (h : DE M xr K X W a f) (h' : DE M xr K X W b g) : DE M xr K X W (.IfExp c a b pos) (eIf fc f g) := by
 obtain ⟨t, p, c0⟩ := hc
 obtain ⟨t1, p1, c1⟩ := h
 obtain ⟨t2, p2, c2⟩ := h'
 refine ⟨_, fun j => pe_ifExp (p j) (p1 j) (p2 j), fun G σ H F z Q hK hx ok hh => ?_⟩
 refine c0 G σ H F z _ hK hx ok (hit_bind hh fun b z1 c H1 F1 _ sm1 ok1 e1 h1 => ?_)
 cases (show c = b from e1)
 cases b with
 | true => exact c1 G σ H1 F1 z1 Q hK hx ok1 h1
 | false => exact c2 G σ H1 F1 z1 Q hK hx ok1 h1
theorem da_nil : DA M xr K X W [] aNil := ⟨_, fun _ => pa_nil, fun G σ H F z Q _ _ ok h => h [] H F (Same.refl _) ok .nil⟩
theorem cmp_cons {te : TE} {t : TA} {f : Sm M S} {g : Sm M (List S)} (c : Cmp M K xr W te RelO f) (c' : Cmp M K xr W t RelA g) : Cmp M K xr W (tCons te t) RelA (aCons f g) := by
 intro G σ H F z Q hK hx ok hh
 refine c G σ H F z _ hK hx ok (hit_bind hh fun s z1 v H1 F1 _ sm1 ok1 e1 h1 => ?_)
 refine c' G σ H1 F1 z1 _ hK hx ok1 (hit_bind h1 fun ss z2 vs H2 F2 _ sm2 ok2 e2 h2 => ?_)
 exact h2 (v :: vs) H2 F2 (Same.refl _) ok2 (.cons (EO.mono sm2 e1) e2)
theorem da_rd {e : Expr} {es : List Expr} {f : Sm M S} {g : Sm M (List S)} (h : DE M xr K X W e f) (h' : DA M xr K X W es g) (hs : ∀ j, starEach (e :: es) (X j).env = (false, eval e (X j).env) :: starEach es (X j).env := by intro _; rfl) : DA M xr K X W (e :: es) (aCons (opd f) g) := by
 obtain ⟨t, p, c⟩ := h
 obtain ⟨t', p', c'⟩ := h'
 exact ⟨_, fun j => pa_cons (p j) (p' j) (hs j), cmp_cons (cmp_opd c) c'⟩
theorem da_es {e : Expr} {es : List Expr} {f : Sm M S} {g : Sm M (List S)} (h : DE M xr K X W e f) (h' : DA M xr K X W es g) (hs : ∀ j, starEach (e :: es) (X j).env = (false, eval e (X j).env) :: starEach es (X j).env := by intro _; rfl) : DA M xr K X W (e :: es) (aCons (escf f) g) := by
 obtain ⟨t, p, c⟩ := h
 obtain ⟨t', p', c'⟩ := h'
 exact ⟨_, fun j => pa_cons (p j) (p' j) (hs j), cmp_cons (cmp_esc c) c'⟩
theorem paired_ds {G : Gx} {σ : St} {F : Hp} : ∀ {vs : List V} {ss : List S} {ds : List D}, Paired (fun v s => EO G σ F v s) vs ss → dsOf ss = some ds → DaAll G.K F vs ds
 | _, _, _, .nil, h => by cases h; exact .nil
 | _, s :: ss, ds, .cons a b, h => by
  cases s with
  | d x =>
   unfold dsOf at h
   cases e : dsOf ss with
   | none => rw [e] at h; cases h
   | some xs =>
    rw [e] at h
    cases h
    exact .cons a (paired_ds b e)
  | _ => cases h
theorem de_tup {es : List Expr} {g : Sm M (List S)} {x1 pos} (h : DA M xr K X W es g) : DE M xr K X W (.Tuple es x1 pos) (eTup g) := by
 obtain ⟨t, p, c⟩ := h
 refine ⟨_, fun j => pe_tup (p j), fun G σ H F z Q hK hx ok hh => ?_⟩
 refine c G σ H F z _ hK hx ok (hit_bind hh fun ss z1 vs H1 F1 _ sm1 ok1 e1 h1 => ?_)
 cases e : dsOf ss with
 | none => rw [e] at h1; exact h1.elim
 | some ds =>
  rw [e] at h1
  have da := paired_ds e1 e
  by_cases hl : ds.length ≤ lim
  ·simp only [if_pos hl] at h1
   refine ⟨by rw [da.length]; exact Nat.le_trans hl (Nat.le_of_lt lim_line), fun p hp => ?_⟩
   exact h1 (.ref p) (upd H1 p (.tup vs)) (upd F1 p (.tup vs)) (same_upd (ok1.freshF hp)) (ok1.newF hp _ tupNT) (.tup (SqT.of upd_same) (da.mono (same_upd (ok1.freshF hp))))
  ·simp only [if_neg hl] at h1
   exact h1.elim
theorem de_lst {es : List Expr} {g : Sm M (List S)} {pos} (h : DA M xr K X W es g) : DE M xr K X W (.List es pos) (eLst g) := by
 obtain ⟨t, p, c⟩ := h
 refine ⟨_, fun j => pe_lst (p j), fun G σ H F z Q hK hx ok hh => ?_⟩
 refine c G σ H F z _ hK hx ok (hit_bind hh fun ss z1 vs H1 F1 _ sm1 ok1 e1 h1 => ?_)
 cases e : dsOf ss with
 | none => rw [e] at h1; exact h1.elim
 | some ds =>
  rw [e] at h1
  have da := paired_ds e1 e
  by_cases hl : ds.length ≤ lim
  ·simp only [if_pos hl] at h1
   refine ⟨by rw [da.length]; exact Nat.le_trans hl (Nat.le_of_lt lim_line), fun p hp => ?_⟩
   exact h1 (.ref p) (upd H1 p (.lst vs)) F1 (Same.refl _) (ok1.new hp _) ⟨p, vs, rfl, upd_same, da, ok1.freshF hp, ok1.freshP hp, ok1.freshM hp, ok1.freshO hp⟩
  ·simp only [if_neg hl] at h1
   exact h1.elim
theorem paired_rv {G : Gx} {σ : St} {H F : Hp} {z : Z M.T} (ok : Ok M G σ H F z) : ∀ {vs : List V} {ss : List S} {ds : List D}, Paired (fun v s => EO G σ F v s) vs ss → rds z ss = some ds → Paired (Rv G.K F H) vs ds
 | _, _, _, .nil, h => by cases h; exact .nil
 | _, s :: ss, ds, .cons a b, h => by
  unfold rds at h
  cases e : rd z s with
  | none => rw [e] at h; cases h
  | some x =>
   cases e2 : rds z ss with
   | none => rw [e, e2] at h; cases h
   | some xs =>
    rw [e, e2] at h
    cases h
    exact .cons (EO.rv ok a e) (paired_rv ok b e2)
theorem cmp_fn {r : List V → Hp → VK → Prop} {g : List D → Option R} {t : TA} {f : Sm M (List S)} (hd : OpN K r g) (c : Cmp M K xr W t RelA f) : Cmp M K xr W (tCB r t) RelE (eFn g f) := by
 intro G σ H F z Q hK hx ok hh
 refine c G σ H F z _ hK hx ok (hit_bind hh fun ss z1 vs H1 F1 _ sm1 ok1 e1 h1 => ?_)
 have q := fin_hit ok1 h1
 subst hK
 cases e : rds z1 ss with
 | none => rw [e] at q; exact q.elim
 | some ds =>
  rw [e] at q
  exact hd F1 H1 vs ds Q ok1.sub (paired_rv ok1 e1 e) q
theorem de_callB {x : Str} {id : String} {r : List V → Hp → VK → Prop} {g : List D → Option R} {e : Expr} {es : List Expr} {f : Sm M (List S)} {p pos : Pos} (hc : ∀ j, CallR (X j) (.builtin id) r) (hd : OpN K r g) (hg : ∀ j, Gl (X j) x) (hm : ∀ j, (X j).mg x = none) (hv : bootBuiltins x = some (.builtin id))
  (h : DA M xr K X W (e :: es) f) (hn : x ≠ "__name__" := by decide) (hdb : (x == ("__debug__" : Str)) = false := by decide)
  (he : ∀ j, starEach (e :: es) (X j).env = (false, eval e (X j).env) :: starEach es (X j).env := by intro _; rfl) (hpl : ∀ j, (backTo pos (starEach es (X j).env)).any (·.1) = false := by intro _; rfl) : DE M xr K X W (.Call (.Name x p) (e :: es) [] pos) (eFn g f) := by
 obtain ⟨t, pa, c⟩ := h
 exact ⟨_, fun j => pe_callB (hc j) (hg j) (hm j) hv (pa j) hn hdb (he j) (hpl j), cmp_fn hd c⟩
theorem de_callTy {x : Str} {T : String} {r : List V → Hp → VK → Prop} {g : List D → Option R} {e : Expr} {es : List Expr} {f : Sm M (List S)} {p pos : Pos} (hc : ∀ j, CallR (X j) (.type T) r) (hd : OpN K r g) (hg : ∀ j, Gl (X j) x) (hm : ∀ j, (X j).mg x = none) (hv : bootBuiltins x = some (.type T))
  (h : DA M xr K X W (e :: es) f) (hn : x ≠ "__name__" := by decide) (hdb : (x == ("__debug__" : Str)) = false := by decide)
  (he : ∀ j, starEach (e :: es) (X j).env = (false, eval e (X j).env) :: starEach es (X j).env := by intro _; rfl) (hpl : ∀ j, (backTo pos (starEach es (X j).env)).any (·.1) = false := by intro _; rfl) : DE M xr K X W (.Call (.Name x p) (e :: es) [] pos) (eFn g f) := by
 obtain ⟨t, pa, c⟩ := h
 exact ⟨_, fun j => pe_callTy (hc j) (hg j) (hm j) hv (pa j) hn hdb (he j) (hpl j), cmp_fn hd c⟩
theorem de_ix {r : R2} {g : D → D → Option R} {a b : Expr} {f f' : Sm M S} {pos : Pos} (ho : ∀ j, IxR (X j) r) (hd : Op2 K r g) (ha : DE M xr K X W a f) (hb : DE M xr K X W b f') (hs : PlainIx b := by exact fun _ _ => rfl) : DE M xr K X W (.Subscript a b pos) (eBin g f f') := by
 obtain ⟨ta, pa, ca⟩ := ha
 obtain ⟨tb, pb, cb⟩ := hb
 exact ⟨_, fun j => pe_ix (ho j) (pa j) (pb j) hs, cmp_bin hd ca cb⟩
theorem do_none : DO M xr K X W none (fun z => .ok none z) := ⟨_, fun _ => po_none, fun G σ H F z Q _ _ ok h => h none H F (Same.refl _) ok rfl⟩
noncomputable def oInt (f : Sm M S) (z : Z M.T) : Rs (Option Int) (Z M.T) := (opd f z).bind fun s z1 => match s with
 | .d (.int i) => .ok (some i) z1
 | _ => .bad
theorem do_some {e : Expr} {f : Sm M S} (h : DE M xr K X W e f) : DO M xr K X W (some e) (oInt f) := by
 obtain ⟨t, p, c⟩ := h
 refine ⟨_, fun j => po_some (p j), fun G σ H F z Q hK hx ok hh => ?_⟩
 refine cmp_opd c G σ H F z _ hK hx ok (hit_bind hh fun s z1 v H1 F1 _ sm1 ok1 e1 h1 => ?_)
 cases s with
 | d x =>
  cases x with
  | int i =>
   cases (show Da G.K F1 v (.int i) from e1)
   exact ⟨i, rfl, h1 (some i) H1 F1 (Same.refl _) ok1 rfl⟩
  | _ => exact h1.elim
 | _ => exact h1.elim
noncomputable def eSl (g : D → Option Int → Option Int → Option R) (f : Sm M S) (lo hi : Sm M (Option Int)) (z : Z M.T) : Rs S (Z M.T) := (opd f z).bind fun s z1 => (lo z1).bind fun a z2 => (hi z2).bind fun b z3 => fin ((rd z3 s).bind fun x => g x a b) z3
noncomputable def OpS (K : PySem.W.Frag) (r : V → Option Int → Option Int → Hp → VK → Prop) (g : D → Option Int → Option Int → Option R) : Prop := ∀ (F H : Hp) (x : V) (a : D) (lo hi : Option Int) (Q : VK), SameX F H → Rv K F H x a → Hit0 K F H (g a lo hi) Q → r x lo hi H Q
theorem de_slice {r : V → Option Int → Option Int → Hp → VK → Prop} {g : D → Option Int → Option Int → Option R} {e : Expr} {lo hi : Option Expr} {f : Sm M S} {fl fh : Sm M (Option Int)} {p2 pos : Pos} (hr : ∀ j, SlR (X j) r) (hd : OpS K r g) (h : DE M xr K X W e f) (hl : DO M xr K X W lo fl) (hh : DO M xr K X W hi fh) :
  DE M xr K X W (.Subscript e (.Slice lo hi none p2) pos) (eSl g f fl fh) := by
 obtain ⟨t, p, c⟩ := h
 obtain ⟨tl, pl, cl⟩ := hl
 obtain ⟨th, ph, ch⟩ := hh
 refine ⟨_, fun j => pe_slice (hr j) (p j) (pl j) (ph j), fun G σ H F z Q hK hx ok hh => ?_⟩
 refine cmp_opd c G σ H F z _ hK hx ok (hit_bind hh fun s z1 v H1 F1 _ sm1 ok1 e1 h1 => ?_)
 refine cl G σ H1 F1 z1 _ hK hx ok1 (hit_bind h1 fun a z2 a' H2 F2 _ sm2 ok2 e2 h2 => ?_)
 refine ch G σ H2 F2 z2 _ hK hx ok2 (hit_bind h2 fun b z3 b' H3 F3 _ sm3 ok3 e3 h3 => ?_)
 cases (show a' = a from e2)
 cases (show b' = b from e3)
 have q := fin_hit ok3 h3
 cases e : rd z3 s with
 | none => rw [e] at q; exact q.elim
 | some x =>
  rw [e] at q
  have hd' := hd F3 H3 v x a b Q
  rw [← hK] at hd'
  exact hd' ok3.sub (EO.rv ok3 (EO.mono (sm2.trans sm3) e1) e) q
theorem cmp_un {r : V → Hp → VK → Prop} {g : D → Option R} {t : TE} {f : Sm M S} (hd : Op1 K r g) (c : Cmp M K xr W t RelE f) : Cmp M K xr W (tUn r t) RelE (eUn g f) := by
 intro G σ H F z Q hK hx ok hh
 refine cmp_opd c G σ H F z _ hK hx ok (hit_bind hh fun s z1 v H1 F1 _ sm1 ok1 e1 h1 => ?_)
 have q := fin_hit ok1 h1
 cases e : rd z1 s with
 | none => rw [e] at q; exact q.elim
 | some x =>
  rw [e] at q
  have hd' := hd F1 H1 v x Q
  rw [← hK] at hd'
  exact hd' ok1.sub (EO.rv ok1 e1 e) q
theorem de_un {op : UnaryOp} {r : V → Hp → VK → Prop} {g : D → Option R} {a : Expr} {f : Sm M S} {pos : Pos} (ho : ∀ j, UnR (X j) (unaryOp op) r) (hd : Op1 K r g) (h : DE M xr K X W a f) : DE M xr K X W (.UnaryOp op a pos) (eUn g f) := by
 obtain ⟨t, p, c⟩ := h
 exact ⟨_, fun j => pe_un (ho j) (p j), cmp_un hd c⟩
end
end G
namespace G
open PySem L2
end G
namespace G
open PySem L2
inductive Out where
  | nx
  | rt (s : S)
  | bk
  | ct
structure RetOk (M : MI) (G : Gx) (F H : Hp) (t : M.T) (v : V) (s : S) : Prop where
  sub : SameX F H
  mach : M.ok G.K F H G.ms t
  msF : ∀ a ∈ G.ms, F a = none
  msH : ∀ a ∈ G.ms, H a ≠ none
  fr : ∀ b o, G.P b = some o → H b = some o ∧ F b = G.Fp b
  tg : ∀ a ps, F a = some (.tbl ps) → H a ≠ none ∧ G.P a = none
  val : SV G F H v s
noncomputable def HitS (M : MI) (G : Gx) (W : WX) (F : Hp) (r : Rs Out (Z M.T)) (D : Ends) : Prop := match r with
 | .ok .nx z => ∀ σ H F', Same F F' → Ok M G σ H F' z → D.nx σ H
 | .ok .bk z => ∀ σ H F', Same F F' → Ok M G σ H F' z → D.bk σ H
 | .ok .ct z => ∀ σ H F', Same F F' → Ok M G σ H F' z → D.ct σ H
 | .ok (.rt s) z => ∀ v H F', Same F F' → RetOk M G F' H z.m v s → D.rt v H
 | .ex x z => ∀ cls d σ H F', Same F F' → Ok M G σ H F' z → XOk G F' H x cls d → W cls d σ H
 | .bad => False
noncomputable def SR (M : MI) (K : PySem.W.Frag) (xr : Str → Option Value) (W : WX) (t : TS) (f : Sm M Out) : Prop :=
 ∀ (G : Gx) (σ : St) (H F : Hp) (z : Z M.T) (D : Ends), G.K = K → G.xr = xr → Ok M G σ H F z → HitS M G W F (f z) D → t D σ H
noncomputable def DS {ι : Type} (M : MI) (xr : Str → Option Value) (K : PySem.W.Frag) (X : ι → Cx) (W : WX) (st : Stmt) (f : Sm M Out) : Prop := ∃ t, (∀ j, PS (X j) st t) ∧ SR M K xr W t f
noncomputable def DSs {ι : Type} (M : MI) (xr : Str → Option Value) (K : PySem.W.Frag) (X : ι → Cx) (W : WX) (st : List Stmt) (f : Sm M Out) : Prop := ∃ t, (∀ j, PSs (X j) st t) ∧ SR M K xr W t f
section
variable {M : MI} {G : Gx} {W : WX} {σ : St} {H H' F F' : Hp} {z : Z M.T} {D : Ends}
theorem HitS.mono {r : Rs Out (Z M.T)} (h : HitS M G W F r D) (s : Same F F') : HitS M G W F' r D := by
 cases r with
 | ok o z =>
  cases o with
  | nx => exact fun σ H F1 s1 ok => h σ H F1 (s.trans s1) ok
  | bk => exact fun σ H F1 s1 ok => h σ H F1 (s.trans s1) ok
  | ct => exact fun σ H F1 s1 ok => h σ H F1 (s.trans s1) ok
  | rt q => exact fun v H F1 s1 ok => h v H F1 (s.trans s1) ok
 | ex x z => exact fun cls d σ H F1 s1 ok xo => h cls d σ H F1 (s.trans s1) ok xo
 | bad => exact h
theorem hits_bind {α β : Type} {R1 : α → β → Hp → Hp → Z M.T → Prop} {r : Rs α (Z M.T)} {k : α → Z M.T → Rs Out (Z M.T)} {Q1 : β → Hp → Prop}
  (h : HitS M G W F (r.bind k) D) (hk : ∀ a z1 b H1 F1, r = .ok a z1 → Same F F1 → Ok M G σ H1 F1 z1 → R1 a b F1 H1 z1 → HitS M G W F1 (k a z1) D → Q1 b H1) : HitG M G W σ F R1 r Q1 := by
 cases r with
 | ok a z => exact fun b H' F1 s1 ok rr => hk a z b H' F1 rfl s1 ok rr (HitS.mono h s1)
 | ex x z => exact fun cls d H' F1 s1 ok xo => h cls d σ H' F1 s1 ok xo
 | bad => exact h
end
section
variable {ι : Type} {M : MI} {xr : Str → Option Value} {X : ι → Cx} {W : WX} {K : PySem.W.Frag}
noncomputable def sNil (z : Z M.T) : Rs Out (Z M.T) := .ok .nx z
noncomputable def sKk (g : Sm M Out) (o : Out) (z1 : Z M.T) : Rs Out (Z M.T) := match o with
 | .nx => g z1
 | o => .ok o z1
theorem sKk_nx (g : Sm M Out) (z : Z M.T) : sKk g .nx z = g z := rfl
theorem sKk_rt (g : Sm M Out) (s : S) (z : Z M.T) : sKk g (.rt s) z = .ok (.rt s) z := rfl
theorem sKk_bk (g : Sm M Out) (z : Z M.T) : sKk g .bk z = .ok .bk z := rfl
theorem sKk_ct (g : Sm M Out) (z : Z M.T) : sKk g .ct z = .ok .ct z := rfl
noncomputable def sSeq (f g : Sm M Out) (z : Z M.T) : Rs Out (Z M.T) := (f z).bind (sKk g)
theorem dss_nil : DSs M xr K X W [] sNil := ⟨_, fun _ => pss_nil, fun G σ H F z D _ _ ok h => h σ H F (Same.refl _) ok⟩
theorem dss_one {st : Stmt} {f : Sm M Out} (h : DS M xr K X W st f) : DSs M xr K X W [st] f := by
 obtain ⟨t, p, c⟩ := h
 exact ⟨_, fun j => pss_one (p j), c⟩
theorem dss_cons {st : Stmt} {r : List Stmt} {f g : Sm M Out} (h : DS M xr K X W st f) (h' : DSs M xr K X W r g) : DSs M xr K X W (st :: r) (sSeq f g) := by
 obtain ⟨t, p, c⟩ := h
 obtain ⟨t', p', c'⟩ := h'
 refine ⟨_, fun j => pss_cons (p j) (p' j), fun G σ H F z D hK hx ok hh => ?_⟩
 refine c G σ H F z { D with nx := t' D } hK hx ok ?_
 unfold sSeq at hh
 cases e : f z with
 | ok o z1 =>
  rw [e] at hh
  cases o with
  | nx => exact fun σ1 H1 F1 s1 ok1 => c' G σ1 H1 F1 z1 D hK hx ok1 (HitS.mono hh s1)
  | bk => exact hh
  | ct => exact hh
  | rt q => exact hh
 | ex x z1 => rw [e] at hh; exact hh
 | bad => rw [e] at hh; exact hh
theorem ds_continue {pos : Pos} : DS M xr K X W (.Continue pos) (fun z => .ok .ct z) := ⟨_, fun _ => ps_continue, fun G σ H F z D _ _ ok h => h σ H F (Same.refl _) ok⟩
noncomputable def una (f : Sm M S) (z : Z M.T) : Rs S (Z M.T) := (f z).bind fun s z1 => match s with
 | .v i => escS (.v i) z1
 | s => .ok s z1
noncomputable def RelU {M : MI} (G : Gx) (σ : St) : S → V → Hp → Hp → Z M.T → Prop := fun s v F H z => SV G F H v s ∧ ∀ xs, s = .l xs → ∀ a, v = .ref a → ¬ Owned σ z a
theorem cmp_una {t : TE} {f : Sm M S} (hf : Cmp M K xr W t RelE f) : Cmp M K xr W t RelU (una f) := by
 intro G σ H F z Q hK hx ok h
 refine hf G σ H F z Q hK hx ok (hit_bind h fun s z1 v H1 F1 _ sm ok1 ev h1 => ?_)
 cases s with
 | d x => exact h1 v H1 F1 (Same.refl _) ok1 ⟨ev, fun _ e => by cases e⟩
 | l xs =>
  obtain ⟨a, vs, rfl, q1, q2, q3, q4, q5, q6⟩ := ev
  exact h1 _ H1 F1 (Same.refl _) ok1 ⟨⟨a, vs, rfl, q1, q2, q3, q4, q5⟩, fun _ _ b e => by cases e; exact q6⟩
 | m j => exact h1 v H1 F1 (Same.refl _) ok1 ⟨ev, fun _ e => by cases e⟩
 | v i =>
  have ev' : σ[i]? = some (some v) := ev
  simp only [escS] at h1
  split at h1
  ·rename_i xs hs
   obtain ⟨F2, s2, ok2, da⟩ := ok1.frzSlot hs ev'
   exact h1 v H1 F2 s2 ok2 ⟨da, fun _ e => by cases e⟩
  ·rename_i x hs
   obtain ⟨w, e, q⟩ := ok1.slot i _ hs
   rw [ev'] at e
   cases e
   exact h1 v H1 F1 (Same.refl _) ok1 ⟨q, fun _ e => by cases e⟩
  ·exact h1.elim
noncomputable def sSet (i : Nat) (f : Sm M S) (z : Z M.T) : Rs Out (Z M.T) := (una f z).bind fun s z1 => .ok .nx { z1 with rho := z1.rho.set i (some s) }
theorem sr_set {i : Nat} {te : TE} {f : Sm M S} (c : Cmp M K xr W te RelE f) : SR M K xr W (tAsg te (gName i)) (sSet i f) := by
 intro G σ H F z D hK hx ok hh
 refine cmp_una c G σ H F z _ hK hx ok (hits_bind hh fun s z1 v H1 F1 _ sm ok1 ev h1 => ?_)
 exact h1 _ H1 F1 (Same.refl _) (ok1.set ev.1 ev.2)
theorem ds_set {i : Nat} {x : Str} {e : Expr} {f : Sm M S} {pos pos' : Pos} (hN : ∀ j, (X j).N.Nodup) (hi : ∀ j, (X j).N[i]? = some x) (hx : ∀ j, Loc (X j).env.scope x) (h : DE M xr K X W e f) (hs : ∀ j, swapsWith e (some (.Name x pos')) pos.line (X j).env = pure false := by intro _; rfl) (hf : ∀ j, (X j).fn x = true ∨ (X j).env.scope.names.lookup x = some .local := by first | exact fun _ => .inl rfl | exact fun _ => .inr rfl) :
  DS M xr K X W (.Assign [.Name x pos'] e pos) (sSet i f) := by
 obtain ⟨t, p, c⟩ := h
 exact ⟨_, fun j => ps_set (hN j) (hi j) (hx j) (p j) (hs j) (hf j), sr_set c⟩
noncomputable def But (ts : List Nat) (σ σ' : St) : Prop := σ'.length = σ.length ∧ ∀ n, n ∉ ts → σ'[n]? = σ[n]?
theorem But.refl {ts : List Nat} {σ : St} : But ts σ σ := ⟨rfl, fun _ _ => rfl⟩
theorem But.trans {ts us : List Nat} {σ σ' σ'' : St} (a : But ts σ σ') (b : But us σ' σ'') : But (ts ++ us) σ σ'' := ⟨b.1.trans a.1, fun n hn => (b.2 n (fun h => hn (List.mem_append_right _ h))).trans (a.2 n (fun h => hn (List.mem_append_left _ h)))⟩
noncomputable def GR (M : MI) (K : PySem.W.Frag) (ts : List Nat) (g : TG) (k : D → Z M.T → Option (Z M.T)) : Prop := ∀ (G : Gx) (σ : St) (H F : Hp) (z : Z M.T) (v : V) (x : D) (Q : St → Hp → Prop), G.K = K → Ok M G σ H F z → Da K F v x →
 (match k x z with | some z' => ∀ σ', But ts σ σ' → Ok M G σ' H F z' → Q σ' H | none => False) → g v σ H Q
noncomputable def GRs (M : MI) (K : PySem.W.Frag) (ts : List Nat) (g : TGs) (k : List D → Z M.T → Option (Z M.T)) : Prop := ∀ (G : Gx) (σ : St) (H F : Hp) (z : Z M.T) (vs : List V) (xs : List D) (Q : St → Hp → Prop), G.K = K → Ok M G σ H F z → DaAll K F vs xs →
 (match k xs z with | some z' => ∀ σ', But ts σ σ' → Ok M G σ' H F z' → Q σ' H | none => False) → g vs σ H Q
noncomputable def DG {ι : Type} (M : MI) (K : PySem.W.Frag) (X : ι → Cx) (ts : List Nat) (tg : Expr) (k : D → Z M.T → Option (Z M.T)) : Prop := ∃ g, (∀ j, PG (X j) tg g) ∧ GR M K ts g k
noncomputable def DGs {ι : Type} (M : MI) (K : PySem.W.Frag) (X : ι → Cx) (ts : List Nat) (tg : List Expr) (k : List D → Z M.T → Option (Z M.T)) : Prop := ∃ g, (∀ j, PGs (X j) tg g) ∧ GRs M K ts g k
noncomputable def kName (i : Nat) : D → Z M.T → Option (Z M.T) := fun x z => some { z with rho := z.rho.set i (some (.d x)) }
noncomputable def ksNil : List D → Z M.T → Option (Z M.T) := fun xs z => match xs with
 | [] => some z
 | _ => none
noncomputable def ksCons (k : D → Z M.T → Option (Z M.T)) (ks : List D → Z M.T → Option (Z M.T)) : List D → Z M.T → Option (Z M.T) := fun xs z => match xs with
 | x :: r => (k x z).bind fun z1 => ks r z1
 | [] => none
noncomputable def kTup (n : Nat) (ks : List D → Z M.T → Option (Z M.T)) : D → Z M.T → Option (Z M.T) := fun x z => match x with
 | .tup xs => if xs.length = n then ks xs z else none
 | _ => none
theorem gr_name {i : Nat} : GR M K [i] (gName i) (kName i) := fun G σ H F z v x Q hK ok da h => h _ ⟨List.length_set, fun n hn => List.getElem?_set_ne (fun e => hn (by rw [← e]; exact List.mem_cons_self))⟩ (ok.set (s := .d x) (by subst hK; exact da) (fun _ e => by cases e))
theorem dg_name {i : Nat} {x : Str} {pos : Pos} (hN : ∀ j, (X j).N.Nodup) (hi : ∀ j, (X j).N[i]? = some x) (hx : ∀ j, Loc (X j).env.scope x) (hf : ∀ j, (X j).fn x = true ∨ (X j).env.scope.names.lookup x = some .local := by first | exact fun _ => .inl rfl | exact fun _ => .inr rfl) : DG M K X [i] (.Name x pos) (kName i) := ⟨_, fun j => pg_name (hN j) (hi j) (hx j) (hf j), gr_name⟩
theorem dgs_nil : DGs M K X [] [] ksNil := ⟨_, fun _ => pgs_nil, fun G σ H F z vs xs Q _ ok da h => by
 cases da with
 | nil => exact ⟨rfl, h σ But.refl ok⟩
 | cons _ _ => exact h.elim⟩
theorem dgs_cons {e : Expr} {es : List Expr} {k : D → Z M.T → Option (Z M.T)} {ks : List D → Z M.T → Option (Z M.T)} {ts us : List Nat} (h1 : DG M K X ts e k) (h2 : DGs M K X us es ks) (hs : ∀ j, (assignEach (e :: es) (X j).env).map (·.2) = assign e (X j).env :: (assignEach es (X j).env).map (·.2) := by intro _; rfl) : DGs M K X (ts ++ us) (e :: es) (ksCons k ks) := by
 obtain ⟨g, p, c⟩ := h1
 obtain ⟨g', p', c'⟩ := h2
 refine ⟨_, fun j => pgs_cons (p j) (p' j) (hs j), fun G σ H F z vs xs Q hK ok da h => ?_⟩
 cases da with
 | nil => exact h.elim
 | cons a b =>
  rename_i v vs d ds
  refine ⟨v, vs, rfl, c G σ H F z v d _ hK ok a ?_⟩
  unfold ksCons at h
  cases e : k d z with
  | none => simp only [e, Option.bind_none] at h
  | some z1 =>
   simp only [e, Option.bind_some] at h
   intro σ' b1 ok'
   refine c' G σ' H F z1 vs ds Q hK ok' b ?_
   cases e2 : ks ds z1 with
   | none => rw [e2] at h; exact h
   | some z2 => rw [e2] at h; exact fun σ2 b2 ok2 => h σ2 (b1.trans b2) ok2
theorem dg_tup {ts : List Nat} {es : List Expr} {k n : Nat} {ks : List D → Z M.T → Option (Z M.T)} {pos : Pos} (hK0 : ∀ j, (X j).K = K) (hc : ∀ j, (X j).calm = true) (h : DGs M K X ts es ks) (hn : ∀ j, (assignEach es (X j).env).length = n := by intro _; rfl) (hst : ∀ j, (assignEach es (X j).env).findIdx? (·.1) = none := by intro _; rfl) : DG M K X ts (.Tuple es k pos) (kTup n ks) := by
 obtain ⟨g, p, c⟩ := h
 refine ⟨gTup K n g, fun j => by rw [← hK0 j]; exact pg_tup (hc j) (p j) (hn j) (hst j), fun G σ H F z v x Q hK ok da h => ?_⟩
 cases x with
 | tup xs =>
  unfold kTup at h
  by_cases hl : xs.length = n
  ·simp only [if_pos hl] at h
   cases da with
   | tup q r =>
    rename_i a vs
    exact ⟨a, vs, rfl, ok.sub.tup q, by rw [r.length]; exact hl, c G σ H F z vs xs Q hK ok r h⟩
  ·simp only [if_neg hl] at h
 | _ => exact h.elim
noncomputable def sAsg (f : Sm M S) (k : D → Z M.T → Option (Z M.T)) (z : Z M.T) : Rs Out (Z M.T) := (escf f z).bind fun s z1 => match s with
 | .d x => Rs.opt ((k x z1).map fun z2 => (Out.nx, z2)) z1 |>.bind fun p _ => .ok p.1 p.2
 | _ => .bad
theorem ds_asg {ts : List Nat} {tg e : Expr} {f : Sm M S} {k : D → Z M.T → Option (Z M.T)} {pos : Pos} (h : DE M xr K X W e f) (hg : DG M K X ts tg k) (hs : ∀ j, swapsWithSole [tg] e pos.line (X j).env = pure false := by intro _; rfl) (hw : ∀ j, swappedStores [tg] e (X j).env = pure none := by intro _; rfl)
  (h1 : ∀ j, (assignEach [tg] (X j).env).map (·.2) = [assign tg (X j).env] := by intro _; rfl) : DS M xr K X W (.Assign [tg] e pos) (sAsg f k) := by
 obtain ⟨t, p, c⟩ := h
 obtain ⟨g, pg, cg⟩ := hg
 refine ⟨_, fun j => ps_asg (p j) (pg j) (hs j) (hw j) (h1 j), fun G σ H F z D hK hx ok hh => ?_⟩
 refine cmp_esc c G σ H F z _ hK hx ok (hits_bind hh fun s z1 v H1 F1 _ sm ok1 ev h2 => ?_)
 cases s with
 | d x =>
  refine cg G σ H1 F1 z1 v x D.nx hK ok1 (by rw [← hK]; exact ev) ?_
  cases e : k x z1 with
  | none => simp only [e] at h2; exact h2
  | some z2 =>
   simp only [e] at h2
   exact fun σ' _ ok' => h2 σ' H1 F1 (Same.refl _) ok'
 | _ => exact h2.elim
noncomputable def sRet (f : Sm M S) (z : Z M.T) : Rs Out (Z M.T) := (f z).bind fun s z1 => match s with
 | .v i => (match z1.rho[i]? with
  | some (some (.l xs)) => .ok (.rt (.l xs)) z1
  | some (some (.d x)) => .ok (.rt (.d x)) z1
  | _ => .bad)
 | s => .ok (.rt s) z1
theorem Ok.ret {G : Gx} {σ : St} {H F : Hp} {z : Z M.T} (ok : Ok M G σ H F z) {v : V} {s : S} (h : SV G F H v s) : RetOk M G F H z.m v s := ⟨ok.sub, ok.mach, ok.msF, ok.msH, ok.fr, ok.tg, h⟩
theorem ds_ret {e : Expr} {f : Sm M S} {pos : Pos} (h : DE M xr K X W e f) : DS M xr K X W (.Return (some e) pos) (sRet f) := by
 obtain ⟨t, p, c⟩ := h
 refine ⟨_, fun j => ps_ret (p j), fun G σ H F z D hK hx ok hh => ?_⟩
 refine c G σ H F z _ hK hx ok (hits_bind hh fun s z1 v H1 F1 _ sm ok1 ev h2 => ?_)
 cases s with
 | d x => exact h2 v H1 F1 (Same.refl _) (ok1.ret (s := .d x) ev)
 | l xs =>
  obtain ⟨a, vs, rfl, q1, q2, q3, q4, q5, q6⟩ := ev
  exact h2 _ H1 F1 (Same.refl _) (ok1.ret (s := .l xs) ⟨a, vs, rfl, q1, q2, q3, q4, q5⟩)
 | m j => exact h2 v H1 F1 (Same.refl _) (ok1.ret (s := .m j) ev)
 | v i =>
  have ev' : σ[i]? = some (some v) := ev
  simp only at h2
  split at h2
  ·rename_i xs hs
   obtain ⟨w, e, q⟩ := ok1.slot i _ hs
   rw [ev'] at e
   cases e
   exact h2 v H1 F1 (Same.refl _) (ok1.ret q)
  ·rename_i x hs
   obtain ⟨w, e, q⟩ := ok1.slot i _ hs
   rw [ev'] at e
   cases e
   exact h2 v H1 F1 (Same.refl _) (ok1.ret q)
  ·exact h2.elim
theorem ds_retN {pos : Pos} : DS M xr K X W (.Return none pos) (fun z => .ok (.rt (.d .non)) z) := ⟨_, fun _ => ps_retN, fun G σ H F z D _ _ ok h => h .non H F (Same.refl _) (ok.ret (s := .d .non) Da.non)⟩
noncomputable def sExpr (f : Sm M S) (z : Z M.T) : Rs Out (Z M.T) := (f z).bind fun _ z1 => .ok .nx z1
theorem ds_expr {e : Expr} {f : Sm M S} {pos : Pos} (h : DE M xr K X W e f) (hs : ∀ j, swapsWith e none pos.line (X j).env = pure false := by intro _; rfl) : DS M xr K X W (.Expr e pos) (sExpr f) := by
 obtain ⟨t, p, c⟩ := h
 refine ⟨_, fun j => ps_expr (p j) (hs j), fun G σ H F z D hK hx ok hh => ?_⟩
 exact c G σ H F z _ hK hx ok (hits_bind hh fun s z1 v H1 F1 _ sm ok1 ev h2 => h2 σ H1 F1 (Same.refl _) ok1)
noncomputable def kIf (f g : Sm M Out) (b : Bool) (z1 : Z M.T) : Rs Out (Z M.T) := if b = true then f z1 else g z1
noncomputable def sIf (c : Sm M Bool) (f g : Sm M Out) (z : Z M.T) : Rs Out (Z M.T) := (c z).bind (kIf f g)
theorem ds_if {e : Expr} {a b : List Stmt} {c : Sm M Bool} {f g : Sm M Out} {pos : Pos} (hc : DT M xr K X W e c) (h : DSs M xr K X W a f) (h' : DSs M xr K X W b g) : DS M xr K X W (.If e a b pos) (sIf c f g) := by
 obtain ⟨t, p, c0⟩ := hc
 obtain ⟨t1, p1, c1⟩ := h
 obtain ⟨t2, p2, c2⟩ := h'
 refine ⟨_, fun j => ps_if (p j) (p1 j) (p2 j), fun G σ H F z D hK hx ok hh => ?_⟩
 refine c0 G σ H F z _ hK hx ok (hits_bind hh fun b z1 c H1 F1 _ sm ok1 e1 h1 => ?_)
 cases (show c = b from e1)
 cases b with
 | true => exact c1 G σ H1 F1 z1 D hK hx ok1 h1
 | false => exact c2 G σ H1 F1 z1 D hK hx ok1 h1
noncomputable def sWhile (c : Sm M Bool) (b : Sm M Out) : Nat → Sm M Out
 | 0, _ => .bad
 | n + 1, z => (c z).bind fun t z1 => if t = true then (b z1).bind fun o z2 => (match o with
   | .nx => sWhile c b n z2
   | .ct => sWhile c b n z2
   | .bk => .ok .nx z2
   | .rt s => .ok (.rt s) z2) else .ok .nx z1
theorem ds_while {e : Expr} {body : List Stmt} {c : Sm M Bool} {f : Sm M Out} {pos : Pos} (n : Nat) (hp : ∀ j, PassesOwn (model (X j).prog (X j).w) (X j).A (X j).env (X j).xe) (hc : DT M xr K X W e c) (h : DSs M xr K X W body f) : DS M xr K X W (.While e body [] pos) (sWhile c f n) := by
 obtain ⟨t, p, c0⟩ := hc
 obtain ⟨t1, p1, c1⟩ := h
 refine ⟨_, fun j => ps_while (hp j) (p j) (p1 j), fun G σ H F z D hK hx ok hh => ?_⟩
 refine ⟨fun m σ H => ∃ F' z', Same F F' ∧ Ok M G σ H F' z' ∧ HitS M G W F' (sWhile c f m z') D, ⟨n, F, z, Same.refl _, ok, hh⟩, ?_⟩
 rintro m σ1 H1 ⟨F1, z1, s1, ok1, h1⟩
 cases m with
 | zero => exact h1.elim
 | succ m =>
  refine c0 G σ1 H1 F1 z1 _ hK hx ok1 (hits_bind h1 fun b z2 d H2 F2 _ sm ok2 e2 h2 => ?_)
  cases (show d = b from e2)
  cases b with
  | false => exact h2 σ1 H2 F2 (Same.refl _) ok2
  | true =>
   refine ⟨fun σ' H' => ∃ F' z', Same F F' ∧ Ok M G σ' H' F' z' ∧ HitS M G W F' (sWhile c f m z') D, fun σ' H' q => ⟨m, Nat.lt_succ_self m, q⟩, ?_⟩
   refine c1 G σ1 H2 F2 z2 _ hK hx ok2 ?_
   rw [if_pos rfl] at h2
   cases e : f z2 with
   | bad => rw [e] at h2; exact h2
   | ex x z3 => rw [e] at h2; exact h2
   | ok o z3 =>
    rw [e] at h2
    cases o with
    | nx => exact fun σ3 H3 F3 s3 ok3 => ⟨F3, z3, (s1.trans sm).trans s3, ok3, HitS.mono h2 s3⟩
    | ct => exact fun σ3 H3 F3 s3 ok3 => ⟨F3, z3, (s1.trans sm).trans s3, ok3, HitS.mono h2 s3⟩
    | bk => exact h2
    | rt q => exact h2
noncomputable def YD (K : PySem.W.Frag) (F : Hp) (ds : List D) : Nat → Hp → V → Hp → Prop := fun i H v H' => ∃ d, ds[i]? = some d ∧ ∀ F1, Same F F1 → SameX F1 H → (∀ a ps, F1 a = some (.tbl ps) → H a ≠ none) → ∃ F2, Same F1 F2 ∧ SameX F2 H' ∧ (∀ b o, H b = some o → H' b = some o ∧ F2 b = F1 b) ∧ (∀ a ps, F2 a = some (.tbl ps) → F1 a = some (.tbl ps)) ∧ Da K F2 v d
noncomputable def Wk (K : PySem.W.Frag) (F : Hp) (J : It) (ds : List D) : Prop := Walk J ds.length (fun H => SameX F H) (YD K F ds)
noncomputable def RelW {M : MI} (G : Gx) (_ : St) : List D → It → Hp → Hp → Z M.T → Prop := fun ds J F _ _ => Wk G.K F J ds
noncomputable def DI {ι : Type} (M : MI) (xr : Str → Option Value) (K : PySem.W.Frag) (X : ι → Cx) (W : WX) (tg iter : Expr) (f : Sm M (List D)) : Prop := ∃ wi, (∀ j, PI (X j) tg iter wi) ∧ Cmp M K xr W wi RelW f
noncomputable def forL (k : D → Z M.T → Option (Z M.T)) (b : Sm M Out) : List D → Sm M Out
 | [], z => .ok .nx z
 | d :: r, z => match k d z with
  | none => .bad
  | some z1 => (b z1).bind fun o z2 => match o with
   | .nx => forL k b r z2
   | .ct => forL k b r z2
   | .bk => .ok .nx z2
   | .rt s => .ok (.rt s) z2
noncomputable def sFor (its : Sm M (List D)) (k : D → Z M.T → Option (Z M.T)) (b : Sm M Out) (z : Z M.T) : Rs Out (Z M.T) := (its z).bind fun ds z1 => forL k b ds z1
theorem Ok.yd {G : Gx} {σ : St} {H H' F1 F2 : Hp} {z : Z M.T} (ok : Ok M G σ H F1 z) (s1 : Same F1 F2) (s2 : SameX F2 H') (k : ∀ b o, H b = some o → H' b = some o ∧ F2 b = F1 b) (kt : ∀ a ps, F2 a = some (.tbl ps) → F1 a = some (.tbl ps)) : Ok M G σ H' F2 z :=
 ok.step s1 (fun a ps e => ⟨kt a ps e, by
  cases q : H a with
  | none => exact ((ok.tg a ps (kt a ps e)).1 q).elim
  | some o => rw [(k a o q).1]⟩) s2 (fun a q => by
  obtain ⟨vs, e, e2, _⟩ := ok.ownH q
  obtain ⟨h1, h2⟩ := k a _ e
  exact ⟨by rw [h1, e], by rw [h2]; exact e2⟩) (fun a q => by
  cases e : H a with
  | none => exact (ok.msH a q e).elim
  | some o =>
   obtain ⟨h1, h2⟩ := k a _ e
   exact ⟨h1, by rw [h2]; exact ok.msF a q⟩) (fun b o q => by
  obtain ⟨h1, h2⟩ := ok.fr b o q
  obtain ⟨h3, h4⟩ := k b o h1
  exact ⟨h3, h4.trans h2⟩)
theorem ds_for {ts : List Nat} {tg iter : Expr} {body : List Stmt} {its : Sm M (List D)} {k : D → Z M.T → Option (Z M.T)} {f : Sm M Out} {pos : Pos} (hp : ∀ j, PassesOwn (model (X j).prog (X j).w) (X j).A (X j).env (X j).xe) (hc : ∀ j, (X j).calm = true) (hi : DI M xr K X W tg iter its) (hg : DG M K X ts tg k) (h : DSs M xr K X W body f)
  (hs : ∀ j x, foldedSetIterable iter (X j).env x = pure x := by intro _ _; rfl) : DS M xr K X W (.For tg iter body [] pos) (sFor its k f) := by
 obtain ⟨wi, pi, ci⟩ := hi
 obtain ⟨g, pg, cg⟩ := hg
 obtain ⟨t, p, c⟩ := h
 refine ⟨_, fun j => ps_for (hp j) (hc j) (pi j) (pg j) (p j) (hs j), fun G σ H F z D hK hx ok hh => ?_⟩
 refine ci G σ H F z _ hK hx ok (hits_bind hh fun ds z1 J H1 F1 _ sm ok1 w h1 => ?_)
 refine for_it (w : Wk G.K F1 J ds) (fun i σ' H' => ∃ F' z', Same F1 F' ∧ Ok M G σ' H' F' z' ∧ HitS M G W F' (forL k f (ds.drop i) z') D) ⟨F1, z1, Same.refl _, ok1, h1⟩ (fun i σ' H' _ ⟨F', z', s', ok', _⟩ => thenX s' ok'.sub) ?_ ?_
 ·rintro i x σ2 H2 H3 hi ⟨F2, z2, s2, ok2, h2⟩ ⟨d, hd, q⟩
  obtain ⟨F3, s3, s4, kk, kt, da⟩ := q F2 s2 ok2.sub (fun a ps e => (ok2.tg a ps e).1)
  have ok3 := ok2.yd s3 s4 kk kt
  have ed : ds.drop i = d :: ds.drop (i + 1) := by
   rw [List.drop_eq_getElem_cons hi]
   have := List.getElem?_eq_getElem hi
   rw [hd] at this
   rw [← Option.some.inj this]
  rw [ed] at h2
  refine cg G σ2 H3 F3 z2 x d _ hK ok3 (by rw [← hK]; exact da) ?_
  unfold forL at h2
  cases e : k d z2 with
  | none => simp only [e] at h2; exact h2
  | some z3 =>
   simp only [e] at h2
   intro σ4 _ ok4
   refine c G σ4 H3 F3 z3 _ hK hx ok4 ?_
   cases e : f z3 with
   | bad => rw [e] at h2; exact h2
   | ex x z3 => rw [e] at h2; exact HitS.mono (F := F2) (r := .ex x z3) h2 s3
   | ok o z4 =>
    rw [e] at h2
    cases o with
    | nx => exact fun σ5 H5 F5 s5 ok5 => ⟨F5, z4, (s2.trans s3).trans s5, ok5, HitS.mono h2 (s3.trans s5)⟩
    | ct => exact fun σ5 H5 F5 s5 ok5 => ⟨F5, z4, (s2.trans s3).trans s5, ok5, HitS.mono h2 (s3.trans s5)⟩
    | bk => exact fun σ5 H5 F5 s5 ok5 => h2 σ5 H5 F5 (s3.trans s5) ok5
    | rt q => exact fun v H5 F5 s5 ok5 => h2 v H5 F5 (s3.trans s5) ok5
 ·rintro σ2 H2 ⟨F2, z2, s2, ok2, h2⟩
  rw [List.drop_length] at h2
  exact h2 σ2 H2 F2 (Same.refl _) ok2
end
end G
namespace G
open PySem L2
noncomputable def wipeR (rho : List (Option S)) : List Nat → List (Option S)
 | [] => rho
 | v :: vs => (wipeR rho vs).set v none
noncomputable def restR (rho0 rho : List (Option S)) : List Nat → List (Option S)
 | [] => rho
 | v :: vs => (restR rho0 rho vs).set v (rho0[v]?.getD none)
theorem wipeR_length (rho : List (Option S)) : ∀ vs, (wipeR rho vs).length = rho.length
 | [] => rfl
 | v :: vs => by unfold wipeR; rw [List.length_set, wipeR_length rho vs]
theorem restR_length (rho0 rho : List (Option S)) : ∀ vs, (restR rho0 rho vs).length = rho.length
 | [] => rfl
 | v :: vs => by unfold restR; rw [List.length_set, restR_length rho0 rho vs]
theorem wipeR_out (rho : List (Option S)) : ∀ (vs : List Nat) (n : Nat), n ∉ vs → (wipeR rho vs)[n]? = rho[n]?
 | [], _, _ => rfl
 | v :: vs, n, h => by
  unfold wipeR
  rw [List.getElem?_set_ne (fun e => h (by rw [← e]; exact List.mem_cons_self)), wipeR_out rho vs n (fun q => h (List.mem_cons_of_mem _ q))]
theorem wipeR_in (rho : List (Option S)) : ∀ (vs : List Nat) (n : Nat) (s : S), n ∈ vs → (wipeR rho vs)[n]? ≠ some (some s)
 | [], _, _, h => by cases h
 | v :: vs, n, s, h => by
  unfold wipeR
  by_cases e : n = v
  ·subst e
   by_cases hl : n < (wipeR rho vs).length
   ·rw [List.getElem?_set_self hl]
    intro q
    cases q
   ·rw [List.getElem?_eq_none (by rw [List.length_set]; omega)]
    intro q
    cases q
  ·rw [List.getElem?_set_ne (Ne.symm e)]
   exact wipeR_in rho vs n s ((List.mem_cons.mp h).resolve_left e)
theorem restR_out (rho0 rho : List (Option S)) : ∀ (vs : List Nat) (n : Nat), n ∉ vs → (restR rho0 rho vs)[n]? = rho[n]?
 | [], _, _ => rfl
 | v :: vs, n, h => by
  unfold restR
  rw [List.getElem?_set_ne (fun e => h (by rw [← e]; exact List.mem_cons_self)), restR_out rho0 rho vs n (fun q => h (List.mem_cons_of_mem _ q))]
theorem restR_in (rho0 rho : List (Option S)) : ∀ (vs : List Nat) (n : Nat) (s : S), n ∈ vs → (restR rho0 rho vs)[n]? = some (some s) → rho0[n]? = some (some s)
 | [], _, _, h, _ => by cases h
 | v :: vs, n, s, h, e1 => by
  unfold restR at e1
  by_cases e : n = v
  ·subst e
   by_cases hl : n < (restR rho0 rho vs).length
   ·rw [List.getElem?_set_self hl] at e1
    cases q : rho0[n]? with
    | none => rw [q] at e1; cases e1
    | some o => rw [q] at e1; exact e1
   ·rw [List.getElem?_eq_none (by rw [List.length_set]; omega)] at e1
    cases e1
  ·rw [List.getElem?_set_ne (Ne.symm e)] at e1
   exact restR_in rho0 rho vs n s ((List.mem_cons.mp h).resolve_left e) e1
theorem wipe_out (σ : St) : ∀ (vs : List Nat) (n : Nat), n ∉ vs → (wipe σ vs)[n]? = σ[n]?
 | [], _, _ => rfl
 | v :: vs, n, h => by
  unfold wipe
  rw [List.getElem?_set_ne (fun e => h (by rw [← e]; exact List.mem_cons_self)), wipe_out σ vs n (fun q => h (List.mem_cons_of_mem _ q))]
theorem wipe_in (σ : St) : ∀ (vs : List Nat) (n : Nat), n ∈ vs → n < σ.length → (wipe σ vs)[n]? = some none
 | [], _, h, _ => by cases h
 | v :: vs, n, h, hl => by
  unfold wipe
  by_cases e : n = v
  ·subst e
   exact List.getElem?_set_self (by rw [wipe_length]; exact hl)
  ·rw [List.getElem?_set_ne (Ne.symm e)]
   exact wipe_in σ vs n ((List.mem_cons.mp h).resolve_left e) hl
theorem wipe_but {σ σ' : St} {ts vs : List Nat} (b : But ts (wipe σ vs) σ') (h : ∀ n ∈ ts, n ∈ vs) : wipe σ' vs = wipe σ vs := by
 have hl : σ'.length = σ.length := b.1.trans (wipe_length σ vs)
 refine List.ext_getElem? fun n => ?_
 by_cases hn : n ∈ vs
 ·by_cases q : n < σ.length
  ·rw [wipe_in σ vs n hn q, wipe_in σ' vs n hn (by omega)]
  ·rw [List.getElem?_eq_none (by rw [wipe_length]; omega), List.getElem?_eq_none (by rw [wipe_length]; omega)]
 ·rw [wipe_out σ' vs n hn, b.2 n (fun q => hn (h n q)), wipe_out σ vs n hn]
section
variable {M : MI} {G : Gx} {W : WX} {σ : St} {H H' F F' : Hp} {z : Z M.T}
noncomputable def wipeZ (z : Z M.T) (vs : List Nat) : Z M.T := { z with rho := wipeR z.rho vs }
theorem Ok.wipe (ok : Ok M G σ H F z) (vs : List Nat) : Ok M G (L2.wipe σ vs) H F (wipeZ z vs) where
 sub := ok.sub
 len := by
  show (wipeR z.rho vs).length = _
  rw [wipeR_length, wipe_length]
  exact ok.len
 slot := fun i s e => by
  have e' : (wipeR z.rho vs)[i]? = some (some s) := e
  by_cases h : i ∈ vs
  ·exact (wipeR_in z.rho vs i s h e').elim
  ·rw [wipeR_out _ _ _ h] at e'
   obtain ⟨v, h1, h2⟩ := ok.slot i s e'
   exact ⟨v, by rw [wipe_out _ _ _ h]; exact h1, h2⟩
 dist := fun i j xs ys v e1 e2 e3 e4 => by
  have e1' : (wipeR z.rho vs)[i]? = some (some (.l xs)) := e1
  have e2' : (wipeR z.rho vs)[j]? = some (some (.l ys)) := e2
  by_cases h : i ∈ vs
  ·exact (wipeR_in z.rho vs i _ h e1').elim
  ·by_cases h' : j ∈ vs
   ·exact (wipeR_in z.rho vs j _ h' e2').elim
   ·rw [wipeR_out _ _ _ h] at e1'
    rw [wipeR_out _ _ _ h'] at e2'
    rw [wipe_out _ _ _ h] at e3
    rw [wipe_out _ _ _ h'] at e4
    exact ok.dist i j xs ys v e1' e2' e3 e4
 mach := ok.mach
 msF := ok.msF
 msP := ok.msP
 msH := ok.msH
 fr := ok.fr
 tg := ok.tg
noncomputable def noOwn (rho : List (Option S)) (vs : List Nat) : Bool := vs.all fun i => match rho[i]? with
 | some (some (.l _)) => false
 | _ => true
theorem Ok.rest {z1 : Z M.T} {H1 F1 : Hp} (ok : Ok M G σ H F z) {vs : List Nat} (hn : noOwn z.rho vs = true) (sm : Same F F1) (ok1 : Ok M G (L2.wipe σ vs) H1 F1 z1) : Ok M G σ H1 F1 { z1 with rho := restR z.rho z1.rho vs } := by
 have no : ∀ n ∈ vs, ∀ xs, z.rho[n]? ≠ some (some (.l xs)) := fun n hm xs e => by
  have q := List.all_eq_true.mp hn n hm
  rw [e] at q
  cases q
 refine ⟨ok1.sub, ?_, fun i s e => ?_, fun i j xs ys v e1 e2 e3 e4 => ?_, ok1.mach, ok1.msF, ok1.msP, ok1.msH, ok1.fr, ok1.tg⟩
 ·show (restR z.rho z1.rho vs).length = _
  rw [restR_length, ok1.len, wipe_length]
 ·have e' : (restR z.rho z1.rho vs)[i]? = some (some s) := e
  by_cases h : i ∈ vs
  ·have q := restR_in z.rho z1.rho vs i s h e'
   obtain ⟨v, h1, h2⟩ := ok.slot i s q
   refine ⟨v, h1, ?_⟩
   cases s with
   | d x => exact Da.mono sm h2
   | l xs => exact (no i h xs q).elim
   | v _ => exact h2
   | m j => exact h2
  ·rw [restR_out _ _ _ _ h] at e'
   obtain ⟨v, h1, h2⟩ := ok1.slot i s e'
   rw [wipe_out _ _ _ h] at h1
   exact ⟨v, h1, h2⟩
 ·have e1' : (restR z.rho z1.rho vs)[i]? = some (some (.l xs)) := e1
  have e2' : (restR z.rho z1.rho vs)[j]? = some (some (.l ys)) := e2
  by_cases h : i ∈ vs
  ·exact (no i h xs (restR_in z.rho z1.rho vs i _ h e1')).elim
  ·by_cases h' : j ∈ vs
   ·exact (no j h' ys (restR_in z.rho z1.rho vs j _ h' e2')).elim
   ·rw [restR_out _ _ _ _ h] at e1'
    rw [restR_out _ _ _ _ h'] at e2'
    exact ok1.dist i j xs ys v e1' e2' (by rw [wipe_out _ _ _ h]; exact e3) (by rw [wipe_out _ _ _ h']; exact e4)
noncomputable def Gx.prot (G : Gx) (D : Addr) (vs : List V) : Gx := { G with P := upd G.P D (.lst vs), Fp := fun b => if b = D then none else G.Fp b }
theorem Ok.prot {D : Addr} {vs : List V} (ok : Ok M G σ H F z) (hD : H D = some (.lst vs)) (hF : F D = none) (hm : D ∉ G.ms) (ho : ¬ Owned σ z D) : Ok M (G.prot D vs) σ H F z := by
 refine ⟨ok.sub, ok.len, fun i s e => ?_, ok.dist, ok.mach, ok.msF, fun a ha => ?_, ok.msH, fun b o q => ?_, fun a ps e => ⟨(ok.tg a ps e).1, (upd_ne (ne_of_none e hF)).trans (ok.tg a ps e).2⟩⟩
 ·obtain ⟨v, h1, h2⟩ := ok.slot i s e
  refine ⟨v, h1, ?_⟩
  cases s with
  | d x => exact h2
  | l xs =>
   obtain ⟨a, ws, rfl, q1, q2, q3, q4, q5⟩ := h2
   have n : a ≠ D := fun e2 => ho (e2 ▸ ⟨i, xs, e, h1⟩)
   exact ⟨a, ws, rfl, q1, q2, q3, (upd_ne n).trans q4, q5⟩
  | v _ => exact h2
  | m j => exact h2
 ·have n : a ≠ D := fun e => hm (e ▸ ha)
  exact (upd_ne n).trans (ok.msP a ha)
 ·have q' : upd G.P D (.lst vs) b = some o := q
  show H b = some o ∧ F b = (if b = D then none else G.Fp b)
  by_cases e : b = D
  ·subst e
   rw [upd_same] at q'
   cases q'
   rw [if_pos rfl]
   exact ⟨hD, hF⟩
  ·rw [upd_ne e] at q'
   rw [if_neg e]
   exact ok.fr b o q'
theorem Ok.unprot {D : Addr} {vs : List V} (ok : Ok M (G.prot D vs) σ H F z) (hP : G.P D = none) : Ok M G σ H F z ∧ H D = some (.lst vs) ∧ F D = none ∧ ¬ Owned σ z D := by
 have hd := ok.fr D (.lst vs) upd_same
 have hF : F D = none := hd.2.trans (if_pos rfl)
 have no : ¬ Owned σ z D := fun q => by
  obtain ⟨_, _, _, e, _⟩ := ok.ownH q
  have e' : upd G.P D (.lst vs) D = none := e
  rw [upd_same] at e'
  cases e'
 refine ⟨⟨ok.sub, ok.len, fun i s e => ?_, ok.dist, ok.mach, ok.msF, fun a ha => ?_, ok.msH, fun b o q => ?_, fun a ps e => ⟨(ok.tg a ps e).1, (upd_ne (ne_of_none e hF)).symm.trans (ok.tg a ps e).2⟩⟩, hd.1, hF, no⟩
 ·obtain ⟨v, h1, h2⟩ := ok.slot i s e
  refine ⟨v, h1, ?_⟩
  cases s with
  | d x => exact h2
  | l xs =>
   obtain ⟨a, ws, rfl, q1, q2, q3, q4, q5⟩ := h2
   have n : a ≠ D := fun e2 => no (e2 ▸ ⟨i, xs, e, h1⟩)
   have q4' : upd G.P D (.lst vs) a = none := q4
   rw [upd_ne n] at q4'
   exact ⟨a, ws, rfl, q1, q2, q3, q4', q5⟩
  | v _ => exact h2
  | m j => exact h2
 ·have q : upd G.P D (.lst vs) a = none := ok.msP a ha
  by_cases e : a = D
  ·rw [e]; exact hP
  ·rw [upd_ne e] at q
   exact q
 ·have n : b ≠ D := fun e => by rw [e, hP] at q; cases q
  have q' : (G.prot D vs).P b = some o := (upd_ne n).trans q
  obtain ⟨h1, h2⟩ := ok.fr b o q'
  have h2' : F b = (if b = D then none else G.Fp b) := h2
  rw [if_neg n] at h2'
  exact ⟨h1, h2'⟩
theorem Ok.updD {D : Addr} {o o' : HO} (ok : Ok M G σ H F z) (hD : H D = some o) (hF : F D = none) (hm : D ∉ G.ms) (hP : G.P D = none) (ho : ¬ Owned σ z D) : Ok M G σ (upd H D o') F z :=
 ok.step (Same.refl F) (tgk_new hF) (same_updR ok.sub hF) (fun a q => by
  have n : a ≠ D := fun e => ho (e ▸ q)
  exact ⟨upd_ne n, (ok.ownH q).choose_spec.2.1⟩) (fun a q => by
  have n : a ≠ D := fun e => hm (e ▸ q)
  exact ⟨upd_ne n, ok.msF a q⟩) (fun b u q => by
  have n : b ≠ D := fun e => by rw [e, hP] at q; cases q
  obtain ⟨h1, h2⟩ := ok.fr b u q
  exact ⟨(upd_ne n).trans h1, h2⟩)
noncomputable def nox {α ζ : Type} (r : Rs α ζ) : Rs α ζ := match r with
 | .ex _ _ => .bad
 | r => r
noncomputable def lcL (k : D → Z M.T → Option (Z M.T)) (t : Sm M Bool) (e : Sm M S) (vs : List Nat) : List D → List D → Z M.T → Rs (List D) (Z M.T)
 | [], acc, z => .ok acc z
 | d :: r, acc, z => match k d z with
  | none => .bad
  | some z1 => (nox (t z1)).bind fun b z2 => if b = true then (nox (escf e z2)).bind fun s z3 => (match s with
    | .d y => if acc.length < lim then lcL k t e vs r (acc ++ [y]) (wipeZ z3 vs) else .bad
    | _ => .bad) else lcL k t e vs r acc (wipeZ z2 vs)
noncomputable def eLc (its : Sm M (List D)) (k : D → Z M.T → Option (Z M.T)) (t : Sm M Bool) (e : Sm M S) (vs : List Nat) (z : Z M.T) : Rs S (Z M.T) := (its z).bind fun ds z1 => if noOwn z1.rho vs = true then
  (lcL k t e vs ds [] (wipeZ z1 vs)).bind fun acc z2 => .ok (.l acc) { z2 with rho := restR z1.rho z2.rho vs }
 else .bad
noncomputable abbrev W0 : WX := fun _ _ _ _ => False
theorem cmp_lc {K : PySem.W.Frag} {xr : Str → Option Value} {wi : TI} {g : TG} {tt : TT} {te : TE} {vs ts : List Nat} {its : Sm M (List D)} {k : D → Z M.T → Option (Z M.T)} {t : Sm M Bool} {e : Sm M S} (hv : ∀ n ∈ ts, n ∈ vs) (ci : Cmp M K xr W wi RelW its) (cg : GR M K ts g k)
  (ct : Cmp M K xr W0 tt RelB t) (ce : Cmp M K xr W0 te RelE e) : Cmp M K xr W (tLc wi g tt te vs) RelE (eLc its k t e vs) := by
 intro G σ H F z Q hK hx ok hh
 refine ci G σ H F z _ hK hx ok (hit_bind hh fun ds z1 J H1 F1 _ sm ok1 w h1 => ?_)
 intro L hL
 have hn : noOwn z1.rho vs = true := by
  by_cases q : noOwn z1.rho vs = true
  ·exact q
  ·rw [if_neg q] at h1; exact h1.elim
 rw [if_pos hn] at h1
 have okw : Ok M G (L2.wipe σ vs) H1 F1 (wipeZ z1 vs) := ok1.wipe vs
 have hP : G.P L = none := ok1.freshP hL
 have hm : L ∉ G.ms := ok1.freshM hL
 refine lc_it (w : Wk G.K F1 J ds) (fun i H' => ∃ F' z' acc avs, Same F1 F' ∧ Ok M G (L2.wipe σ vs) H' F' z' ∧ H' L = some (.lst avs) ∧ DaAll G.K F' avs acc ∧ F' L = none ∧ ¬ Owned (L2.wipe σ vs) z' L ∧
   HitG M G W σ F' (RelE G σ) ((lcL k t e vs (ds.drop i) acc z').bind fun acc z2 => .ok (.l acc) { z2 with rho := restR z1.rho z2.rho vs }) Q)
  ⟨F1, wipeZ z1 vs, [], [], Same.refl _, okw.new hL _, upd_same, .nil, ok1.freshF hL, okw.freshO hL, h1⟩ (fun i H' _ ⟨F', z', _, _, s', ok', _⟩ => thenX s' ok'.sub) ?_ ?_
 ·rintro i x H2 H3 hi ⟨F2, z2, acc, avs, s2, ok2, hl2, da2, hf2, no2, h2⟩ ⟨d, hd, q⟩
  obtain ⟨F3, s3, s4, kk, kt, da⟩ := q F2 s2 ok2.sub (fun a ps e => (ok2.tg a ps e).1)
  have ok3 := ok2.yd s3 s4 kk kt
  have hl3 : H3 L = some (.lst avs) := (kk L _ hl2).1
  have hf3 : F3 L = none := (kk L _ hl2).2.trans hf2
  have ed : ds.drop i = d :: ds.drop (i + 1) := by
   rw [List.drop_eq_getElem_cons hi]
   have := List.getElem?_eq_getElem hi
   rw [hd] at this
   rw [← Option.some.inj this]
  rw [ed] at h2
  have okp := ok3.prot hl3 hf3 hm no2
  refine cg (G.prot L avs) _ H3 F3 z2 x d _ hK okp (by rw [← hK]; exact da) ?_
  unfold lcL at h2
  cases e1 : k d z2 with
  | none => simp only [e1] at h2; exact h2.elim
  | some z3 =>
   simp only [e1] at h2
   intro σ4 b4 ok4
   have ew : L2.wipe σ4 vs = L2.wipe σ vs := wipe_but b4 hv
   refine ⟨ew, ?_⟩
   refine ct (G.prot L avs) σ4 H3 F3 z3 _ hK hx ok4 ?_
   cases e2 : t z3 with
   | bad => simp only [e2, nox, Rs.bind] at h2; exact h2
   | ex x zz => simp only [e2, nox, Rs.bind] at h2; exact h2.elim
   | ok b z4 =>
    simp only [e2, nox, Rs.bind] at h2
    intro b' H5 F5 s5 ok5 eb
    cases (show b' = b from eb)
    cases b with
    | false =>
     rw [if_neg Bool.false_ne_true] at h2
     rw [if_neg Bool.false_ne_true]
     obtain ⟨q1, q2, q3, q4⟩ := ok5.unprot hP
     have ok6 := q1.wipe vs
     rw [ew] at ok6
     refine ⟨F5, wipeZ z4 vs, acc, avs, (s2.trans s3).trans s5, ok6, q2, da2.mono (s3.trans s5), q3, ?_, HitG.mono h2 (s3.trans s5)⟩
     rintro ⟨j, xs, o1, o2⟩
     have o1' : (wipeR z4.rho vs)[j]? = some (some (.l xs)) := o1
     by_cases qj : j ∈ vs
     ·exact wipeR_in _ _ _ _ qj o1'
     ·rw [wipeR_out _ _ _ qj] at o1'
      rw [← ew, wipe_out _ _ _ qj] at o2
      exact q4 ⟨j, xs, o1', o2⟩
    | true =>
     rw [if_pos rfl] at h2
     rw [if_pos rfl]
     refine cmp_esc ce (G.prot L avs) σ4 H5 F5 z4 _ hK hx ok5 ?_
     cases e3 : escf e z4 with
     | bad => simp only [e3, nox, Rs.bind] at h2; exact h2
     | ex x zz => simp only [e3, nox, Rs.bind] at h2; exact h2.elim
     | ok s z5 =>
      simp only [e3, nox, Rs.bind] at h2
      intro v H6 F6 s6 ok6 ev
      cases s with
      | d y =>
       simp only at h2
       have hlim : acc.length < lim := by
        by_cases q : acc.length < lim
        ·exact q
        ·rw [if_neg q] at h2; exact h2.elim
       rw [if_pos hlim] at h2
       obtain ⟨q1, q2, q3, q4⟩ := ok6.unprot hP
       have s26 := (s3.trans s5).trans s6
       refine ⟨avs, q2, by rw [da2.length]; exact Nat.lt_trans hlim lim_line, F6, wipeZ z5 vs, acc ++ [y], avs ++ [v], s2.trans s26, ?_, upd_same, (da2.mono s26).append (.cons ev .nil), q3, ?_, HitG.mono h2 s26⟩
       ·have ok7 := (q1.updD (o' := .lst (avs ++ [v])) q2 q3 hm hP q4).wipe vs
        rw [ew] at ok7
        exact ok7
       ·rintro ⟨j, xs, o1, o2⟩
        have o1' : (wipeR z5.rho vs)[j]? = some (some (.l xs)) := o1
        by_cases qj : j ∈ vs
        ·exact wipeR_in _ _ _ _ qj o1'
        ·rw [wipeR_out _ _ _ qj] at o1'
         rw [← ew, wipe_out _ _ _ qj] at o2
         exact q4 ⟨j, xs, o1', o2⟩
      | _ => exact h2.elim
 ·rintro H2 ⟨F2, z2, acc, avs, s2, ok2, hl2, da2, hf2, no2, h2⟩
  rw [List.drop_length] at h2
  refine h2 (.ref L) H2 F2 (Same.refl _) (ok1.rest hn s2 ok2) ⟨L, avs, rfl, hl2, da2, hf2, hP, hm, ?_⟩
  rintro ⟨j, xs, o1, o2⟩
  have o1' : (restR z1.rho z2.rho vs)[j]? = some (some (.l xs)) := o1
  by_cases qj : j ∈ vs
  ·have q := restR_in _ _ _ _ _ qj o1'
   have q2 := List.all_eq_true.mp hn j qj
   rw [q] at q2
   cases q2
  ·rw [restR_out _ _ _ _ qj] at o1'
   exact no2 ⟨j, xs, o1', by rw [wipe_out _ _ _ qj]; exact o2⟩
end
section
variable {ι : Type} {M : MI} {xr : Str → Option Value} {K : PySem.W.Frag} {X : ι → Cx} {W : WX}
structure BP where
  s : Shared
  H : Hp
  C : Addr
  cl : List (Str × Addr)
  fp : List Addr
noncomputable abbrev Blk {ι : Type} (X : ι → Cx) (scope : Scope) : ι × BP → Cx := fun p => (X p.1).blk p.2.s p.2.H scope (compEnvC scope p.2.cl p.2.C (X p.1).env) p.2.fp
noncomputable def DTs {ι : Type} (M : MI) (xr : Str → Option Value) (K : PySem.W.Frag) (X : ι → Cx) (W : WX) (es : List Expr) (f : Sm M Bool) : Prop := ∃ t, (∀ j, PTs (X j) es t) ∧ Cmp M K xr W t RelB f
theorem dts_nil : DTs M xr K X W [] (fun z => .ok true z) := ⟨_, fun _ => pts_nil, fun G σ H F z Q _ _ ok h => h true H F (Same.refl _) ok rfl⟩
end
end G
namespace G
open PySem L2 PySem.Spec PyProof.Rows
structure RmG (k : Nat) (A : Around) : Prop where
  hd : A.handled = none
  dp : A.depth + k + 40 < recursionLimit
  un : A.units + 13 * k + 500 < cLine
theorem RmG.mono {j k : Nat} {A : Around} (r : RmG k A) (h : j ≤ k) : RmG j A := ⟨r.hd, by have := r.dp; omega, by have := r.un; omega⟩
theorem RmG.deeper {k : Nat} {A : Around} (r : RmG (k + 1) A) (env : Env) : RmG k (A.deeper env) :=
 ⟨r.hd, by have := r.dp; show A.depth + 1 + k + 40 < _; omega, by have := r.un; show A.units + 3 + 13 * k + 500 < _; omega⟩
theorem RmG.make {k : Nat} {A : Around} (r : RmG (k + 1) A) (C : Addr) (us : List Value) (kw : List (Str × Value)) : RmG k (A.under (.builtin "type.__call__" ⟨.ref C :: us, kw⟩)) :=
 ⟨r.hd, by have := r.dp; rw [make_depth]; omega, by have := r.un; rw [make_units]; omega⟩
theorem RmG.depth {k : Nat} {A : Around} (r : RmG k A) : A.depth < recursionLimit := by have := r.dp; omega
theorem RmG.units {k : Nat} {A : Around} (r : RmG k A) : A.units + 64 < cLine := by have := r.un; omega
structure FnG (P : Program) (w : World) (K : PySem.W.Frag) (mg : Str → Option Value) (base : Heap) (CX : CXT) (n : Nat) (f : Addr) (fd : FuncData) (ps : List Str) (sp : Sp) : Prop where
  len : ∀ ws H Q E, sp ws H Q E → ws.length = ps.length
  run : ∀ (B : Around) (out : List Env) (s : Shared) (H : Hp) (args : Args) (us : List Value) (ws : List V) (Q : VK) (E : XK), RmG n B → B.guards = some [] → Env0 P w K mg base B out s H → BindsTo s fd args (ps.zip us) → Vals ws us → sp ws H Q E → codeAny (model P w) B (.call (.ref f) args) (CR CX out P w H s Q E) s
theorem fnG {CX : CXT} {P : Program} {w : World} {K : PySem.W.Frag} {mg : Str → Option Value} {base : Heap} {n : Nat} {f : Addr} {nm qual : Str} {pa : Arguments} {bd : List Stmt} {sc : Scope} {dV kV doc pm cdv ct oc : Value} {an od : Option Addr}
  {osl : Array (Option Value)} {N ps : List Str} {sp : Sp} (lk : K.lookup f = some ⟨oc, od, .func (PySem.W.fnOf nm qual pa bd sc dV kV doc pm an cdv ct), osl⟩) (hc : PySem.W.codeIn K cdv qual = true) (Sc : FnScope N ps sc) (len : ∀ ws H Q E, sp ws H Q E → ws.length = ps.length)
  (body : ∀ (B : Around) (out : List Env) (s : Shared) (H : Hp) (ws : List V) (Q : VK) (E : XK), RmG n (B.deeper (envOfC qual sc s.heap.objs.size f cdv)) → B.guards = some [] → sp ws H Q E → ∃ t, PSs (cxOf CX P w K mg base N qual sc f cdv B out s H E) bd t ∧ t { nx := fun _ H' => Q .non H', rt := Q } (start N ws) H) :
  FnG P w K mg base CX (n + 1) f (PySem.W.fnOf nm qual pa bd sc dV kV doc pm an cdv ct) ps sp := by
 constructor
 ·exact len
 intro B out s H args us ws Q E hr hg e0 hb rv hsp
 have inK : K.In s.heap := e0.mod.kin.keeps fun c o e => (e0.bs c o e).1
 have nl : s.heap.NoLimit := e0.mod.nolimit.keeps fun c o e => (e0.bs c o e).1
 have kinds : ∀ y ∈ ps.zip us, sc.names.lookup y.1 = some .local ∨ (sc.names.lookup y.1 = some .cell ∧ ((cellsFrom (s.heap.objs.size + 1) sc.names []).lookup y.1).isSome = true) := by
  rintro ⟨m, u⟩ hy
  rcases Sc.par m (List.of_mem_zip hy).1 with q | q
  ·exact Or.inl q
  ·exact Or.inr ⟨q, PySem.W.cellsFrom_some _ _ _ (.inl q)⟩
 apply codeAny_call_function hr.depth (inK _ _ lk) rfl Sc.co Sc.gen rfl (PySem.W.codeRec_of inK hc)
 apply hb
 apply wpAny_newFunctionEnv_cells Sc.kind kinds
 intro env he s1 x
 subst he
 refine And.intro (nl.keeps x.toInCall.keep) (codeAny_func ?_)
 obtain ⟨t, pt, ht⟩ := body B out s H ws Q E (hr.deeper _) hg hsp
 have I0 : Inv (cxOf CX P w K mg base N qual sc f cdv B out s H E) [] (start N ws) H s1 := inv_start Sc hr.hd e0 (len _ _ _ _ hsp) rv x
 refine wpAny_mono (pt.run [] s1 (start N ws) H _ I0 ht) ?_ (fun e s' hs => hs)
 intro fl s' hs
 have done : ∀ {σ1 : L2.St} {H1 : Hp} {v : V} {u : Value}, Inv (cxOf CX P w K mg base N qual sc f cdv B out s H E) [] σ1 H1 s' → RelV v u → Q v H1 → CE out P w H s Q u s' := fun {σ1 H1 v u} J r q => ⟨v, H1, J.os, J.bare, J.base, J.hok, r, q⟩
 match fl, hs with
 | .ret u, ⟨v, σ1, H1, J, r, q⟩ => exact done J r q
 | .next, ⟨σ1, H1, J, q⟩ => exact done (v := V.non) (u := Value.none) J rfl q
 | .brk, ⟨_, _, _, q⟩ => exact q.elim
 | .cont, ⟨_, _, _, q⟩ => exact q.elim
section
variable {X : Cx} {CX : CXT} {n : Nat} {f : Addr} {fd : FuncData} {ps : List Str} {sp : Sp} {dvs : List V} {ds : List Value} {E : L2.St → XK} {x : Str} {p pos : Pos} {e : Expr} {es : List Expr} {t : TA}
theorem run_fnG {pins : List (Addr × Obj)} {σ : L2.St} {H : Hp} {s : Shared} {Q : VK} {us : List Value} {ws : List V} (F : FnG X.prog X.w X.K X.mg X.base CX n f fd ps sp) (hr : RmG n X.A) (hg : X.A.guards = some []) (hb : Binds X.K fd ps ds) (hd : Vals dvs ds) (hx : PassesAt CX X σ (E σ)) (I : Inv X pins σ H s) (r : Vals ws us) (h : sp (ws ++ dvs) H Q (E σ)) :
  wpAny (model X.prog X.w) X.A (call (.ref f) us) (EP X pins σ Q) X.xe s := by
 have rr : Vals (ws ++ dvs) (us ++ ds) := r.append hd
 have ll : (us ++ ds).length = ps.length := rr.length.symm.trans (F.len _ _ _ _ h)
 apply wpAny_call
 apply codeAny_mono (F.run X.A X.stack s H ⟨us, []⟩ (us ++ ds) (ws ++ dvs) Q (E σ) hr hg I.env0 (hb s us I.kIn ll) rr h)
 intro rs s' hq
 match rs, hq with
 | .error e, hq => exact hx pins H s e s' I hq
 | .ok (.ret u), hq => exact I.after hq
 | .ok .next, hq => exact hq.elim
 | .ok .brk, hq => exact hq.elim
 | .ok .cont, hq => exact hq.elim
theorem pe_callG (F : FnG X.prog X.w X.K X.mg X.base CX n f fd ps sp) (hr : RmG n X.A) (hgu : X.A.guards = some []) (hg : Gl X x) (hm : X.mg x = some (.ref f)) (hk : PySem.W.keepIn X.K (.ref f) = true) (hb : Binds X.K fd ps ds) (hd : Vals dvs ds) (hx : ∀ σ, PassesAt CX X σ (E σ)) (ha : PA X (e :: es) t)
  (hdb : (x == ("__debug__" : Str)) = false) (he : starEach (e :: es) X.env = (false, eval e X.env) :: starEach es X.env) (hpl : (backTo pos (starEach es X.env)).any (·.1) = false) : PE X (.Call (.Name x p) (e :: es) [] pos) (fun σ H Q => t σ H fun ws H1 => sp (ws ++ dvs) H1 Q (E σ)) := by
 constructor
 intro pins s σ H Q I h
 apply wpAny_Call_Name_kw
 apply ld_glob I hg hm _ hdb
 apply PySem.W.callWith_K (h₀ := X.base) I.ok.mod.kin hk _ he hpl
 exact thn (ha.run pos pins s σ H _ I h) fun us s1 ⟨ws, H1, I1, r, q⟩ => ⟨I1.kIn, run_fnG F hr hgu hb hd (hx σ) I1 r q⟩
end
end G
namespace G
open PySem L2 PySem.Spec PyProof.Rows
end G
namespace G
open PySem L2
section
variable {ι : Type} {M : MI} {xr : Str → Option Value} {K : PySem.W.Frag} {X : ι → Cx} {W : WX}
theorem de_lc {elt tg iter : Expr} {ifs : List Expr} {scope : Scope} {own : List (Str × Nat)} {pos : Pos} {ts : List Nat} {its : Sm M (List D)} {k : D → Z M.T → Option (Z M.T)} {t : Sm M Bool} {e : Sm M S} (hc : ∀ j, (X j).calm = true) (hN : ∀ j, (X j).N.Nodup) (ok : ∀ j, BlkOk (X j).N (X j).env.scope scope own)
  (hi : DI M xr K X W tg iter its) (hg : DG M K (Blk X scope) ts tg k) (ht : DTs M xr K (Blk X scope) W0 ifs t) (he : DE M xr K (Blk X scope) W0 elt e) (hv : ∀ n ∈ ts, n ∈ own.map (·.2) := by decide) (hs : ∀ j x, foldedSetIterable iter (X j).env x = pure x := by intro _ _; rfl) :
  DE M xr K X W (.ListComp elt [⟨tg, iter, ifs, 0⟩] scope pos) (eLc its k t e (own.map (·.2))) := by
 obtain ⟨wi, pi, ci⟩ := hi
 obtain ⟨g, pg, cg⟩ := hg
 obtain ⟨tt, pt, ct⟩ := ht
 obtain ⟨te, pe, ce⟩ := he
 exact ⟨_, fun j => pe_lc (hc j) (hN j) (pi j) (ok j) (fun s H C cl fp => pg (j, ⟨s, H, C, cl, fp⟩)) (fun s H C cl fp => pt (j, ⟨s, H, C, cl, fp⟩)) (fun s H C cl fp => pe (j, ⟨s, H, C, cl, fp⟩)) (hs j), cmp_lc hv ci cg ct ce⟩
theorem ds_setLc {i : Nat} {y : Str} {py : Pos} {elt tg iter : Expr} {ifs : List Expr} {scope : Scope} {own : List (Str × Nat)} {pos spos : Pos} {ts : List Nat} {its : Sm M (List D)} {k : D → Z M.T → Option (Z M.T)} {t : Sm M Bool} {e : Sm M S} (hc : ∀ j, (X j).calm = true) (hN : ∀ j, (X j).N.Nodup) (hy : ∀ j, (X j).N[i]? = some y) (hyl : ∀ j, (X j).env.scope.names.lookup y = some .local)
  (hsw : ∀ j, swapsWith (.ListComp elt [⟨tg, iter, ifs, 0⟩] scope pos) (some (.Name y py)) spos.line (X j).env = pure true) (ok : ∀ j, BlkOk (X j).N (X j).env.scope scope own)
  (hi : DI M xr K X W tg iter its) (hg : DG M K (Blk X scope) ts tg k) (ht : DTs M xr K (Blk X scope) W0 ifs t) (he : DE M xr K (Blk X scope) W0 elt e) (hv : ∀ n ∈ ts, n ∈ own.map (·.2) := by decide) (hs : ∀ j x, foldedSetIterable iter (X j).env x = pure x := by intro _ _; rfl) :
  DS M xr K X W (.Assign [.Name y py] (.ListComp elt [⟨tg, iter, ifs, 0⟩] scope pos) spos) (sSet i (eLc its k t e (own.map (·.2)))) := by
 obtain ⟨wi, pi, ci⟩ := hi
 obtain ⟨g, pg, cg⟩ := hg
 obtain ⟨tt, pt, ct⟩ := ht
 obtain ⟨te, pe, ce⟩ := he
 exact ⟨_, fun j => ps_setLc (hc j) (hN j) (hy j) (hyl j) (hsw j) (pi j) (ok j) (fun s H C cl fp => pg (j, ⟨s, H, C, cl, fp⟩)) (fun s H C cl fp => pt (j, ⟨s, H, C, cl, fp⟩)) (fun s H C cl fp => pe (j, ⟨s, H, C, cl, fp⟩)) (hs j), sr_set (cmp_lc hv ci cg ct ce)⟩
theorem Ok.setL {G : Gx} {σ : St} {H F : Hp} {z : Z M.T} (ok : Ok M G σ H F z) {i : Nat} {xs ys : List D} {a : Addr} {ws : List V} (h : z.rho[i]? = some (some (.l xs))) (ha : σ[i]? = some (some (.ref a))) (hd : DaAll G.K F ws ys) : Ok M G σ (upd H a (.lst ws)) F { z with rho := z.rho.set i (some (.l ys)) } := by
 obtain ⟨v, e, b, vs, rfl, h1, h2, h3, h4, h5⟩ := ok.slot i _ h
 rw [ha] at e
 cases e
 have hl : i < z.rho.length := (List.getElem?_eq_some_iff.mp h).1
 have old : ∀ j s, (z.rho.set i (some (S.l ys)))[j]? = some (some s) → (j = i ∧ s = .l ys) ∨ (j ≠ i ∧ z.rho[j]? = some (some s)) := fun j s q => by
  by_cases hj : j = i
  ·subst hj
   rw [List.getElem?_set_self hl] at q
   cases q
   exact .inl ⟨rfl, rfl⟩
  ·rw [List.getElem?_set_ne (Ne.symm hj)] at q
   exact .inr ⟨hj, q⟩
 refine ⟨same_updR ok.sub h3, by simp [ok.len], fun j s q => ?_, fun j k as bs v e1 e2 e3 e4 => ?_, M.mono (Same.refl F) (tgk_new h3) (fun c hc => upd_ne (fun e => h5 (e ▸ hc))) ok.mach, ok.msF, ok.msP, fun c hc => ?_, fun c o q => ?_, fun c ps e => ⟨by rw [upd_ne (ne_of_none e h3)]; exact (ok.tg c ps e).1, (ok.tg c ps e).2⟩⟩
 ·rcases old j s q with ⟨rfl, rfl⟩ | ⟨hj, q⟩
  ·exact ⟨.ref a, ha, a, ws, rfl, upd_same, hd, h3, h4, h5⟩
  ·obtain ⟨v, e1, e2⟩ := ok.slot j s q
   refine ⟨v, e1, ?_⟩
   cases s with
   | d x => exact e2
   | l as =>
    obtain ⟨c, vs', rfl, q1, q2, q3, q4, q5⟩ := e2
    have n : c ≠ a := fun e => hj (ok.dist j i as xs _ q h e1 (by rw [e]; exact ha))
    exact ⟨c, vs', rfl, (upd_ne n).trans q1, q2, q3, q4, q5⟩
   | v _ => exact e2
   | m j => exact e2
 ·have r : ∀ n cs, (z.rho.set i (some (S.l ys)))[n]? = some (some (S.l cs)) → ∃ ds, z.rho[n]? = some (some (S.l ds)) := fun n cs q => by
   rcases old n _ q with ⟨rfl, _⟩ | ⟨_, q⟩
   ·exact ⟨xs, h⟩
   ·exact ⟨_, q⟩
  obtain ⟨as', e1'⟩ := r j as e1
  obtain ⟨bs', e2'⟩ := r k bs e2
  exact ok.dist j k as' bs' v e1' e2' e3 e4
 ·show upd H a (.lst ws) c ≠ none
  have n : c ≠ a := fun e => h5 (e ▸ hc)
  rw [upd_ne n]
  exact ok.msH c hc
 ·have n : c ≠ a := fun e => by rw [e, h4] at q; cases q
  obtain ⟨q1, q2⟩ := ok.fr c o q
  exact ⟨(upd_ne n).trans q1, q2⟩
noncomputable def ownAt {T : Type} (z : Z T) (i : Nat) : Option (List D) := match z.rho[i]? with
 | some (some (.l xs)) => some xs
 | _ => none
theorem ownAt_some {T : Type} {z : Z T} {i : Nat} {xs : List D} (h : ownAt z i = some xs) : z.rho[i]? = some (some (.l xs)) := by
 unfold ownAt at h
 split at h
 ·rename_i ys e
  cases h
  exact e
 ·cases h
noncomputable def eApp (i : Nat) (g : Sm M S) (z : Z M.T) : Rs S (Z M.T) := match ownAt z i with
 | none => .bad
 | some _ => (escf g z).bind fun s z1 => match ownAt z1 i, s with
  | some xs, .d y => if xs.length < lim then .ok (.d .non) { z1 with rho := z1.rho.set i (some (.l (xs ++ [y]))) } else .bad
  | _, _ => .bad
noncomputable def eExt (i : Nat) (g : Sm M S) (z : Z M.T) : Rs S (Z M.T) := match ownAt z i with
 | none => .bad
 | some _ => (opd g z).bind fun s z1 => match ownAt z1 i, rd z1 s with
  | some xs, some (.lst ys) => if xs.length + ys.length ≤ lim then .ok (.d .non) { z1 with rho := z1.rho.set i (some (.l (xs ++ ys))) } else .bad
  | _, _ => .bad
noncomputable def ePop (i : Nat) (z : Z M.T) : Rs S (Z M.T) := match ownAt z i with
 | none => .bad
 | some xs => match xs[xs.length - 1]? with
  | some y => .ok (.d y) { z with rho := z.rho.set i (some (.l xs.dropLast)) }
  | none => .bad
theorem tyV_own {K : PySem.W.Frag} {H : Hp} {a : Addr} {xs : List V} (h : H a = some (.lst xs)) : tyV K "list" (.ref a) H := .inl ⟨rfl, _, SqL.of h⟩
theorem Ok.at {G : Gx} {σ : St} {H F : Hp} {z : Z M.T} (ok : Ok M G σ H F z) {i : Nat} {xs : List D} (h : ownAt z i = some xs) : ∃ a vs, σ[i]? = some (some (.ref a)) ∧ H a = some (.lst vs) ∧ DaAll G.K F vs xs := by
 obtain ⟨v, e, a, vs, rfl, h1, h2, _⟩ := ok.slot i _ (ownAt_some h)
 exact ⟨a, vs, e, h1, h2⟩
theorem de_append {i : Nat} {x : Str} {pn apos cpos : Pos} {e : Expr} {g : Sm M S} (hK : ∀ j, (X j).K = K) (hN : ∀ j, (X j).N[i]? = some x) (hv : ∀ j, Vis (X j).env.scope x) (hd : (x == ("__debug__" : Str)) = false) (hcd : (x == ("__classdict__" : Str)) = false) (h : DE M xr K X W e g)
  (hbase : ∀ j, attributeBase (.Name x pn) "append" (X j).env (eval (.Name x pn) (X j).env) = eval (.Name x pn) (X j).env := by intro _; rfl)
  (hfew : ∀ j, ((backTo cpos (starEach [e] (X j).env)).all (fun x => !x.1) && (backToKw cpos (keywordEach [] (X j).env)).all (fun x => x.1.isSome) && decide (([e] : List Expr).length + ([] : List Keyword).length + (if ([] : List Keyword).isEmpty then 0 else 1) < 30)) = true := by intro _; rfl)
  (hline : (apos.endLine == cpos.line) = true := by rfl) (hs : ∀ j, starEach [e] (X j).env = (false, eval e (X j).env) :: starEach [] (X j).env := by intro _; rfl) (hplain : ∀ j, (backTo cpos (starEach [] (X j).env)).any (·.1) = false := by intro _; rfl) :
  DE M xr K X W (.Call (.Attribute (.Name x pn) "append" apos) [e] [] cpos) (eApp i g) := by
 obtain ⟨t, p, c⟩ := h
 refine ⟨tBM K "list" rAppend (tVar i) (tCons t tNil), fun j => ?_, fun G σ H F z Q hGK hx ok hh => ?_⟩
 ·rw [← hK j]
  exact pe_bm PySem.F.plainAttrs_list PySem.F.slot_list_append PySem.F.type_list_append mt_append (pe_var (hN j) (hv j) hd hcd) (pa_cons (p j) pa_nil (hs j)) (hbase j) (hfew j) hline (hs j) (hplain j)
 ·unfold eApp at hh
  cases e0 : ownAt z i with
  | none => simp only [e0] at hh; exact hh.elim
  | some ys =>
   simp only [e0] at hh
   obtain ⟨a, vs, hσ, ha, _⟩ := ok.at e0
   refine ⟨.ref a, hσ, tyV_own ha, ?_⟩
   refine cmp_esc c G σ H F z _ hGK hx ok (hit_bind hh fun s z1 v H1 F1 _ sm ok1 ev h1 => ?_)
   cases e1 : ownAt z1 i with
   | none => simp only [e1] at h1; exact h1.elim
   | some xs =>
    simp only [e1] at h1
    cases s with
    | d y =>
     simp only at h1
     by_cases hl : xs.length < lim
     ·rw [if_pos hl] at h1
      obtain ⟨b, ws, hσ1, hb, hdw⟩ := ok1.at e1
      rw [hσ] at hσ1
      cases hσ1
      refine ⟨a, ws, v, rfl, rfl, hb, by rw [hdw.length]; exact Nat.lt_trans hl lim_line, ?_⟩
      exact h1 .non _ F1 (Same.refl _) (ok1.setL (ownAt_some e1) hσ (hdw.append (.cons ev .nil))) Da.non
     ·rw [if_neg hl] at h1; exact h1.elim
    | _ => exact h1.elim
theorem Rv.lst {K : PySem.W.Frag} {F H : Hp} (s : SameX F H) {v : V} {xs : List D} (h : Rv K F H v (.lst xs)) : ∃ a vs, v = .ref a ∧ H a = some (.lst vs) ∧ DaAll K F vs xs := by
 rcases h with h | ⟨a, vs, ys, rfl, e, h1, h2⟩
 ·cases h with
  | lst q r => exact ⟨_, _, rfl, s.lst q, r⟩
 ·cases e
  exact ⟨a, vs, rfl, h1, h2⟩
noncomputable def AV (K : PySem.W.Frag) (F : Hp) (ms : List Addr) (v : V) : S → Prop
 | .d x => Da K F v x
 | .m j => ∃ a, ms[j]? = some a ∧ v = .ref a
 | _ => False
structure RetC (M : MI) (K : PySem.W.Frag) (ms : List Addr) (H F H' F' : Hp) (t : M.T) : Prop where
  sub : SameX F' H'
  mach : M.ok K F' H' ms t
  msx : ∀ a ∈ ms, F' a = none ∧ H' a ≠ none
  fr : ∀ b o, H b = some o → b ∉ ms → (∀ ps, F b ≠ some (.tbl ps)) → H' b = some o ∧ F' b = F b
  tg : ∀ a ps, F' a = some (.tbl ps) → H' a ≠ none ∧ (F a = some (.tbl ps) ∨ H a = none)
noncomputable def RetV (K : PySem.W.Frag) (ms : List Addr) (H H' F' : Hp) (v : V) : S → Prop
 | .d x => Da K F' v x
 | .l xs => ∃ a vs, v = .ref a ∧ H' a = some (.lst vs) ∧ DaAll K F' vs xs ∧ F' a = none ∧ H a = none ∧ a ∉ ms
 | .m j => ∃ a, ms[j]? = some a ∧ v = .ref a
 | .v _ => False
noncomputable def spM (M : MI) (K : PySem.W.Frag) (xr : Str → Option Value) (n : Nat) (mir : List S → M.T → Rs S M.T) : Sp := fun vs H Q E => vs.length = n ∧ ∃ (ms : List Addr) (F : Hp) (args : List S) (t : M.T), SameX F H ∧ M.ok K F H ms t ∧ (∀ a ∈ ms, F a = none ∧ H a ≠ none) ∧ (∀ a ps, F a = some (.tbl ps) → H a ≠ none) ∧ Paired (AV K F ms) vs args ∧
 match mir args t with
 | .ok s t' => ∀ v H' F', Same F F' → RetC M K ms H F H' F' t' → RetV K ms H H' F' v s → Q v H'
 | .ex x t' => ∀ cls d H' F', Same F F' → RetC M K ms H F H' F' t' → XOk ⟨K, xr, ms, H, F⟩ F' H' x cls d → E cls d H'
 | .bad => False
noncomputable def okArg : S → Bool
 | .d _ => true
 | .m _ => true
 | _ => false
noncomputable def eCall (c : List S → M.T → Rs S M.T) (g : Sm M (List S)) (z : Z M.T) : Rs S (Z M.T) := (g z).bind fun ss z1 => if ss.all okArg = true then (match c ss z1.m with
 | .ok s t => .ok s { z1 with m := t }
 | .ex x t => .ex x { z1 with m := t }
 | .bad => .bad) else .bad
theorem paired_av {G : Gx} {σ : St} {F : Hp} : ∀ {vs : List V} {ss : List S}, Paired (fun v s => EO G σ F v s) vs ss → ss.all okArg = true → Paired (AV G.K F G.ms) vs ss
 | _, _, .nil, _ => .nil
 | _, s :: ss, .cons a b, h => by
  rw [List.all_cons, Bool.and_eq_true] at h
  refine .cons ?_ (paired_av b h.2)
  cases s with
  | d x => exact a
  | m j => exact a
  | l _ => cases h.1
  | v _ => cases h.1
theorem Ok.call {G : Gx} {σ : St} {H H' F F' : Hp} {z : Z M.T} {t : M.T} (ok : Ok M G σ H F z) (sm : Same F F') (r : RetC M G.K G.ms H F H' F' t) : Ok M G σ H' F' { z with m := t } where
 sub := r.sub
 len := ok.len
 slot := fun i s e => by
  obtain ⟨v, h1, h2⟩ := ok.slot i s e
  refine ⟨v, h1, ?_⟩
  cases s with
  | d x => exact Da.mono sm h2
  | l xs =>
   obtain ⟨a, vs, rfl, h3, h4, h5, h6, h7⟩ := h2
   obtain ⟨q1, q2⟩ := r.fr a _ h3 h7 (fun ps e => by rw [h5] at e; cases e)
   exact ⟨a, vs, rfl, q1, h4.mono sm, q2.trans h5, h6, h7⟩
  | v _ => exact h2
  | m j => exact h2
 dist := ok.dist
 mach := r.mach
 msF := fun a ha => (r.msx a ha).1
 msP := ok.msP
 msH := fun a ha => (r.msx a ha).2
 fr := fun b o q => by
  obtain ⟨h1, h2⟩ := ok.fr b o q
  have n : b ∉ G.ms := fun hb => by rw [ok.msP b hb] at q; cases q
  obtain ⟨h3, h4⟩ := r.fr b o h1 n (fun ps e => by rw [(ok.tg b ps e).2] at q; cases q)
  exact ⟨h3, h4.trans h2⟩
 tg := fun a ps e => by
  obtain ⟨h1, h2⟩ := r.tg a ps e
  refine ⟨h1, ?_⟩
  rcases h2 with h2 | h2
  ·exact (ok.tg a ps h2).2
  ·exact ok.freshP h2
theorem cmp_call {n : Nat} {t : TA} {g : Sm M (List S)} {c : List S → M.T → Rs S M.T} (cg : Cmp M K xr W t RelA g) (hn : ∀ z ss z1, g z = .ok ss z1 → ss.length = n) : Cmp M K xr W (tCallS (spM M K xr n c) (WE W) t) RelE (eCall c g) := by
 intro G σ H F z Q hK hx ok hh
 refine cg G σ H F z _ hK hx ok (hit_bind hh fun ss z1 vs H1 F1 eg sm ok1 ea h1 => ?_)
 by_cases hd : ss.all okArg = true
 ·rw [if_pos hd] at h1
  have hv := paired_av ea hd
  refine ⟨hv.length.trans (hn z ss z1 eg), G.ms, F1, ss, z1.m, ok1.sub, by rw [← hK]; exact ok1.mach, fun a ha => ⟨ok1.msF a ha, ok1.msH a ha⟩, fun a ps e => (ok1.tg a ps e).1, by rw [← hK]; exact hv, ?_⟩
  subst hK hx
  cases e : c ss z1.m with
  | bad => rw [e] at h1; exact h1
  | ex x t' =>
   rw [e] at h1
   exact fun cls d H' F' s' r xo => h1 cls d H' F' s' (ok1.call s' r) xo
  | ok s t' =>
   rw [e] at h1
   intro v H' F' s' r rv
   refine h1 v H' F' s' (ok1.call s' r) ?_
   cases s with
   | d x => exact rv
   | m j => exact rv
   | v _ => exact rv.elim
   | l xs =>
    obtain ⟨a, us, rfl, q1, q2, q3, q4, q5⟩ := rv
    have hP : G.P a = none := ok1.freshP q4
    refine ⟨a, us, rfl, q1, q2, q3, hP, q5, fun ⟨i, ys, o1, o2⟩ => ?_⟩
    exact ok1.freshO q4 ⟨i, ys, o1, o2⟩
 ·rw [if_neg hd] at h1; exact h1.elim
theorem len_nil {z : Z M.T} {ss : List S} {z1 : Z M.T} (h : (aNil : Sm M (List S)) z = .ok ss z1) : ss.length = 0 := by
 cases h
 rfl
theorem len_cons {f : Sm M S} {g : Sm M (List S)} {n : Nat} (hg : ∀ z ss z1, g z = .ok ss z1 → ss.length = n) : ∀ z ss z1, aCons f g z = .ok ss z1 → ss.length = n + 1 := fun z ss z1 h => by
 unfold aCons at h
 cases e : f z with
 | bad => rw [e] at h; cases h
 | ex x zz => rw [e] at h; cases h
 | ok s z2 =>
  rw [e] at h
  simp only [Rs.bind_ok, kA] at h
  cases e2 : g z2 with
  | bad => rw [e2] at h; cases h
  | ex x zz => rw [e2] at h; cases h
  | ok ss' z3 =>
   rw [e2] at h
   cases h
   rw [List.length_cons, hg z2 ss' _ e2]
theorem pe_callF {X : Cx} {CX : CXT} {n : Nat} {f : Addr} {fd : FuncData} {ps : List Str} {sp : Sp} {E : St → XK} {x : Str} {p pos : Pos} {e : Expr} {es : List Expr} {t : TA} (F : FnG X.prog X.w X.K X.mg X.base CX n f fd ps sp) (hr : RmG n X.A) (hgu : X.A.guards = some []) (hg : Gl X x) (hm : X.mg x = some (.ref f)) (hk : PySem.W.keepIn X.K (.ref f) = true) (hb : Binds X.K fd ps []) (hx : ∀ σ, PassesAt CX X σ (E σ)) (ha : PA X (e :: es) t)
  (hdb : (x == ("__debug__" : Str)) = false) (he : starEach (e :: es) X.env = (false, eval e X.env) :: starEach es X.env) (hpl : (backTo pos (starEach es X.env)).any (·.1) = false) : PE X (.Call (.Name x p) (e :: es) [] pos) (tCallS sp E t) := by
 have q := pe_callG (p := p) F hr hgu hg hm hk hb .nil hx ha hdb he hpl
 simp only [List.append_nil] at q
 exact q
theorem de_call {CX : CXT} {n k : Nat} {x : Str} {f : Addr} {fd : FuncData} {ps : List Str} {e : Expr} {es : List Expr} {g : Sm M (List S)} {c : List S → M.T → Rs S M.T} {p pos : Pos} (hF : ∀ j, FnG (X j).prog (X j).w (X j).K (X j).mg (X j).base CX k f fd ps (spM M K xr n c)) (hr : ∀ j, RmG k (X j).A) (hgu : ∀ j, (X j).A.guards = some []) (hg : ∀ j, Gl (X j) x)
  (hm : ∀ j, (X j).mg x = some (.ref f)) (hk : ∀ j, PySem.W.keepIn (X j).K (.ref f) = true) (hb : ∀ j, Binds (X j).K fd ps []) (hx : ∀ j σ, PassesAt CX (X j) σ (WE W σ)) (ha : DA M xr K X W (e :: es) g) (hn : ∀ z ss z1, g z = .ok ss z1 → ss.length = n)
  (hdb : (x == ("__debug__" : Str)) = false := by decide) (he : ∀ j, starEach (e :: es) (X j).env = (false, eval e (X j).env) :: starEach es (X j).env := by intro _; rfl) (hpl : ∀ j, (backTo pos (starEach es (X j).env)).any (·.1) = false := by intro _; rfl) :
  DE M xr K X W (.Call (.Name x p) (e :: es) [] pos) (eCall c g) := by
 obtain ⟨t, pa, ca⟩ := ha
 exact ⟨_, fun j => pe_callF (hF j) (hr j) (hgu j) (hg j) (hm j) (hk j) (hb j) (hx j) (pa j) hdb (he j) (hpl j), cmp_call ca hn⟩
noncomputable def aDef (dd : List D) (g : Sm M (List S)) (z : Z M.T) : Rs (List S) (Z M.T) := (g z).bind fun ss z1 => .ok (ss ++ dd.map S.d) z1
end
noncomputable def fnM {M : MI} (n : Nat) (b : Sm M Out) : List S → M.T → Rs S M.T := fun args t => match b { rho := args.map some ++ List.replicate (n - args.length) none, m := t } with
 | .ok (.rt s) z => .ok s z.m
 | .ok .nx z => .ok (.d .non) z.m
 | .ok _ _ => .bad
 | .ex x z => .ex x z.m
 | .bad => .bad
theorem paired_get {α β : Type} {R : α → β → Prop} : ∀ {as : List α} {bs : List β} {i : Nat} {b : β}, Paired R as bs → bs[i]? = some b → ∃ a, as[i]? = some a ∧ R a b
 | _, _, _, _, .nil, e => by simp at e
 | _, _, 0, _, .cons r _, e => by simp at e; subst e; exact ⟨_, rfl, r⟩
 | _, _, i + 1, _, .cons _ t, e => by
  obtain ⟨a, h1, h2⟩ := paired_get (i := i) t (by simpa using e)
  exact ⟨a, by simpa using h1, h2⟩
open Classical in
noncomputable def prP (ms : List Addr) (H F : Hp) : Hp := fun b => if b ∈ ms ∨ ∃ ps, F b = some (.tbl ps) then none else H b
theorem prP_in {ms : List Addr} {H F : Hp} {b : Addr} (h : b ∈ ms ∨ ∃ ps, F b = some (.tbl ps)) : prP ms H F b = none := if_pos h
theorem prP_out {ms : List Addr} {H F : Hp} {b : Addr} (h : ¬ (b ∈ ms ∨ ∃ ps, F b = some (.tbl ps))) : prP ms H F b = H b := if_neg h
theorem prP_of {ms : List Addr} {H F : Hp} {b : Addr} {o : HO} (h : prP ms H F b = some o) : ¬ (b ∈ ms ∨ ∃ ps, F b = some (.tbl ps)) ∧ H b = some o := by
 by_cases q : b ∈ ms ∨ ∃ ps, F b = some (.tbl ps)
 ·rw [prP_in q] at h; cases h
 ·rw [prP_out q] at h; exact ⟨q, h⟩
theorem start_ok {M : MI} {K : PySem.W.Frag} {xr : Str → Option Value} {N : List Str} {vs : List V} {H F : Hp} {ms : List Addr} {args : List S} {t : M.T} (sub : SameX F H) (mach : M.ok K F H ms t) (msx : ∀ a ∈ ms, F a = none ∧ H a ≠ none) (tgx : ∀ a ps, F a = some (.tbl ps) → H a ≠ none) (hv : Paired (AV K F ms) vs args) :
  Ok M ⟨K, xr, ms, prP ms H F, F⟩ (L2.start N vs) H F { rho := args.map some ++ List.replicate (N.length - args.length) none, m := t } := by
 have hl : vs.length = args.length := hv.length
 have key : ∀ (i : Nat) (s : S), (args.map some ++ List.replicate (N.length - args.length) none)[i]? = some (some s) → args[i]? = some s := fun i s e => by
  by_cases h : i < args.length
  ·rw [List.getElem?_append_left (by simpa using h), List.getElem?_map] at e
   cases q : args[i]? with
   | none => rw [q] at e; cases e
   | some s' => rw [q] at e; cases e; rfl
  ·rw [List.getElem?_append_right (by simpa using h), List.getElem?_replicate] at e
   split at e
   ·cases e
   ·cases e
 refine ⟨sub, ?_, fun i s e => ?_, fun i j xs ys v e1 _ _ _ => ?_, mach, fun a ha => (msx a ha).1, fun a ha => prP_in (.inl ha), fun a ha => (msx a ha).2, fun b o q => ⟨(prP_of q).2, rfl⟩, fun a ps e => ⟨tgx a ps e, prP_in (.inr ⟨ps, e⟩)⟩⟩
 ·unfold L2.start
  simp [hl]
 ·obtain ⟨v, h1, h2⟩ := paired_get hv (key i s e)
  refine ⟨v, ?_, ?_⟩
  ·unfold L2.start
   have hi : i < vs.length := (List.getElem?_eq_some_iff.mp h1).1
   rw [List.getElem?_append_left (by simpa using hi), List.getElem?_map, h1]
   rfl
  ·cases s with
   | d x => exact h2
   | l xs => exact h2.elim
   | v _ => exact h2.elim
   | m j => exact h2
 ·obtain ⟨v, h1, h2⟩ := paired_get hv (key i _ e1)
  exact h2.elim
theorem fr_out {M : MI} {K : PySem.W.Frag} {xr : Str → Option Value} {ms : List Addr} {H F H' F' : Hp} (h : ∀ b o, (⟨K, xr, ms, prP ms H F, F⟩ : Gx).P b = some o → H' b = some o ∧ F' b = F b) : ∀ b o, H b = some o → b ∉ ms → (∀ ps, F b ≠ some (.tbl ps)) → H' b = some o ∧ F' b = F b := fun b o q n n2 => h b o (by show prP ms H F b = some o; rw [prP_out (fun e => e.elim n fun ⟨ps, e⟩ => n2 ps e)]; exact q)
theorem tg_out {M : MI} {K : PySem.W.Frag} {xr : Str → Option Value} {ms : List Addr} {H F H' F' : Hp} (sm : Same F F') (msx : ∀ a ∈ ms, F' a = none) (h : ∀ a ps, F' a = some (.tbl ps) → H' a ≠ none ∧ (⟨K, xr, ms, prP ms H F, F⟩ : Gx).P a = none) : ∀ a ps, F' a = some (.tbl ps) → H' a ≠ none ∧ (F a = some (.tbl ps) ∨ H a = none) := fun a ps e => by
 obtain ⟨h1, h2⟩ := h a ps e
 refine ⟨h1, ?_⟩
 have h2' : prP ms H F a = none := h2
 by_cases q : a ∈ ms ∨ ∃ ps, F a = some (.tbl ps)
 ·rcases q with q | ⟨ps', q⟩
  ·rw [msx a q] at e; cases e
  ·have := sm a _ q
   rw [e] at this
   cases this
   exact .inl q
 ·rw [prP_out q] at h2'
  exact .inr h2'
theorem okMC {M : MI} {P : Program} {w : World} {K : PySem.W.Frag} {mg : Str → Option Value} {base : Heap} {xr : Str → Option Value} {x qual : Str} {st : Stmt} {f : Addr} {fd : FuncData} {dvs : List V} {N ps : List Str} {k : Nat} {b : Sm M Out} (Fn : FunD K x qual (defArgs st) (defBody st) (defScope st) dvs [] f fd) (Sc : FnScope N ps (defScope st))
  (hb : ∀ (cdv : Value), fd.code = cdv → ∀ (A : Around) (outer : List Env) (s : Shared) (H : Hp) (E : XK), RmG k (A.deeper (PyProof.Rows.envOfC qual (defScope st) s.heap.objs.size f cdv)) → A.guards = some [] →
   DSs M xr K (fun _ : Unit => cxOf (L2.CX P w) P w K mg base N qual (defScope st) f cdv A outer s H E) (fun cls d _ H => E cls d H) (defBody st) b) :
  FnG P w K mg base (L2.CX P w) (k + 1) f fd ps (spM M K xr ps.length (fnM N.length b)) := by
 obtain ⟨oc, od, dV, kV, doc, pm, an, cdv, ct, osl, rfl, lk, hcd, _, _⟩ := Fn.ex
 refine fnG lk hcd Sc (fun vs H Q E h => h.1) (fun A outer s H vs Q E hr hgu h => ?_)
 obtain ⟨hl, ms, F, args, t, sub, mach, msx, tgx, hv, h⟩ := h
 obtain ⟨tb, p, c⟩   := hb cdv rfl A outer s H E hr hgu
 refine ⟨tb, p (), ?_⟩
 have ok := start_ok (xr := xr) (N := N) sub mach msx tgx hv
 refine c _ _ H F _ _ rfl rfl ok ?_
 unfold fnM at h
 cases e : b { rho := args.map some ++ List.replicate (N.length - args.length) none, m := t } with
 | bad => rw [e] at h; exact h
 | ex x z =>
  rw [e] at h
  exact fun cls d σ H' F' s' ok' xo => h cls d H' F' s' ⟨ok'.sub, ok'.mach, fun a ha => ⟨ok'.msF a ha, ok'.msH a ha⟩, fr_out (M := M) ok'.fr, tg_out (M := M) s' ok'.msF ok'.tg⟩ xo
 | ok o z =>
  rw [e] at h
  cases o with
  | bk => exact h.elim
  | ct => exact h.elim
  | nx => exact fun σ H' F' s' ok' => h .non H' F' s' ⟨ok'.sub, ok'.mach, fun a ha => ⟨ok'.msF a ha, ok'.msH a ha⟩, fr_out (M := M) ok'.fr, tg_out (M := M) s' ok'.msF ok'.tg⟩ Da.non
  | rt q =>
   intro v H' F' s' r
   refine h v H' F' s' ⟨r.sub, r.mach, fun a ha => ⟨r.msF a ha, r.msH a ha⟩, fr_out (M := M) r.fr, tg_out (M := M) s' r.msF r.tg⟩ ?_
   have val := r.val
   cases q with
   | d x => exact val
   | m j => exact val
   | v _ => exact val.elim
   | l xs =>
    obtain ⟨a, vs', rfl, q1, q2, q3, q4, q5⟩ := val
    have q4' : prP ms H F a = none := q4
    have q5' : a ∉ ms := q5
    rw [prP_out (fun e => e.elim q5' fun ⟨ps, e⟩ => by have := s' a _ e; rw [q3] at this; cases this)] at q4'
    exact ⟨a, vs', rfl, q1, q2, q3, q4', q5'⟩
theorem okM {M : MI} {P : Program} {w : World} {K : PySem.W.Frag} {mg : Str → Option Value} {base : Heap} {xr : Str → Option Value} {x qual : Str} {st : Stmt} {f : Addr} {fd : FuncData} {dvs : List V} {N ps : List Str} {k : Nat} {b : Sm M Out} (Fn : FunD K x qual (defArgs st) (defBody st) (defScope st) dvs [] f fd) (Sc : FnScope N ps (defScope st))
  (hb : ∀ (cdv : Value) (A : Around) (outer : List Env) (s : Shared) (H : Hp) (E : XK), RmG k (A.deeper (PyProof.Rows.envOfC qual (defScope st) s.heap.objs.size f cdv)) → A.guards = some [] →
   DSs M xr K (fun _ : Unit => cxOf (L2.CX P w) P w K mg base N qual (defScope st) f cdv A outer s H E) (fun cls d _ H => E cls d H) (defBody st) b) :
  FnG P w K mg base (L2.CX P w) (k + 1) f fd ps (spM M K xr ps.length (fnM N.length b)) := okMC Fn Sc fun cdv _ => hb cdv
end G
namespace G
open PySem L2
section
variable {K : PySem.W.Frag} {F H : Hp} {v : V}
theorem Rv.da {x : D} (h : Rv K F H v x) (hn : ∀ xs, x ≠ .lst xs) : Da K F v x := by
 rcases h with h | ⟨a, vs, xs, _, e, _⟩
 ·exact h
 ·exact (hn xs e).elim
theorem Rv.int {i : Int} (h : Rv K F H v (.int i)) : v = .int i := by cases h.da (fun _ e => by cases e); rfl
theorem Rv.str {i : Str} (h : Rv K F H v (.str i)) : v = .str i := by cases h.da (fun _ e => by cases e); rfl
theorem Rv.bl {i : Bool} (h : Rv K F H v (.bl i)) : v = .bl i := by cases h.da (fun _ e => by cases e); rfl
theorem Rv.non (h : Rv K F H v .non) : v = .non := by cases h.da (fun _ e => by cases e); rfl
theorem Rv.tup (s : SameX F H) {xs : List D} (h : Rv K F H v (.tup xs)) : ∃ a vs, v = .ref a ∧ SqT K H a vs ∧ DaAll K F vs xs := by
 cases h.da (fun _ e => by cases e) with
 | tup q r => exact ⟨_, _, rfl, s.tup q, r⟩
theorem Rv.scr (s : SameX F H) {ns : List Int} (h : Rv K F H v (.scr ns)) : ∃ a, v = .ref a ∧ SqL K H a (ns.map V.int) := by
 cases h.da (fun _ e => by cases e) with
 | scr q => exact ⟨_, rfl, s.seq q⟩
theorem Rv.emp (s : SameX F H) (h : Rv K F H v .emp) : ∃ a, v = .ref a ∧ H a = some (.dK []) := by
 cases h.da (fun _ e => by cases e) with
 | emp q => exact ⟨_, rfl, s.emp q⟩
end
noncomputable def dI (C : Int → Int → Bool) (g : Int → Int → D) : D → D → Option R := fun a b => match a, b with
 | .int i, .int j => if C i j = true then some (.d (g i j)) else none
 | _, _ => none
theorem op2_I {K : PySem.W.Frag} {Cp : Int → Int → Prop} {C : Int → Int → Bool} {g : Int → Int → V} {g' : Int → Int → D} (hC : ∀ i j, C i j = true → Cp i j) (hg : ∀ F i j, Da K F (g i j) (g' i j)) : Op2 K (rI Cp g) (dI C g') := by
 intro F H x y a b Q s ha hb h
 cases a with
 | int i =>
  cases b with
  | int j =>
   unfold dI at h
   by_cases hc : C i j = true
   ·simp only [if_pos hc] at h
    exact ⟨i, j, ha.int, hb.int, hC i j hc, h _ (hg F i j)⟩
   ·simp only [if_neg hc] at h
    exact h.elim
  | _ => exact h.elim
 | _ => exact h.elim
theorem op2_I0 {K : PySem.W.Frag} {g : Int → Int → V} {g' : Int → Int → D} (hg : ∀ F i j, Da K F (g i j) (g' i j)) : Op2 K (rI0 g) (dI (fun _ _ => true) g') := by
 intro F H x y a b Q s ha hb h
 cases a with
 | int i =>
  cases b with
  | int j => exact ⟨i, j, ha.int, hb.int, h _ (hg F i j)⟩
  | _ => exact h.elim
 | _ => exact h.elim
noncomputable def dSub := dI (fun _ _ => true) fun i j => .int (i - j)
noncomputable def dMul := dI (fun i j => decide ((-(2 ^ 64) < i ∧ i < 2 ^ 64) ∨ (-(2 ^ 64) < j ∧ j < 2 ^ 64))) fun i j => .int (i * j)
noncomputable def dFdiv := dI (fun _ j => decide (0 < j ∧ j < 1073741824)) fun i j => .int (i / j)
noncomputable def dMod := dI (fun _ j => decide (0 < j)) fun i j => .int (i % j)
noncomputable def dPow := dI (fun i j => decide (0 ≤ j ∧ j ≤ 1000000 ∧ i.natAbs < 2 ^ 64)) fun i j => .int (i ^ j.toNat)
noncomputable def dLt := dI (fun _ _ => true) fun i j => .bl (decide (i < j))
noncomputable def dLe := dI (fun _ _ => true) fun i j => .bl (decide (i ≤ j))
noncomputable def dGt := dI (fun _ _ => true) fun i j => .bl (decide (j < i))
noncomputable def dGe := dI (fun _ _ => true) fun i j => .bl (decide (j ≤ i))
noncomputable def dNeg : D → Option R := fun a => match a with
 | .int i => some (.d (.int (-i)))
 | _ => none
noncomputable def dAdd : D → D → Option R := fun a b => match a, b with
 | .int i, .int j => some (.d (.int (i + j)))
 | .str x, .str y => if x.length + y.length ≤ lim then some (.d (.str (x ++ y))) else none
 | .lst xs, .lst ys => if xs.length + ys.length ≤ lim then some (.l (xs ++ ys)) else none
 | .tup xs, .tup ys => if xs.length + ys.length ≤ lim then some (.t (xs ++ ys)) else none
 | _, _ => none
theorem limLe {n : Nat} (h : n ≤ lim) : n ≤ sizeLine := Nat.le_trans h (Nat.le_of_lt lim_line)
noncomputable def rAddAll (K : PySem.W.Frag) : R2 := fun x y H Q => (rI0 fun i j => .int (i + j)) x y H Q ∨ (∃ i j, x = .str i ∧ y = .str j ∧ i.length + j.length ≤ sizeLine ∧ Q (.str (i ++ j)) H) ∨ rCat x y H Q ∨ rCatA K x y H Q
theorem opAdd {X : Cx} : OpR X (binaryOp .Add) (rAddAll X.K) := op_add.or (op_add_str.or (op_cat.or op_catA))
theorem op2_add {K : PySem.W.Frag} : Op2 K (rAddAll K) dAdd := by
 intro F H x y a b Q s ha hb h
 unfold dAdd at h
 split at h
 ·exact .inl ⟨_, _, ha.int, hb.int, h _ (.int _)⟩
 ·rename_i i j
  by_cases hl : i.length + j.length ≤ lim
  ·rw [if_pos hl] at h
   exact .inr (.inl ⟨_, _, ha.str, hb.str, limLe hl, h _ (.str _)⟩)
  ·rw [if_neg hl] at h; exact h.elim
 ·rename_i xs ys
  by_cases hl : xs.length + ys.length ≤ lim
  ·rw [if_pos hl] at h
   obtain ⟨a, vs, rfl, h1, h2⟩ := ha.lst s
   obtain ⟨b, ws, rfl, h3, h4⟩ := hb.lst s
   exact .inr (.inr (.inl ⟨a, b, vs, ws, rfl, rfl, h1, h3, by rw [h2.length, h4.length]; exact limLe hl, fun p hp => h p _ hp (h2.append h4)⟩))
  ·rw [if_neg hl] at h; exact h.elim
 ·rename_i xs ys
  by_cases hl : xs.length + ys.length ≤ lim
  ·rw [if_pos hl] at h
   obtain ⟨a, vs, rfl, h1, h2⟩ := ha.tup s
   obtain ⟨b, ws, rfl, h3, h4⟩ := hb.tup s
   refine .inr (.inr (.inr ⟨a, b, vs, ws, rfl, rfl, h1, h3, by rw [h2.length, h4.length]; exact limLe hl, fun e => ?_, fun _ e => ?_, fun _ _ p hp => h.2 p _ hp (h2.append h4)⟩))
   ·subst e
    cases h2
    exact h.1 _ (hb.da (fun _ e => by cases e))
   ·subst e
    cases h4
    rw [List.append_nil] at h
    exact h.1 _ (ha.da (fun _ e => by cases e))
  ·rw [if_neg hl] at h; exact h.elim
 ·exact h.elim
mutual
noncomputable def toPy : D → PyData
 | .non => .none
 | .bl b => .bool b
 | .int i => .int i
 | .str x => .str x
 | .tup xs => .tuple (toPys xs)
 | .lst xs => .list (toPys xs)
 | .scr ns => .list (ns.map PyData.int)
 | .emp => .str ⟨#[4294967295]⟩
 | .exc _ _ => .str ⟨#[4294967295]⟩
 | .o _ => .str ⟨#[4294967295]⟩
noncomputable def toPys : List D → List PyData
 | [] => []
 | x :: r => toPy x :: toPys r
end
theorem dp_ints {K : PySem.W.Frag} {H : Hp} : ∀ ns : List Int, DpAll K H (ns.map V.int) (ns.map PyData.int)
 | [] => .nil
 | n :: r => .cons (.int n) (dp_ints r)
mutual
noncomputable def lay : D → Bool
 | .str x => PyData.strOk x
 | .tup xs => lays xs
 | .lst xs => lays xs
 | .emp => false
 | .exc _ _ => false
 | .o _ => false
 | _ => true
noncomputable def lays : List D → Bool
 | [] => true
 | x :: r => lay x && lays r
end
mutual
theorem Da.dp {K : PySem.W.Frag} {F H : Hp} (s : SameX F H) : ∀ {v : V} {d : D}, Da K F v d → lay d = true → Dp K H v (toPy d)
 | _, _, .non, _ => .non
 | _, _, .bl b, _ => .bl b
 | _, _, .int i, _ => .int i
 | _, _, .str x, _ => .str x
 | _, _, .tup q r, l => .tup (s.tup q) (DaAll.dp s r (by rwa [lay] at l))
 | _, _, .lst q r, l => .lst (SqL.of (s.lst q)) (DaAll.dp s r (by rwa [lay] at l))
 | _, _, .scr q, _ => .lst (s.seq q) (dp_ints _)
 | _, _, .emp q, l => by rw [lay] at l; cases l
 | _, _, .exc _ _, l => by rw [lay] at l; cases l
 | _, _, .o _, l => by rw [lay] at l; cases l
theorem DaAll.dp {K : PySem.W.Frag} {F H : Hp} (s : SameX F H) : ∀ {vs : List V} {ds : List D}, DaAll K F vs ds → lays ds = true → DpAll K H vs (toPys ds)
 | _, _, .nil, _ => .nil
 | _, _, .cons a b, l => by
  rw [lays, Bool.and_eq_true] at l
  exact .cons (Da.dp s a l.1) (DaAll.dp s b l.2)
end
theorem Rv.dp {K : PySem.W.Frag} {F H : Hp} (s : SameX F H) {v : V} {d : D} (h : Rv K F H v d) (l : lay d = true) : Dp K H v (toPy d) := by
 rcases h with h | ⟨a, vs, xs, rfl, rfl, h1, h2⟩
 ·exact h.dp s l
 ·exact .lst (SqL.of h1) (h2.dp s (by rwa [lay] at l))
mutual
noncomputable def dep : D → Nat
 | .tup xs => deps xs + 1
 | .lst xs => deps xs + 1
 | .scr _ => 1
 | _ => 0
noncomputable def deps : List D → Nat
 | [] => 0
 | x :: r => max (dep x) (deps r)
end
theorem lay_ints : ∀ ns : List Int, PyData.canLayAll0 (ns.map PyData.int) = true
 | [] => rfl
 | n :: r => by rw [List.map_cons, PyData.canLayAll0, lay_ints r, PyData.canLay0]; rfl
theorem dep_ints : ∀ ns : List Int, PyData.depthAll (ns.map PyData.int) = 0
 | [] => rfl
 | n :: r => by rw [List.map_cons, PyData.depthAll, dep_ints r, PyData.depth]; rfl
mutual
theorem canLay_toPy : ∀ d : D, (toPy d).canLay0 = lay d
 | .non => by simp [toPy, lay, PyData.canLay0]
 | .bl _ => by simp [toPy, lay, PyData.canLay0]
 | .int _ => by simp [toPy, lay, PyData.canLay0]
 | .str _ => by simp [toPy, lay, PyData.canLay0]
 | .tup xs => by rw [toPy, lay, PyData.canLay0, canLays_toPy xs]
 | .lst xs => by rw [toPy, lay, PyData.canLay0, canLays_toPy xs]
 | .scr ns => by rw [toPy, lay, PyData.canLay0, lay_ints]; all_goals (intros; simp_all)
 | .emp => by rw [toPy, lay, PyData.canLay0]; decide +kernel
 | .exc _ _ => by rw [toPy, lay, PyData.canLay0]; decide +kernel
 | .o _ => by rw [toPy, lay, PyData.canLay0]; decide +kernel
theorem canLays_toPy : ∀ ds : List D, PyData.canLayAll0 (toPys ds) = lays ds
 | [] => by simp [toPys, lays, PyData.canLayAll0]
 | d :: r => by rw [toPys, lays, PyData.canLayAll0, canLay_toPy d, canLays_toPy r]
end
mutual
theorem depth_toPy : ∀ d : D, (toPy d).depth = dep d
 | .non => by simp [toPy, dep, PyData.depth]
 | .bl _ => by simp [toPy, dep, PyData.depth]
 | .int _ => by simp [toPy, dep, PyData.depth]
 | .str _ => by simp [toPy, dep, PyData.depth]
 | .tup xs => by rw [toPy, dep, PyData.depth, depths_toPy xs]
 | .lst xs => by rw [toPy, dep, PyData.depth, depths_toPy xs]
 | .scr ns => by rw [toPy, dep, PyData.depth, dep_ints]
 | .emp => by simp [toPy, dep, PyData.depth]
 | .exc _ _ => by simp [toPy, dep, PyData.depth]
 | .o _ => by simp [toPy, dep, PyData.depth]
theorem depths_toPy : ∀ ds : List D, PyData.depthAll (toPys ds) = deps ds
 | [] => by simp [toPys, deps, PyData.depthAll]
 | d :: r => by rw [toPys, deps, PyData.depthAll, depth_toPy d, depths_toPy r]
end
noncomputable def eqD (a b : D) : Bool := PyData.eqv (toPy a) (toPy b)
noncomputable def eqOk (a b : D) : Bool := lay a && (lay b && decide (min (dep a) (dep b) ≤ 300))
noncomputable def dEq : D → D → Option R := fun a b => if eqOk a b = true then some (.d (.bl (eqD a b))) else none
noncomputable def dNe : D → D → Option R := fun a b => if eqOk a b = true then some (.d (.bl (!eqD a b))) else none
noncomputable def rEqW (K : PySem.W.Frag) : R2 := fun x y H Q => ∃ d e, Dp K H x d ∧ Dp K H y e ∧ d.canLay0 = true ∧ e.canLay0 = true ∧ min d.depth e.depth ≤ 300 ∧ Q (.bl (PyData.eqv d e)) H
noncomputable def rNeW (K : PySem.W.Frag) : R2 := fun x y H Q => ∃ d e, Dp K H x d ∧ Dp K H y e ∧ d.canLay0 = true ∧ e.canLay0 = true ∧ min d.depth e.depth ≤ 300 ∧ Q (.bl (!PyData.eqv d e)) H
theorem op_eqW {X : Cx} (hu : X.A.units + 300 < cLine) : OpR X (compareOp .Eq) (rEqW X.K) := by
 intro pins s σ H x y v u Q I rx ry h
 obtain ⟨d, e, hd, he, sd, se, hm, q⟩ := h
 obtain ⟨as, r1⟩ := Dp.reads I d x v hd rx
 obtain ⟨bs, r2⟩ := Dp.reads I e y u he ry
 exact SeqAt.compareEq_reads r1 r2 sd se (by omega) ⟨.bl _, H, I, rfl, q⟩
theorem op_neW {X : Cx} (hu : X.A.units + 300 < cLine) : OpR X (compareOp .NotEq) (rNeW X.K) := by
 intro pins s σ H x y v u Q I rx ry h
 obtain ⟨d, e, hd, he, sd, se, hm, q⟩ := h
 obtain ⟨as, r1⟩ := Dp.reads I d x v hd rx
 obtain ⟨bs, r2⟩ := Dp.reads I e y u he ry
 exact SeqAt.compareNe_reads r1 r2 sd se (by omega) ⟨.bl _, H, I, rfl, q⟩
theorem eqOk_of {a b : D} (h : eqOk a b = true) : (toPy a).canLay0 = true ∧ (toPy b).canLay0 = true ∧ min (toPy a).depth (toPy b).depth ≤ 300 := by
 unfold eqOk at h
 rw [Bool.and_eq_true, Bool.and_eq_true] at h
 rw [canLay_toPy, canLay_toPy, depth_toPy, depth_toPy]
 exact ⟨h.1, h.2.1, of_decide_eq_true h.2.2⟩
theorem op2_eq {K : PySem.W.Frag} : Op2 K (rEqW K) dEq := by
 intro F H x y a b Q s ha hb h
 unfold dEq at h
 by_cases hs : eqOk a b = true
 ·rw [if_pos hs] at h
  obtain ⟨q1, q2, q3⟩ := eqOk_of hs
  exact ⟨_, _, ha.dp s (by rw [← canLay_toPy]; exact q1), hb.dp s (by rw [← canLay_toPy]; exact q2), q1, q2, q3, h _ (.bl _)⟩
 ·rw [if_neg hs] at h; exact h.elim
theorem op2_ne {K : PySem.W.Frag} : Op2 K (rNeW K) dNe := by
 intro F H x y a b Q s ha hb h
 unfold dNe at h
 by_cases hs : eqOk a b = true
 ·rw [if_pos hs] at h
  obtain ⟨q1, q2, q3⟩ := eqOk_of hs
  exact ⟨_, _, ha.dp s (by rw [← canLay_toPy]; exact q1), hb.dp s (by rw [← canLay_toPy]; exact q2), q1, q2, q3, h _ (.bl _)⟩
 ·rw [if_neg hs] at h; exact h.elim
noncomputable def dIs : D → D → Option R := fun a b => match a, b with
 | .non, .non => some (.d (.bl true))
 | _, .non => some (.d (.bl false))
 | .bl x, .bl y => some (.d (.bl (decide (x = y))))
 | _, _ => none
noncomputable def dIsNot : D → D → Option R := fun a b => match a, b with
 | .non, .non => some (.d (.bl false))
 | _, .non => some (.d (.bl true))
 | .bl x, .bl y => some (.d (.bl (!decide (x = y))))
 | _, _ => none
noncomputable def rIsAll : R2 := fun x y H Q => (y = .non ∧ Q (.bl (decide (x = .non))) H) ∨ (∃ a b, x = .bl a ∧ y = .bl b ∧ Q (.bl (decide (a = b))) H)
noncomputable def rIsNotAll : R2 := fun x y H Q => (y = .non ∧ Q (.bl (!decide (x = .non))) H) ∨ (∃ a b, x = .bl a ∧ y = .bl b ∧ Q (.bl (!decide (a = b))) H)
theorem opIs {X : Cx} : OpR X (compareOp .Is) rIsAll := op_isN.or op_is_bl
theorem opIsNot {X : Cx} : OpR X (compareOp .IsNot) rIsNotAll := op_notN.or op_isnot_bl
theorem Rv.notNon {K : PySem.W.Frag} {F H : Hp} {v : V} {d : D} (h : Rv K F H v d) (hd : d ≠ .non) : v ≠ .non := by
 rcases h with h | ⟨a, vs, xs, rfl, _, _, _⟩
 ·cases h with
  | non => exact (hd rfl).elim
  | bl _ => intro e; cases e
  | int _ => intro e; cases e
  | str _ => intro e; cases e
  | tup _ _ => intro e; cases e
  | lst _ _ => intro e; cases e
  | scr _ => intro e; cases e
  | emp _ => intro e; cases e
  | exc _ _ => intro e; cases e
  | excA _ _ _ _ => intro e; cases e
  | o _ => intro e; cases e
 ·intro e; cases e
theorem op2_is {K : PySem.W.Frag} : Op2 K rIsAll dIs := by
 intro F H x y a b Q s ha hb h
 unfold dIs at h
 split at h
 ·refine .inl ⟨hb.non, ?_⟩
  rw [ha.non]
  exact h _ (.bl true)
 ·rename_i hn
  refine .inl ⟨hb.non, ?_⟩
  rw [decide_eq_false (ha.notNon hn)]
  exact h _ (.bl false)
 ·exact .inr ⟨_, _, ha.bl, hb.bl, h _ (.bl _)⟩
 ·exact h.elim
theorem op2_isNot {K : PySem.W.Frag} : Op2 K rIsNotAll dIsNot := by
 intro F H x y a b Q s ha hb h
 unfold dIsNot at h
 split at h
 ·refine .inl ⟨hb.non, ?_⟩
  rw [ha.non]
  exact h _ (.bl false)
 ·rename_i hn
  refine .inl ⟨hb.non, ?_⟩
  rw [decide_eq_false (ha.notNon hn)]
  exact h _ (.bl true)
 ·exact .inr ⟨_, _, ha.bl, hb.bl, h _ (.bl _)⟩
 ·exact h.elim
noncomputable def flatD : D → Bool
 | .non => true
 | .bl _ => true
 | .int _ => true
 | .str _ => true
 | _ => false
noncomputable def eqF : D → D → Bool
 | .non, .non => true
 | .bl a, .bl b => a == b
 | .bl a, .int b => (if a then 1 else 0) == b
 | .int a, .bl b => a == (if b then 1 else 0)
 | .int a, .int b => a == b
 | .str a, .str b => a == b
 | _, _ => false
noncomputable def inD (x : D) (xs : List D) : Bool := xs.any fun y => eqF y x
noncomputable def dInB : D → D → Option Bool := fun a b => match b with
 | .tup xs => if flatD a = true ∧ xs.all flatD = true then some (inD a xs) else none
 | .lst xs => if flatD a = true ∧ xs.all flatD = true then some (inD a xs) else none
 | .str z => (match a with
  | .str c => if c.cps.size = 1 then some (decide (c.cps.getD 0 0 ∈ z.cps.toList)) else none
  | _ => none)
 | _ => none
noncomputable def dIn : D → D → Option R := fun a b => (dInB a b).map fun k => .d (.bl k)
noncomputable def dNotIn : D → D → Option R := fun a b => (dInB a b).map fun k => .d (.bl (!k))
theorem da_flat {K : PySem.W.Frag} {F : Hp} {v : V} {d : D} (h : Da K F v d) (hf : flatD d = true) : flatV v = true := by
 cases h with
 | non => rfl
 | bl _ => rfl
 | int _ => rfl
 | str _ => rfl
 | tup _ _ => cases hf
 | lst _ _ => cases hf
 | scr _ => cases hf
 | emp _ => cases hf
 | exc _ _ => cases hf
 | excA _ _ _ _ => cases hf
 | o _ => cases hf
theorem da_eqF {K : PySem.W.Frag} {F : Hp} {v u : V} {d e : D} (h : Da K F v d) (h' : Da K F u e) (hf : flatD d = true) (hf' : flatD e = true) : eqV v u = eqF d e := by
 cases h with
 | non => cases h' <;> first | rfl | cases hf'
 | bl _ => cases h' <;> first | rfl | cases hf'
 | int _ => cases h' <;> first | rfl | cases hf'
 | str _ => cases h' <;> first | rfl | cases hf'
 | tup _ _ => cases hf
 | lst _ _ => cases hf
 | scr _ => cases hf
 | emp _ => cases hf
 | exc _ _ => cases hf
 | excA _ _ _ _ => cases hf
 | o _ => cases hf
theorem daAll_flat {K : PySem.W.Frag} {F : Hp} : ∀ {vs : List V} {ds : List D}, DaAll K F vs ds → ds.all flatD = true → vs.all flatV = true
 | _, _, .nil, _ => rfl
 | _, _, .cons a b, h => by
  rw [List.all_cons, Bool.and_eq_true] at h
  rw [List.all_cons, da_flat a h.1, daAll_flat b h.2]
  rfl
theorem daAll_in {K : PySem.W.Frag} {F : Hp} {x : V} {d : D} (hx : Da K F x d) (hf : flatD d = true) : ∀ {vs : List V} {ds : List D}, DaAll K F vs ds → ds.all flatD = true → inV x vs = inD d ds
 | _, _, .nil, _ => rfl
 | _, _, .cons a b, h => by
  rw [List.all_cons, Bool.and_eq_true] at h
  have ih := daAll_in hx hf b h.2
  unfold inV inD at ih ⊢
  rw [List.any_cons, List.any_cons, ih, da_eqF a hx h.1 hf]
theorem Rv.flat {K : PySem.W.Frag} {F H : Hp} {v : V} {d : D} (h : Rv K F H v d) (hf : flatD d = true) : Da K F v d := h.da (fun _ e => by rw [e] at hf; cases hf)
noncomputable def rInAll (K : PySem.W.Frag) : R2 := fun x y H Q => rIn K false x y H Q ∨ ∃ (c : Nat) (z : Str), x = .str ⟨#[c]⟩ ∧ y = .str z ∧ Q (.bl (decide (c ∈ z.cps.toList))) H
noncomputable def rNotInAll (K : PySem.W.Frag) : R2 := fun x y H Q => rIn K true x y H Q ∨ ∃ (c : Nat) (z : Str), x = .str ⟨#[c]⟩ ∧ y = .str z ∧ Q (.bl (!decide (c ∈ z.cps.toList))) H
theorem opIn {X : Cx} : OpR X (compareOp .In) (rInAll X.K) := op_in_seq.or op_in_sign
theorem opNotIn {X : Cx} : OpR X (compareOp .NotIn) (rNotInAll X.K) := op_notIn_seq.or op_notIn_sign
theorem one_sign {c : Str} (h : c.cps.size = 1) : c = ⟨#[c.cps.getD 0 0]⟩ := by
 obtain ⟨⟨l⟩⟩ := c
 match l, h with
 | [x], _ => rfl
theorem in_all {K : PySem.W.Frag} {neg : Bool} {F H : Hp} {x y : V} {a b : D} {Q : VK} {k : Bool} (s : SameX F H) (ha : Rv K F H x a) (hb : Rv K F H y b) (e : dInB a b = some k) (h : ∀ u, Da K F u (.bl (if neg then !k else k)) → Q u H) :
  rIn K neg x y H Q ∨ ∃ (c : Nat) (z : Str), x = .str ⟨#[c]⟩ ∧ y = .str z ∧ Q (.bl (if neg then !decide (c ∈ z.cps.toList) else decide (c ∈ z.cps.toList))) H := by
 unfold dInB at e
 split at e
 ·rename_i xs
  by_cases hc : flatD a = true ∧ xs.all flatD = true
  ·rw [if_pos hc] at e
   cases e
   obtain ⟨p, vs, rfl, h1, h2⟩ := hb.tup s
   have da := ha.flat hc.1
   refine .inl ⟨p, vs, rfl, .inr h1, da_flat da hc.1, daAll_flat h2 hc.2, ?_⟩
   rw [daAll_in da hc.1 h2 hc.2]
   exact h _ (.bl _)
  ·rw [if_neg hc] at e; cases e
 ·rename_i xs
  by_cases hc : flatD a = true ∧ xs.all flatD = true
  ·rw [if_pos hc] at e
   cases e
   obtain ⟨p, vs, rfl, h1, h2⟩ := hb.lst s
   have da := ha.flat hc.1
   refine .inl ⟨p, vs, rfl, .inl (SqL.of h1), da_flat da hc.1, daAll_flat h2 hc.2, ?_⟩
   rw [daAll_in da hc.1 h2 hc.2]
   exact h _ (.bl _)
  ·rw [if_neg hc] at e; cases e
 ·rename_i z
  split at e
  ·rename_i c
   by_cases hc : c.cps.size = 1
   ·rw [if_pos hc] at e
    cases e
    refine .inr ⟨c.cps.getD 0 0, z, ?_, hb.str, h _ (.bl _)⟩
    rw [← one_sign hc]
    exact ha.str
   ·rw [if_neg hc] at e; cases e
  ·cases e
 ·cases e
theorem op2_in {K : PySem.W.Frag} : Op2 K (rInAll K) dIn := by
 intro F H x y a b Q s ha hb h
 unfold dIn at h
 cases e : dInB a b with
 | none => rw [e] at h; exact h.elim
 | some k =>
  rw [e] at h
  exact in_all (neg := false) s ha hb e h
theorem op2_notIn {K : PySem.W.Frag} : Op2 K (rNotInAll K) dNotIn := by
 intro F H x y a b Q s ha hb h
 unfold dNotIn at h
 cases e : dInB a b with
 | none => rw [e] at h; exact h.elim
 | some k =>
  rw [e] at h
  exact in_all (neg := true) s ha hb e h
theorem atI_da {K : PySem.W.Frag} {F : Hp} {vs : List V} {ds : List D} {i : Int} {d : D} (h : DaAll K F vs ds) (e : atI ds i = some d) : ∃ v, atI vs i = some v ∧ Da K F v d := by
 unfold atI at e ⊢
 rw [h.length]
 cases q : ixN ds.length i with
 | none => rw [q] at e; cases e
 | some j =>
  rw [q] at e
  exact h.get e
noncomputable def dIx : D → D → Option R := fun a b => match a, b with
 | .tup xs, .int i => (atI xs i).map .d
 | .lst xs, .int i => (atI xs i).map .d
 | .scr ns, .int i => (atI ns i).map fun n => .d (.int n)
 | .str z, .int i => if z.length ≤ lim then (atI z.cps.toList i).map fun c => .d (.str ⟨#[c]⟩) else none
 | _, _ => none
theorem atI_map {α β : Type} (f : α → β) (xs : List α) (i : Int) : atI (xs.map f) i = (atI xs i).map f := by
 unfold atI
 rw [List.length_map]
 cases ixN xs.length i with
 | none => rfl
 | some j => exact List.getElem?_map
theorem op2_ix {K : PySem.W.Frag} : Op2 K (rIx K) dIx := by
 intro F H x y a b Q s ha hb h
 unfold dIx at h
 split at h
 ·rename_i xs i
  cases e : atI xs i with
  | none => rw [e] at h; exact h.elim
  | some d =>
   rw [e] at h
   obtain ⟨p, vs, rfl, h1, h2⟩ := ha.tup s
   obtain ⟨v, h3, h4⟩ := atI_da h2 e
   exact .inr (.inl ⟨p, vs, i, v, rfl, hb.int, h1, h3, h _ h4⟩)
 ·rename_i xs i
  cases e : atI xs i with
  | none => rw [e] at h; exact h.elim
  | some d =>
   rw [e] at h
   obtain ⟨p, vs, rfl, h1, h2⟩ := ha.lst s
   obtain ⟨v, h3, h4⟩ := atI_da h2 e
   exact .inl ⟨p, vs, i, v, rfl, hb.int, SqL.of h1, h3, h _ h4⟩
 ·rename_i ns i
  cases e : atI ns i with
  | none => rw [e] at h; exact h.elim
  | some n =>
   rw [e] at h
   obtain ⟨p, rfl, h1⟩ := ha.scr s
   exact .inl ⟨p, _, i, .int n, rfl, hb.int, h1, by rw [atI_map, e]; rfl, h _ (.int n)⟩
 ·rename_i z i
  by_cases hl : z.length ≤ lim
  ·rw [if_pos hl] at h
   cases e : atI z.cps.toList i with
   | none => rw [e] at h; exact h.elim
   | some c =>
    rw [e] at h
    exact .inr (.inr ⟨z, i, c, ha.str, hb.int, limLe hl, e, h _ (.str _)⟩)
  ·rw [if_neg hl] at h; exact h.elim
 ·exact h.elim
noncomputable def cutD {α : Type} (xs : List α) (lo hi : Option Int) : List α := (xs.drop (HT.sIx xs.length 0 lo)).take (HT.sIx xs.length xs.length hi - HT.sIx xs.length 0 lo)
theorem cut_da {K : PySem.W.Frag} {F : Hp} {vs : List V} {ds : List D} (h : DaAll K F vs ds) (lo hi : Option Int) : DaAll K F (cutV vs lo hi) (cutD ds lo hi) := by
 unfold cutV cutD
 rw [h.length]
 exact (h.drop _).take _
theorem cutV_ints (ns : List Int) (lo hi : Option Int) : cutV (ns.map V.int) lo hi = (cutD ns lo hi).map V.int := by
 unfold cutV cutD
 rw [List.length_map, List.map_take, List.map_drop]
noncomputable def dSl : D → Option Int → Option Int → Option R := fun a lo hi => match a with
 | .tup xs => some (.t (cutD xs lo hi))
 | .lst xs => some (.l (cutD xs lo hi))
 | .scr ns => some (.l ((cutD ns lo hi).map D.int))
 | .str z => if z.length ≤ lim then some (.d (.str (cutS z lo hi))) else none
 | _ => none
noncomputable def rSlAll (K : PySem.W.Frag) : V → Option Int → Option Int → Hp → VK → Prop := fun x lo hi H Q => rSlA K x lo hi H Q ∨ rSlL K x lo hi H Q ∨ rSlS x lo hi H Q
theorem slAll {X : Cx} : SlR X (rSlAll X.K) := sl_tupA.or (sl_list.or sl_str)
theorem ops_sl {K : PySem.W.Frag} : OpS K (rSlAll K) dSl := by
 intro F H x a lo hi Q s ha h
 unfold dSl at h
 split at h
 ·rename_i xs
  obtain ⟨p, vs, rfl, h1, h2⟩ := ha.tup s
  refine .inl ⟨p, vs, rfl, h1, fun e => ?_, fun _ p hp => h.2 p _ hp (cut_da h2 lo hi)⟩
  have q : cutD xs lo hi = xs := by
   unfold cutD
   rw [← h2.length, e.1, e.2, List.drop_zero, Nat.sub_zero, h2.length, List.take_length]
  rw [q] at h
  exact h.1 _ (ha.da (fun _ e => by cases e))
 ·obtain ⟨p, vs, rfl, h1, h2⟩ := ha.lst s
  exact .inr (.inl ⟨p, vs, rfl, SqL.of h1, fun p hp => h p _ hp (cut_da h2 lo hi)⟩)
 ·rename_i ns
  obtain ⟨p, rfl, h1⟩ := ha.scr s
  refine .inr (.inl ⟨p, _, rfl, h1, fun p hp => h p _ hp ?_⟩)
  rw [cutV_ints]
  exact DaAll.ints _
 ·rename_i z
  by_cases hl : z.length ≤ lim
  ·rw [if_pos hl] at h
   exact .inr (.inr ⟨z, ha.str, limLe hl, h _ (.str _)⟩)
  ·rw [if_neg hl] at h; exact h.elim
 ·exact h.elim
end G
namespace G
open PySem L2
noncomputable def intsOf : List D → Option (List Int)
 | [] => some []
 | .int i :: r => (intsOf r).map (i :: ·)
 | _ :: _ => none
noncomputable def blsOf : List D → Option (List Bool)
 | [] => some []
 | .bl i :: r => (blsOf r).map (i :: ·)
 | _ :: _ => none
theorem da_ints {K : PySem.W.Frag} {F : Hp} : ∀ {vs : List V} {ds : List D} {ns : List Int}, DaAll K F vs ds → intsOf ds = some ns → vs = ns.map V.int
 | _, _, _, .nil, e => by cases e; rfl
 | _, _, ns, .cons a b, e => by
  cases a with
  | int i =>
   rename_i ds
   unfold intsOf at e
   cases q : intsOf ds with
   | none => rw [q] at e; cases e
   | some ms =>
    rw [q] at e
    cases e
    rw [da_ints b q]
    rfl
  | _ => cases e
theorem da_bls {K : PySem.W.Frag} {F : Hp} : ∀ {vs : List V} {ds : List D} {ns : List Bool}, DaAll K F vs ds → blsOf ds = some ns → vs = ns.map V.bl
 | _, _, _, .nil, e => by cases e; rfl
 | _, _, ns, .cons a b, e => by
  cases a with
  | bl i =>
   rename_i ds
   unfold blsOf at e
   cases q : blsOf ds with
   | none => rw [q] at e; cases e
   | some ms =>
    rw [q] at e
    cases e
    rw [da_bls b q]
    rfl
  | _ => cases e
noncomputable def maxL : List Int → Int
 | [] => 0
 | [x] => x
 | x :: r => if maxL r > x then maxL r else x
theorem maxL_is : ∀ {ns : List Int}, ns ≠ [] → maxL ns ∈ ns ∧ ∀ y ∈ ns, y ≤ maxL ns
 | [], h => (h rfl).elim
 | [x], _ => ⟨List.mem_singleton.mpr rfl, fun y hy => by rw [List.mem_singleton.mp hy]; exact Int.le_refl _⟩
 | x :: y :: r, _ => by
  obtain ⟨h1, h2⟩ := maxL_is (ns := y :: r) (by intro e; cases e)
  show (if maxL (y :: r) > x then maxL (y :: r) else x) ∈ _ ∧ ∀ u ∈ _, u ≤ (if maxL (y :: r) > x then maxL (y :: r) else x)
  by_cases hc : maxL (y :: r) > x
  ·rw [if_pos hc]
   exact ⟨List.mem_cons_of_mem _ h1, fun u hu => by
    rcases List.mem_cons.mp hu with rfl | hu
    ·exact Int.le_of_lt hc
    ·exact h2 u hu⟩
  ·rw [if_neg hc]
   exact ⟨List.mem_cons_self, fun u hu => by
    rcases List.mem_cons.mp hu with rfl | hu
    ·exact Int.le_refl _
    ·exact Int.le_trans (h2 u hu) (Int.not_lt.mp hc)⟩
noncomputable def fLen : List D → Option R := fun as => match as with
 | [.tup xs] => some (.d (.int xs.length))
 | [.lst xs] => some (.d (.int xs.length))
 | [.scr xs] => some (.d (.int xs.length))
 | [.str z] => if z.length ≤ lim then some (.d (.int z.length)) else none
 | _ => none
noncomputable def fMax : List D → Option R := fun as => match as with
 | [.int i, .int j] => some (.d (.int (if j > i then j else i)))
 | [.lst xs] => (match intsOf xs with
  | some (n :: ns) => some (.d (.int (maxL (n :: ns))))
  | _ => none)
 | _ => none
noncomputable def fSum : List D → Option R := fun as => match as with
 | [.lst xs] => (intsOf xs).map fun ns => .d (.int ns.sum)
 | _ => none
noncomputable def fAll : List D → Option R := fun as => match as with
 | [.lst xs] => (blsOf xs).map fun ns => .d (.bl (ns.all id))
 | _ => none
noncomputable def fInt : List D → Option R := fun as => match as with
 | [.int i] => some (.d (.int i))
 | [.bl k] => some (.d (.int (if k then 1 else 0)))
 | _ => none
noncomputable def fStr : List D → Option R := fun as => match as with
 | [.int i] => if i.natAbs.log2 < 1920 then some (.d (.str (toString i))) else none
 | _ => none
noncomputable def fTuple : List D → Option R := fun as => match as with
 | [.tup xs] => some (.t xs)
 | [.lst xs] => some (.t xs)
 | _ => none
section
variable {K : PySem.W.Frag}
noncomputable def rLenAll (K : PySem.W.Frag) : List V → Hp → VK → Prop := fun xs H Q => (∃ p ys, xs = [.ref p] ∧ (SqL K H p ys ∨ SqT K H p ys) ∧ Q (.int ys.length) H) ∨ ∃ z, xs = [.str z] ∧ z.length ≤ sizeLine ∧ Q (.int z.length) H
theorem lenAll {X : Cx} : CallR X (.builtin "len") (rLenAll X.K) := call_len_seq.or call_len_str
theorem p1 {P : V → D → Prop} {xs : List V} {a : D} (h : Paired P xs [a]) : ∃ x, xs = [x] ∧ P x a := by
 cases h with
 | cons r t => cases t; exact ⟨_, rfl, r⟩
theorem p2 {P : V → D → Prop} {xs : List V} {a b : D} (h : Paired P xs [a, b]) : ∃ x y, xs = [x, y] ∧ P x a ∧ P y b := by
 cases h with
 | cons r t =>
  obtain ⟨y, rfl, q⟩ := p1 t
  exact ⟨_, _, rfl, r, q⟩
theorem opn_len : OpN K (rLenAll K) fLen := by
 intro F H xs as Q s hp h
 unfold fLen at h
 split at h
 ·obtain ⟨x, rfl, r⟩ := p1 hp
  obtain ⟨a, vs, rfl, h1, h2⟩ := r.tup s
  exact .inl ⟨a, vs, rfl, .inr h1, by rw [h2.length]; exact h _ (.int _)⟩
 ·obtain ⟨x, rfl, r⟩ := p1 hp
  obtain ⟨a, vs, rfl, h1, h2⟩ := r.lst s
  exact .inl ⟨a, vs, rfl, .inl (SqL.of h1), by rw [h2.length]; exact h _ (.int _)⟩
 ·obtain ⟨x, rfl, r⟩ := p1 hp
  obtain ⟨a, rfl, h1⟩ := r.scr s
  exact .inl ⟨a, _, rfl, .inl h1, by rw [List.length_map]; exact h _ (.int _)⟩
 ·rename_i z
  obtain ⟨x, rfl, r⟩ := p1 hp
  by_cases hl : z.length ≤ lim
  ·rw [if_pos hl] at h
   exact .inr ⟨z, by rw [r.str], limLe hl, h _ (.int _)⟩
  ·rw [if_neg hl] at h; exact h.elim
 ·exact h.elim
noncomputable def rMaxAll (K : PySem.W.Frag) : List V → Hp → VK → Prop := fun xs H Q => (∃ i j, xs = [.int i, .int j] ∧ Q (.int (if j > i then j else i)) H) ∨ rMax K xs H Q
theorem maxAll {X : Cx} (hc : X.calm = true) : CallR X (.builtin "max") (rMaxAll X.K) := (call_max2 hc).or (cr_max hc)
theorem opn_max : OpN K (rMaxAll K) fMax := by
 intro F H xs as Q s hp h
 unfold fMax at h
 split at h
 ·obtain ⟨x, y, rfl, r1, r2⟩ := p2 hp
  exact .inl ⟨_, _, by rw [r1.int, r2.int], h _ (.int _)⟩
 ·rename_i ds
  obtain ⟨x, rfl, r⟩ := p1 hp
  obtain ⟨a, vs, rfl, h1, h2⟩ := r.lst s
  split at h
  ·rename_i n ns e
   have q := da_ints h2 e
   subst q
   refine .inr ⟨a, n :: ns, rfl, SqL.of h1, Nat.succ_pos _, fun m hm hy => ?_⟩
   obtain ⟨g1, g2⟩ := maxL_is (ns := n :: ns) (by intro e; cases e)
   have em : m = maxL (n :: ns) := Int.le_antisymm (g2 m hm) (hy _ g1)
   rw [em]
   exact h _ (.int _)
  ·exact h.elim
 ·exact h.elim
theorem opn_sum : OpN K (rSum K) fSum := by
 intro F H xs as Q s hp h
 unfold fSum at h
 split at h
 ·rename_i ds
  obtain ⟨x, rfl, r⟩ := p1 hp
  obtain ⟨a, vs, rfl, h1, h2⟩ := r.lst s
  cases e : intsOf ds with
  | none => rw [e] at h; exact h.elim
  | some ns =>
   rw [e] at h
   have q := da_ints h2 e
   subst q
   exact ⟨a, ns, rfl, SqL.of h1, h _ (.int _)⟩
 ·exact h.elim
theorem opn_all : OpN K (rAll K) fAll := by
 intro F H xs as Q s hp h
 unfold fAll at h
 split at h
 ·rename_i ds
  obtain ⟨x, rfl, r⟩ := p1 hp
  obtain ⟨a, vs, rfl, h1, h2⟩ := r.lst s
  cases e : blsOf ds with
  | none => rw [e] at h; exact h.elim
  | some ns =>
   rw [e] at h
   have q := da_bls h2 e
   subst q
   exact ⟨a, ns, rfl, SqL.of h1, h _ (.bl _)⟩
 ·exact h.elim
noncomputable def rInt1 : List V → Hp → VK → Prop := fun xs H Q => (∃ i, xs = [.int i] ∧ Q (.int i) H) ∨ ∃ k, xs = [.bl k] ∧ Q (.int (if k then 1 else 0)) H
theorem opn_int : OpN K rInt1 fInt := by
 intro F H xs as Q s hp h
 unfold fInt at h
 split at h
 ·obtain ⟨x, rfl, r⟩ := p1 hp
  exact .inl ⟨_, by rw [r.int], h _ (.int _)⟩
 ·obtain ⟨x, rfl, r⟩ := p1 hp
  exact .inr ⟨_, by rw [r.bl], h _ (.int _)⟩
 ·exact h.elim
noncomputable def rStr1 : List V → Hp → VK → Prop := fun xs H Q => ∃ i, xs = [.int i] ∧ i.natAbs.log2 < 1920 ∧ Q (.str (toString i)) H
theorem opn_str : OpN K rStr1 fStr := by
 intro F H xs as Q s hp h
 unfold fStr at h
 split at h
 ·rename_i i
  obtain ⟨x, rfl, r⟩ := p1 hp
  by_cases hl : i.natAbs.log2 < 1920
  ·rw [if_pos hl] at h
   exact ⟨i, by rw [r.int], hl, h _ (.str _)⟩
  ·rw [if_neg hl] at h; exact h.elim
 ·exact h.elim
noncomputable def rTupleOf (K : PySem.W.Frag) : List V → Hp → VK → Prop := fun xs H Q => ∃ p ys, xs = [.ref p] ∧ ((SqL K H p ys ∧ ∀ l, H l = none → Q (.ref l) (upd H l (.tup ys))) ∨ (SqT K H p ys ∧ Q (.ref p) H))
theorem opn_tuple : OpN K (rTupleOf K) fTuple := by
 intro F H xs as Q s hp h
 unfold fTuple at h
 split at h
 ·obtain ⟨x, rfl, r⟩ := p1 hp
  obtain ⟨a, vs, rfl, h1, h2⟩ := r.tup s
  exact ⟨a, vs, rfl, .inr ⟨h1, h.1 _ (r.da (fun _ e => by cases e))⟩⟩
 ·obtain ⟨x, rfl, r⟩ := p1 hp
  obtain ⟨a, vs, rfl, h1, h2⟩ := r.lst s
  exact ⟨a, vs, rfl, .inl ⟨SqL.of h1, fun l hl => h.2 l vs hl h2⟩⟩
 ·exact h.elim
end
noncomputable def tyD : D → String
 | .non => "NoneType"
 | .bl _ => "bool"
 | .int _ => "int"
 | .str _ => "str"
 | .tup _ => "tuple"
 | .lst _ => "list"
 | .scr _ => "list"
 | .emp => "dict"
 | .exc _ _ => "object"
 | .o _ => "object"
noncomputable def notScr : D → Bool
 | .scr _ => false
 | .exc _ _ => false
 | .o _ => false
 | _ => true
noncomputable def dIsi (T : String) : D → Option R := fun a => (kitB (tyD a) T).map fun b => .d (.bl b)
theorem Rv.ty {K : PySem.W.Frag} {F H : Hp} {v : V} {d : D} (s : SameX F H) (h : Rv K F H v d) (hs : notScr d = true) : TyX K H v (.type (tyD d)) := by
 cases d with
 | non => rw [h.non]; exact .base .non
 | bl b => rw [h.bl]; exact .base (.bl b)
 | int i => rw [h.int]; exact .base (.int i)
 | str x => rw [h.str]; exact .base (.str x)
 | tup xs =>
  obtain ⟨a, vs, rfl, h1, h2⟩ := h.tup s
  rcases h1 with (h1 | ⟨o, h1⟩) | ⟨o, its, n, h1, h2, _⟩
  ·exact .base (.tup h1)
  ·exact .fTuple h1
  ·exact .kTuple h1 h2
 | lst xs =>
  obtain ⟨a, vs, rfl, h1, h2⟩ := h.lst s
  exact .base (.lst h1)
 | scr ns => cases hs
 | exc _ _ => cases hs
 | o _ => cases hs
 | emp =>
  obtain ⟨a, rfl, h1⟩ := h.emp s
  exact .base (.dK h1)
end G
namespace G
open PySem L2
section
variable {ι : Type} {M : MI} {xr : Str → Option Value} {K : PySem.W.Frag} {X : ι → Cx} {W : WX} {a b : Expr} {f f' : Sm M S} {pos : Pos}
structure Pl (K : PySem.W.Frag) (X : ι → Cx) (N : List Str) (mg : Str → Option Value) : Prop where
  k : ∀ j, (X j).K = K
  c : ∀ j, (X j).calm = true
  n : ∀ j, (X j).N = N
  nd : N.Nodup
  g : ∀ j, (X j).mg = mg
  u : ∀ j, (X j).A.units + 300 < cLine
variable {N : List Str} {mg : Str → Option Value}
theorem Pl.nds (p : Pl K X N mg) : ∀ j, (X j).N.Nodup := fun j => by rw [p.n j]; exact p.nd
theorem Pl.blk (p : Pl K X N mg) (scope : Scope) : Pl K (Blk X scope) N mg := ⟨fun q => p.k q.1, fun q => p.c q.1, fun q => p.n q.1, p.nd, fun q => p.g q.1, fun q => p.u q.1⟩
theorem de_add (p : Pl K X N mg) (ha : DE M xr K X W a f) (hb : DE M xr K X W b f') : DE M xr K X W (.BinOp a .Add b pos) (eBin dAdd f f') := de_bin (fun j => by rw [← p.k j]; exact opAdd) op2_add ha hb
theorem de_sub (ha : DE M xr K X W a f) (hb : DE M xr K X W b f') : DE M xr K X W (.BinOp a .Sub b pos) (eBin dSub f f') := de_bin (fun j => op_sub) (op2_I0 fun _ _ _ => .int _) ha hb
theorem de_mul (ha : DE M xr K X W a f) (hb : DE M xr K X W b f') : DE M xr K X W (.BinOp a .Mult b pos) (eBin dMul f f') := de_bin (fun j => op_mul) (op2_I (fun i j h => show (-(2 ^ 64) < i ∧ i < 2 ^ 64) ∨ (-(2 ^ 64) < j ∧ j < 2 ^ 64) from of_decide_eq_true h) fun _ _ _ => .int _) ha hb
theorem de_fdiv (ha : DE M xr K X W a f) (hb : DE M xr K X W b f') : DE M xr K X W (.BinOp a .FloorDiv b pos) (eBin dFdiv f f') := de_bin (fun j => op_fdiv) (op2_I (fun i j h => show 0 < j ∧ j < 1073741824 from of_decide_eq_true h) fun _ _ _ => .int _) ha hb
theorem de_mod (ha : DE M xr K X W a f) (hb : DE M xr K X W b f') : DE M xr K X W (.BinOp a .Mod b pos) (eBin dMod f f') := de_bin (fun j => op_mod) (op2_I (fun _ _ h => of_decide_eq_true h) fun _ _ _ => .int _) ha hb
theorem de_pow (ha : DE M xr K X W a f) (hb : DE M xr K X W b f') : DE M xr K X W (.BinOp a .Pow b pos) (eBin dPow f f') := de_bin (fun j => op_pow) (op2_I (fun i j h => show 0 ≤ j ∧ j ≤ 1000000 ∧ i.natAbs < 2 ^ 64 from of_decide_eq_true h) fun _ _ _ => .int _) ha hb
theorem op1_neg : Op1 K (rU fun i => .int (-i)) dNeg := by
 intro F H x a Q s ha h
 cases a with
 | int i => exact ⟨i, ha.int, h _ (.int _)⟩
 | _ => exact h.elim
theorem de_neg (ha : DE M xr K X W a f) : DE M xr K X W (.UnaryOp .USub a pos) (eUn dNeg f) := de_un (fun j => un_neg) op1_neg ha
inductive Cp (K : PySem.W.Frag) (X : ι → Cx) : CmpOp → (D → D → Option R) → Prop
  | mk {op : CmpOp} {g : D → D → Option R} (r : R2) (ho : ∀ j, OpR (X j) (compareOp op) r) (hd : Op2 K r g) : Cp K X op g
theorem Cp.de {op : CmpOp} {g : D → D → Option R} (c : Cp K X op g) (ha : DE M xr K X W a f) (hb : DE M xr K X W b f') (hm : behindInMarks op b = false) : DE M xr K X W (.Compare a [op] [b] pos) (eBin g f f') := by
 cases c with
 | mk r ho hd => exact de_cmp ho hd ha hb hm
theorem Cp.dt {op : CmpOp} {g : D → D → Option R} (c : Cp K X op g) (ha : DE M xr K X W a f) (hb : DE M xr K X W b f') (hm : behindInMarks op b = false) : DT M xr K X W (.Compare a [op] [b] pos) (tOf (eBin g f f')) := by
 cases c with
 | mk r ho hd => exact dt_cmp ho hd ha hb hm
theorem cp_lt : Cp K X .Lt dLt := ⟨_, fun j => op_lt, op2_I0 fun _ _ _ => .bl _⟩
theorem cp_le : Cp K X .LtE dLe := ⟨_, fun j => op_le, op2_I0 fun _ _ _ => .bl _⟩
theorem cp_gt : Cp K X .Gt dGt := ⟨_, fun j => op_gt, op2_I0 fun _ _ _ => .bl _⟩
theorem cp_ge : Cp K X .GtE dGe := ⟨_, fun j => op_ge, op2_I0 fun _ _ _ => .bl _⟩
theorem cp_eq (p : Pl K X N mg) : Cp K X .Eq dEq := ⟨rEqW K, fun j => by rw [← p.k j]; exact op_eqW (p.u j), op2_eq⟩
theorem cp_ne (p : Pl K X N mg) : Cp K X .NotEq dNe := ⟨rNeW K, fun j => by rw [← p.k j]; exact op_neW (p.u j), op2_ne⟩
theorem cp_is : Cp K X .Is dIs := ⟨_, fun j => opIs, op2_is⟩
theorem cp_isNot : Cp K X .IsNot dIsNot := ⟨_, fun j => opIsNot, op2_isNot⟩
theorem cp_in (p : Pl K X N mg) : Cp K X .In dIn := ⟨rInAll K, fun j => by rw [← p.k j]; exact opIn, op2_in⟩
theorem cp_notIn (p : Pl K X N mg) : Cp K X .NotIn dNotIn := ⟨rNotInAll K, fun j => by rw [← p.k j]; exact opNotIn, op2_notIn⟩
noncomputable def eChain (g g' : D → D → Option R) (f f' f'' : Sm M S) (z : Z M.T) : Rs S (Z M.T) := (opd f z).bind fun s z1 => (opd f' z1).bind fun s' z2 => (fin ((rd z2 s).bind fun x => (rd z2 s').bind fun y => g x y) z2).bind fun r z3 => match r with
 | .d (.bl true) => (opd f'' z3).bind fun s'' z4 => fin ((rd z4 s').bind fun x => (rd z4 s'').bind fun y => g' x y) z4
 | .d (.bl false) => .ok (.d (.bl false)) z3
 | _ => .bad
theorem de_ixA (p : Pl K X N mg) (ha : DE M xr K X W a f) (hb : DE M xr K X W b f') (hs : PlainIx b := by exact fun _ _ => rfl) : DE M xr K X W (.Subscript a b pos) (eBin dIx f f') := de_ix (fun j => by rw [← p.k j]; exact ix_seq) op2_ix ha hb hs
theorem de_sl {lo hi : Option Expr} {fl fh : Sm M (Option Int)} {p2 : Pos} (p : Pl K X N mg) (h : DE M xr K X W a f) (hl : DO M xr K X W lo fl) (hh : DO M xr K X W hi fh) : DE M xr K X W (.Subscript a (.Slice lo hi none p2) pos) (eSl dSl f fl fh) := de_slice (fun j => by rw [← p.k j]; exact slAll) ops_sl h hl hh
inductive Fb (K : PySem.W.Frag) (X : ι → Cx) : Str → (List D → Option R) → Prop
  | fn {x : Str} {g : List D → Option R} (id : String) (r : List V → Hp → VK → Prop) (hc : ∀ j, CallR (X j) (.builtin id) r) (hd : OpN K r g) (hv : bootBuiltins x = some (.builtin id)) (hn : x ≠ "__name__") (hb : (x == ("__debug__" : Str)) = false) : Fb K X x g
  | ty {x : Str} {g : List D → Option R} (T : String) (r : List V → Hp → VK → Prop) (hc : ∀ j, CallR (X j) (.type T) r) (hd : OpN K r g) (hv : bootBuiltins x = some (.type T)) (hn : x ≠ "__name__") (hb : (x == ("__debug__" : Str)) = false) : Fb K X x g
theorem Fb.de {x : Str} {g : List D → Option R} (c : Fb K X x g) {e : Expr} {es : List Expr} {h : Sm M (List S)} {pp : Pos} (p : Pl K X N mg) (hm : mg x = none) (ha : DA M xr K X W (e :: es) h) (hg : ∀ j, Gl (X j) x := by intro _; rfl)
  (he : ∀ j, starEach (e :: es) (X j).env = (false, eval e (X j).env) :: starEach es (X j).env := by intro _; rfl) (hpl : ∀ j, (backTo pos (starEach es (X j).env)).any (·.1) = false := by intro _; rfl) : DE M xr K X W (.Call (.Name x pp) (e :: es) [] pos) (eFn g h) := by
 cases c with
 | fn id r hc hd hv hn hb => exact de_callB hc hd hg (fun j => by rw [p.g j]; exact hm) hv ha hn hb he hpl
 | ty T r hc hd hv hn hb => exact de_callTy hc hd hg (fun j => by rw [p.g j]; exact hm) hv ha hn hb he hpl
theorem fb_len (p : Pl K X N mg) : Fb K X "len" fLen := .fn "len" (rLenAll K) (fun j => by rw [← p.k j]; exact lenAll) opn_len boot_len (by decide) (by decide)
theorem fb_max (p : Pl K X N mg) : Fb K X "max" fMax := .fn "max" (rMaxAll K) (fun j => by rw [← p.k j]; exact maxAll (p.c j)) opn_max PyProof.Rows.boot_max (by decide) (by decide)
theorem fb_sum (p : Pl K X N mg) : Fb K X "sum" fSum := .fn "sum" (rSum K) (fun j => by rw [← p.k j]; exact cr_sum (p.c j)) opn_sum PyProof.Rows.boot_sum (by decide) (by decide)
theorem fb_all (p : Pl K X N mg) : Fb K X "all" fAll := .fn "all" (rAll K) (fun j => by rw [← p.k j]; exact cr_all (p.c j)) opn_all PyProof.Rows.boot_all (by decide) (by decide)
theorem fb_int : Fb K X "int" fInt := .ty "int" rInt1 (fun j => call_int1) opn_int PyProof.Rows.boot_int (by decide) (by decide)
theorem fb_str : Fb K X "str" fStr := .ty "str" rStr1 (fun j => call_str_int) opn_str PyProof.Rows.boot_str (by decide) (by decide)
theorem fb_tuple (p : Pl K X N mg) : Fb K X "tuple" fTuple := .ty "tuple" (rTupleOf K) (fun j => by rw [← p.k j]; exact call_tuple_of) opn_tuple PyProof.Rows.boot_tuple (by decide) (by decide)
noncomputable def dIsiN (T : String) : D → Option R := fun x => if notScr x = true then dIsi T x else none
theorem de_isi {T : Str} {t : String} {e : Expr} {pp pt : Pos} {g : Sm M S} (p : Pl K X N mg) (hm : mg "isinstance" = none) (hmT : mg T = none) (hvT : bootBuiltins T = some (.type t)) (h : DE M xr K X W e g) (hg : ∀ j, Gl (X j) "isinstance" := by intro _; rfl) (hgT : ∀ j, Gl (X j) T := by intro _; rfl) (hnT : T ≠ "__name__" := by decide) (hbT : (T == ("__debug__" : Str)) = false := by decide)
  (he : ∀ j, starEach [e, .Name T pt] (X j).env = (false, eval e (X j).env) :: starEach [.Name T pt] (X j).env := by intro _; rfl) (he2 : ∀ j, starEach [.Name T pt] (X j).env = (false, eval (.Name T pt) (X j).env) :: starEach [] (X j).env := by intro _; rfl) (hpl : ∀ j, (backTo pos (starEach [.Name T pt] (X j).env)).any (·.1) = false := by intro _; rfl) :
  DE M xr K X W (.Call (.Name "isinstance" pp) [e, .Name T pt] [] pos) (eUn (dIsiN t) g) := by
 obtain ⟨tt, pe, c⟩ := h
 refine ⟨tCB (rIsi K) (tCons tt (tCons (tC (.ty t)) tNil)), fun j => ?_, fun G σ H F z Q hK hx ok hh => ?_⟩
 ·rw [← p.k j]
  exact pe_callB call_isi (hg j) (by rw [p.g j]; exact hm) PyProof.Rows.boot_isinstance (pa_cons (pe j) (pa_cons (pe_bltn (v := .ty t) (hgT j) (by rw [p.g j]; exact hmT) hvT rfl hnT hbT) pa_nil (he2 j)) (he j)) (by decide) (by decide) (he j) (hpl j)
 ·refine cmp_opd c G σ H F z _ hK hx ok (hit_bind hh fun s z1 v H1 F1 _ sm1 ok1 e1 h1 => ?_)
  have q := fin_hit ok1 h1
  cases er : rd z1 s with
  | none => rw [er] at q; exact q.elim
  | some x =>
   rw [er] at q
   have q' : Hit0 G.K F1 H1 (dIsiN t x) Q := q
   unfold dIsiN at q'
   by_cases hn : notScr x = true
   ·rw [if_pos hn] at q'
    unfold dIsi at q'
    cases ek : kitB (tyD x) t with
    | none => rw [ek] at q'; exact q'.elim
    | some b =>
     rw [ek] at q'
     have ty := (EO.rv ok1 e1 er).ty ok1.sub hn
     exact ⟨v, .ty t, .type (tyD x), .type t, b, rfl, .ty t, by rw [← hK]; exact ty, kit_ty ek, q' _ (.bl b)⟩
   ·rw [if_neg hn] at q'; exact q'.elim
noncomputable def dTru : D → Option Bool := fun a => match a with
 | .non => some false
 | .bl b => some b
 | .int i => some (i != 0)
 | .str z => if z.length ≤ lim then some ((z.length : Int) != 0) else none
 | .tup xs => some (!xs.isEmpty)
 | .lst xs => some (!xs.isEmpty)
 | .scr xs => some (!xs.isEmpty)
 | .emp => none
 | .exc _ _ => none
 | .o _ => none
theorem da_empty {K : PySem.W.Frag} {F : Hp} {vs : List V} {ds : List D} (h : DaAll K F vs ds) : (!vs.isEmpty) = !ds.isEmpty := by
 cases h <;> rfl
theorem tru_rv {F H : Hp} {v : V} {d : D} {k : Bool} (s : SameX F H) (h : Rv K F H v d) (e : dTru d = some k) : TruV K v H k := by
 cases d with
 | non => cases e; rw [h.non]; rfl
 | bl b => cases e; rw [h.bl]; rfl
 | int i => cases e; rw [h.int]; rfl
 | str z =>
  unfold dTru at e
  by_cases hl : z.length ≤ lim
  ·simp only [if_pos hl] at e
   cases e
   rw [h.str]
   exact ⟨limLe hl, rfl⟩
  ·simp only [if_neg hl] at e
   cases e
 | tup xs =>
  cases e
  obtain ⟨a, vs, rfl, h1, h2⟩ := h.tup s
  exact .inr (.inl ⟨vs, h1, (da_empty h2).symm⟩)
 | lst xs =>
  cases e
  obtain ⟨a, vs, rfl, h1, h2⟩ := h.lst s
  exact .inl ⟨vs, SqL.of h1, (da_empty h2).symm⟩
 | scr xs =>
  cases e
  obtain ⟨a, rfl, h1⟩ := h.scr s
  exact .inl ⟨_, h1, by cases xs <;> rfl⟩
 | emp => cases e
 | exc _ _ => cases e
 | o _ => cases e
theorem dt_tru {e : Expr} {g : Sm M S} (p : Pl K X N mg) (h : DE M xr K X W e g) (he : ∀ j whole, isTrue e (X j).env whole = (do let v ← whole; standAt e.pos; holding [v] (truthy v)) := by intro _ _; rfl) : DT M xr K X W e (tTru dTru g) := by
 obtain ⟨t, pe, c⟩ := h
 refine ⟨fun σ H Q => t σ H fun x H1 => ∃ k, TruV K x H1 k ∧ Q k H1, fun j => ?_, fun G σ H F z Q hK hx ok hh => ?_⟩
 ·rw [← p.k j]
  exact pt_truth (pe j) (he j)
 ·refine cmp_opd c G σ H F z _ hK hx ok (hit_bind hh fun s z1 v H1 F1 _ sm1 ok1 e1 h1 => ?_)
  cases er : rd z1 s with
  | none => rw [er] at h1; exact h1.elim
  | some x =>
   rw [er] at h1
   have h2 : HitG M G W σ F1 (RelB G σ) (Rs.opt (dTru x) z1) Q := h1
   cases ek : dTru x with
   | none => rw [ek] at h2; exact h2.elim
   | some k =>
    rw [ek] at h2
    exact ⟨k, by rw [← hK]; exact tru_rv ok1.sub (EO.rv ok1 e1 er) ek, h2 k H1 F1 (Same.refl _) ok1 rfl⟩
noncomputable def iAny (K : PySem.W.Frag) (tl : TE) : TI := fun σ H R => tl σ H fun x H1 => (∃ a, x = .ref a ∧ (∃ xs, SqL K H1 a xs) ∧ R (Itl K a) H1) ∨ (∃ a, x = .ref a ∧ (∃ xs, SqT K H1 a xs) ∧ R (Itt K a) H1) ∨ ∃ y, x = .str y ∧ R (Its y) H1
theorem pi_any {Y : Cx} {tg l : Expr} {tl : TE} (hl : PE Y l tl) : PI Y tg l (iAny Y.K tl) := by
 refine ⟨fun pins s σ H R I h => ?_⟩
 refine thn (hl.run pins s σ H _ I h) fun v s1 ⟨x, H1, I1, r1, q1⟩ => ?_
 rcases q1 with ⟨a, rfl, ⟨xs, hq⟩, q⟩ | ⟨a, rfl, ⟨xs, hq⟩, q⟩ | ⟨y, rfl, q⟩
 ·cases r1
  obtain ⟨its, rv, p, hz⟩ := I1.list hq
  exact wpAny_pyIter_list p.isList (pi_one (tk := s1.toks) I1 _ (turn_list a _) ⟨_, Heap.get?_push_size _ rfl, rfl, rfl⟩ q)
 ·cases r1
  obtain ⟨its, rv, p, hz⟩ := I1.tuple hq
  exact wpAny_pyIter_tuple (show s1.heap.IsTuple a its.toArray from p) (pi_one (tk := s1.toks) I1 _ (turn_tuple a _) ⟨_, Heap.get?_push_size _ rfl, rfl, rfl⟩ q)
 ·obtain ⟨t, rfl⟩ := r1
  cases ha : y.cps.all (· < 128)
  ·exact wpAny_pyIter_wide ha (pi_one (tk := s1.toks) I1 _ (turn_str _ y t "str_iterator" (.inr rfl)) ⟨_, Heap.get?_push_size _ rfl, rfl, rfl⟩ q)
  ·exact wpAny_pyIter_ascii ha (pi_one (tk := s1.toks) I1 _ (turn_str _ y t "str_ascii_iterator" (.inl rfl)) ⟨_, Heap.get?_push_size _ rfl, rfl, rfl⟩ q)
noncomputable def itemsD : D → Option (List D)
 | .lst xs => some xs
 | .tup xs => some xs
 | .scr ns => some (ns.map D.int)
 | .str z => some (z.cps.toList.map fun c => .str ⟨#[c]⟩)
 | _ => none
noncomputable def iAnyM (f : Sm M S) (z : Z M.T) : Rs (List D) (Z M.T) := (escf f z).bind fun s z1 => match s with
 | .d x => Rs.opt (itemsD x) z1
 | _ => .bad
theorem yd_old {F : Hp} {ds : List D} {i : Nat} {H : Hp} {v : V} {d : D} (hd : ds[i]? = some d) (da : Da K F v d) : YD K F ds i H v H := ⟨d, hd, fun F1 s1 s2 _ => ⟨F1, Same.refl _, s2, fun b o e => ⟨e, rfl⟩, fun _ _ e => e, da.mono s1⟩⟩
theorem di_any {tg l : Expr} {g : Sm M S} (p : Pl K X N mg) (h : DE M xr K X W l g) : DI M xr K X W tg l (iAnyM g) := by
 obtain ⟨t, pe, c⟩ := h
 refine ⟨iAny K t, fun j => by rw [← p.k j]; exact pi_any (pe j), fun G σ H F z Q hK hx ok hh => ?_⟩
 refine cmp_esc c G σ H F z _ hK hx ok (hit_bind hh fun s z1 v H1 F1 _ sm ok1 ev h1 => ?_)
 subst hK
 cases s with
 | d x =>
  have ev' : Da G.K F1 v x := ev
  cases x with
  | lst xs =>
   cases ev' with
   | lst q r =>
    rename_i a vs
    refine .inl ⟨a, rfl, ⟨vs, SqL.of (ok1.sub.lst q)⟩, h1 _ H1 F1 (Same.refl _) ok1 ?_⟩
    have w := (walk_list (K := G.K) (a := a) (xs := vs)).mono (G' := fun H => SameX F1 H) (Y' := YD G.K F1 xs) (fun H s => SqL.of (s.lst q)) (fun i H x H' hi _ ⟨e1, e2⟩ => by
     obtain ⟨d, hd, da⟩ := r.getV e2
     rw [e1]
     exact yd_old hd da)
    rw [r.length] at w
    exact w
  | tup xs =>
   cases ev' with
   | tup q r =>
    rename_i a vs
    refine .inr (.inl ⟨a, rfl, ⟨vs, ok1.sub.tup q⟩, h1 _ H1 F1 (Same.refl _) ok1 ?_⟩)
    have w := (walk_tup (K := G.K) (a := a) (xs := vs)).mono (G' := fun H => SameX F1 H) (Y' := YD G.K F1 xs) (fun H s => s.tup q) (fun i H x H' hi _ ⟨e1, e2⟩ => by
     obtain ⟨d, hd, da⟩ := r.getV e2
     rw [e1]
     exact yd_old hd da)
    rw [r.length] at w
    exact w
  | scr ns =>
   cases ev' with
   | scr q =>
    rename_i a
    refine .inl ⟨a, rfl, ⟨_, ok1.sub.seq q⟩, h1 _ H1 F1 (Same.refl _) ok1 ?_⟩
    have w := (walk_list (K := G.K) (a := a) (xs := ns.map V.int)).mono (G' := fun H => SameX F1 H) (Y' := YD G.K F1 (ns.map D.int)) (fun H s => s.seq q) (fun i H x H' hi _ ⟨e1, e2⟩ => by
     obtain ⟨d, hd, da⟩ := (DaAll.ints (K := G.K) (F := F1) ns).getV e2
     rw [e1]
     exact yd_old hd da)
    rw [List.length_map] at w
    show Walk _ (ns.map D.int).length _ _
    rw [List.length_map]
    exact w
  | str y =>
   cases ev'
   refine .inr (.inr ⟨y, rfl, h1 _ H1 F1 (Same.refl _) ok1 ?_⟩)
   have w := (walk_str (z := y)).mono (G' := fun H => SameX F1 H) (Y' := YD G.K F1 (y.cps.toList.map fun c => D.str ⟨#[c]⟩)) (fun H s => trivial) (fun i H x H' hi _ ⟨e1, c, e2, e3⟩ => by
    rw [e1, e3]
    exact yd_old (by rw [List.getElem?_map, Array.getElem?_toList, e2]; rfl) (.str _))
   show Walk _ (y.cps.toList.map fun c => D.str ⟨#[c]⟩).length _ _
   rw [List.length_map, Array.length_toList]
   exact w
  | _ => exact h1.elim
 | _ => exact h1.elim
noncomputable def rangeD (lo : Int) (n : Nat) : List D := (List.range n).map fun (i : Nat) => D.int (lo + (i : Int))
noncomputable def iRg1M (g : Sm M (List S)) (z : Z M.T) : Rs (List D) (Z M.T) := (g z).bind fun ss z1 => match ss with
 | [.d (.int j)] => if -(2 ^ 62) ≤ j ∧ j < 2 ^ 62 then .ok (rangeD 0 j.toNat) z1 else .bad
 | _ => .bad
theorem wk_range {F : Hp} (lo : Int) (n : Nat) : Wk K F (Itr lo n) (rangeD lo n) := by
 have w := (walk_range (lo := lo) (n := n)).mono (G' := fun H => SameX F H) (Y' := YD K F (rangeD lo n)) (fun H s => trivial) (fun i H x H' hi _ ⟨e1, e2⟩ => by
  rw [e1, e2]
  refine yd_old (d := .int (lo + (i : Int))) ?_ (.int _)
  unfold rangeD
  rw [List.getElem?_map, List.getElem?_range hi]
  rfl)
 unfold Wk
 have e : (rangeD lo n).length = n := by
  unfold rangeD
  rw [List.length_map, List.length_range]
 rw [e]
 exact w
theorem di_range1 {tg e : Expr} {g : Sm M (List S)} {pp : Pos} (p : Pl K X N mg) (hm : mg "range" = none) (ha : DA M xr K X W [e] g) (hg : ∀ j, Gl (X j) "range" := by intro _; rfl) (hs : ∀ j, starEach [e] (X j).env = [(false, eval e (X j).env)] := by intro _; rfl) : DI M xr K X W tg (.Call (.Name "range" pp) [e] [] pos) (iRg1M g) := by
 obtain ⟨t, pa, c⟩ := ha
 refine ⟨_, fun j => pi_range1 (hg j) (by rw [p.g j]; exact hm) (pa j) (hs j), fun G σ H F z Q hK hx ok hh => ?_⟩
 refine c G σ H F z _ hK hx ok (hit_bind hh fun ss z1 vs H1 F1 _ sm ok1 ea h1 => ?_)
 unfold RelA at ea
 match ss, ea, h1 with
 | [.d (.int j)], ea, h1 =>
  by_cases hj : -(2 ^ 62) ≤ j ∧ j < 2 ^ 62
  ·simp only [if_pos hj] at h1
   cases ea with
   | cons r t =>
    cases t
    cases (show Da G.K F1 _ (.int j) from r)
    exact ⟨j, rfl, hj.1, hj.2, h1 _ H1 F1 (Same.refl _) ok1 (wk_range 0 j.toNat)⟩
  ·simp only [if_neg hj] at h1
   exact h1.elim
 | [], _, h1 => exact h1.elim
 | [.l _], _, h1 => exact h1.elim
 | [.v _], _, h1 => exact h1.elim
 | [.m _], _, h1 => exact h1.elim
 | [.d .non], _, h1 => exact h1.elim
 | [.d (.bl _)], _, h1 => exact h1.elim
 | [.d (.str _)], _, h1 => exact h1.elim
 | [.d (.tup _)], _, h1 => exact h1.elim
 | [.d (.lst _)], _, h1 => exact h1.elim
 | [.d (.scr _)], _, h1 => exact h1.elim
 | [.d .emp], _, h1 => exact h1.elim
 | [.d (.exc _ _)], _, h1 => exact h1.elim
 | [.d (.o _)], _, h1 => exact h1.elim
 | .d (.int _) :: _ :: _, _, h1 => exact h1.elim
 | .d .non :: _ :: _, _, h1 => exact h1.elim
 | .d (.bl _) :: _ :: _, _, h1 => exact h1.elim
 | .d (.str _) :: _ :: _, _, h1 => exact h1.elim
 | .d (.tup _) :: _ :: _, _, h1 => exact h1.elim
 | .d (.lst _) :: _ :: _, _, h1 => exact h1.elim
 | .d (.scr _) :: _ :: _, _, h1 => exact h1.elim
 | .d .emp :: _ :: _, _, h1 => exact h1.elim
 | .d (.exc _ _) :: _ :: _, _, h1 => exact h1.elim
 | .d (.o _) :: _ :: _, _, h1 => exact h1.elim
 | .l _ :: _ :: _, _, h1 => exact h1.elim
 | .v _ :: _ :: _, _, h1 => exact h1.elim
 | .m _ :: _ :: _, _, h1 => exact h1.elim
end
end G
namespace G
open PySem L2
structure Mach where
  cells : List Int
  at_ : Nat
  left : List Int
noncomputable def TbsOk (T : List (Addr × Str)) (F H : Hp) : Prop := ∀ p ∈ T, ∃ ps : Array Value, H p.1 = some (.tbl ps) ∧ TriplesOk ps.toList ∧ ∀ (pos : Pos) (cv : Value), codeAmong pos ps.toList = some cv → ∃ c, cv = .ref c ∧ F c = some (LamX.CodeO c p.2)
theorem TbsOk.mono {T : List (Addr × Str)} {F F' H H' : Hp} (h : TbsOk T F H) (hF : Same F F') (hH : ∀ p ∈ T, H' p.1 = H p.1) : TbsOk T F' H' := fun p hp => by
 obtain ⟨ps, h1, h2, h3⟩ := h p hp
 refine ⟨ps, (hH p hp).trans h1, h2, fun pos cv e => ?_⟩
 obtain ⟨c, e1, e2⟩ := h3 pos cv e
 exact ⟨c, e1, hF _ _ e2⟩
noncomputable def t_fin : TS :=
 tSeq (tAsg (tOp (rI (fun _ j => 0 < j) fun i j => .int (i % j)) (tOp (rI CMul fun i j => .int (i * j)) (tOp (rI (fun _ j => 0 < j) fun i j => .int (i % j)) (tOp (rI CMul fun i j => .int (i * j)) (tOp (rI0 fun i j => .int (i + j)) (tOp (rI0 fun i j => .int (i + j)) (tVar 6) (tOp (rI CMul fun i j => .int (i * j)) (tOp (rI CMul fun i j => .int (i * j)) (tC (.int 7919)) (tVar 2)) (tVar 2))) (tOp (rI CMul fun i j => .int (i * j)) (tC (.int 31)) (tVar 2))) (tC (.int 48271))) (tC (.int 2147483647))) (tC (.int 69621))) (tC (.int 2147483629))) (gName 7))
 (tRet (tOp (rI (fun _ j => 0 < j) fun i j => .int (i % j)) (tOp (rI CDiv fun i j => .int (i / j)) (tOp (rI (fun _ j => 0 < j) fun i j => .int (i % j)) (tOp (rI CMul fun i j => .int (i * j)) (tOp (rI CDiv fun i j => .int (i / j)) (tVar 7) (tC (.int 64))) (tC (.int 16807))) (tC (.int 2147483647))) (tC (.int 32))) (tVar 1)))
noncomputable def t_tail (K : PySem.W.Frag) : TS :=
 tSeq (tAsg (tC (.int 17)) (gName 6))
 (tSeq (tIfS (tTest (tOp (rNeD K) (tVar 3) (tLst tNil))) (tAsg (tOp (rI (fun _ j => 0 < j) fun i j => .int (i % j)) (tOp (rIxL K) (tVar 3) (tVar 4)) (tC (.int 2147483647))) (gName 6)) tNext)
 t_fin)
noncomputable def t_rest (K : PySem.W.Frag) : TS :=
 tSeq (tIfS (tAnd (tTest (tOp (rNeD K) (tVar 3) (tLst tNil))) (tTest (tOp (rI0 fun i j => .bl (decide (j < i))) (tOp (rIxL K) (tDGet (tVar 0) (tC (.str "left"))) (tVar 4)) (tC (.int 0)))))
   (tSeq (tAsg (tOp (rI (fun _ j => 0 < j) fun i j => .int (i % j)) (tOp (rIxL K) (tDGet (tVar 0) (tC (.str "left"))) (tVar 4)) (tVar 1)) (gName 5))
   (tSeq (tAsg (tOp (rI CDiv fun i j => .int (i / j)) (tOp (rIxL K) (tDGet (tVar 0) (tC (.str "left"))) (tVar 4)) (tVar 1)) (gSub (tDGet (tVar 0) (tC (.str "left"))) (tVar 4) rSetL))
   (tRet (tVar 5)))) tNext)
 (t_tail K)
end G
namespace G
open PySem L2
noncomputable def leftF (c : Int) : Int := c * (if decide ((10 : Int) ^ 18 ≤ c) then 1 else 0)
noncomputable def leftOf (ns : List Int) : List Int := ns.map leftF
noncomputable def spLaw (K : PySem.W.Frag) : Sp := fun vs H Q _ => ∃ (a : Addr) (ns : List Int), vs = [.ref a] ∧ SqL K H a (ns.map V.int) ∧ ns.length ≤ 63 ∧ (∀ z ∈ ns, Builtin.Int.intBits z ≤ 1048576) ∧ ∀ H', Q (.bl true) H'
noncomputable def z0 (n : Nat) (ns : List Int) : Z Mach := { rho := some (.d (.scr ns)) :: some (.m 0) :: List.replicate n none, m := ⟨ns, 0, leftOf ns⟩ }
end G
namespace G
open PySem L2
structure Pc {ι : Type} (P : Program) (w : World) (K : PySem.W.Frag) (mg : Str → Option Value) (base : Heap) (N : List Str) (W : WX) (lv : Nat) (X : ι → Cx) : Prop extends Pl K X N mg where
  pr : ∀ j, (X j).prog = P
  pw : ∀ j, (X j).w = w
  pb : ∀ j, (X j).base = base
  room : ∀ j, RmG (lv + 8) (X j).A
  pass : ∀ j σ, PassesAt (L2.CX P w) (X j) σ (WE W σ)
  gd : ∀ j, (X j).A.guards = some []
section
variable {ι : Type} {M : MI} {P : Program} {w : World} {K : PySem.W.Frag} {mg : Str → Option Value} {base : Heap} {N : List Str} {W : WX} {n : Nat} {X : ι → Cx} {xr : Str → Option Value}
theorem pass0W {Y : Cx} (σ : St) : PassesAt (L2.CX P w) Y σ (WE W0 σ) := fun _ _ _ _ _ _ h => by
 obtain ⟨_, _, _, _, _, _, _, _, _, _, _, _, z⟩ := h
 exact z.elim
theorem Pc.blk (p : Pc P w K mg base N W n X) (scope : Scope) : Pc P w K mg base N W0 n (Blk X scope) :=
 ⟨p.toPl.blk scope, fun q => p.pr q.1, fun q => p.pw q.1, fun q => p.pb q.1, fun q => p.room q.1, fun q σ => pass0W σ, fun q => p.gd q.1⟩
theorem pc_def {qual : Str} {st : Stmt} {f : Addr} {ps : List Str} {cdv : Value} {A : Around} {outer : List Env} {s : Shared} {H : Hp} {E : XK} (Sc : FnScope N ps (defScope st)) (hr : RmG (n + 8) (A.deeper (PyProof.Rows.envOfC qual (defScope st) s.heap.objs.size f cdv))) (hgu : A.guards = some []) :
  Pc P w K mg base N (fun cls d _ H => E cls d H) n (fun _ : Unit => cxOf (L2.CX P w) P w K mg base N qual (defScope st) f cdv A outer s H E) :=
 ⟨⟨fun _ => rfl, fun _ => rfl, fun _ => rfl, Sc.nd, fun _ => rfl, fun _ => by have := hr.un; show (A.deeper _).units + 300 < cLine; omega⟩, fun _ => rfl, fun _ => rfl, fun _ => rfl, fun _ => hr, fun _ σ => passAt (takes_of rfl rfl rfl rfl) σ, fun _ => hgu⟩
theorem own_def {qual : Str} {st : Stmt} {f : Addr} {cdv : Value} {A : Around} {outer : List Env} {s : Shared} {H : Hp} {E : XK} :
  ∀ j : Unit, PassesOwn (model ((fun _ : Unit => cxOf (L2.CX P w) P w K mg base N qual (defScope st) f cdv A outer s H E) j).prog ((fun _ : Unit => cxOf (L2.CX P w) P w K mg base N qual (defScope st) f cdv A outer s H E) j).w) ((fun _ : Unit => cxOf (L2.CX P w) P w K mg base N qual (defScope st) f cdv A outer s H E) j).A ((fun _ : Unit => cxOf (L2.CX P w) P w K mg base N qual (defScope st) f cdv A outer s H E) j).env ((fun _ : Unit => cxOf (L2.CX P w) P w K mg base N qual (defScope st) f cdv A outer s H E) j).xe := fun _ => passes_of rfl
noncomputable def FnAt (M : MI) (P : Program) (w : World) (K : PySem.W.Frag) (mg : Str → Option Value) (base : Heap) (xr : Str → Option Value) (n : Nat) (x : Str) (ps : List Str) (dvs : List V) (c : List S → M.T → Rs S M.T) : Prop :=
 ∃ f fd, FnG P w K mg base (L2.CX P w) (n + 8) f fd ps (spM M K xr ps.length c) ∧ Binds K fd ps [] ∧ (∃ ds, Vals dvs ds ∧ Binds K fd ps ds) ∧ PySem.W.keepIn K (.ref f) = true ∧ mg x = some (.ref f)
theorem de_fn {x : Str} {ps : List Str} {dvs : List V} {e : Expr} {es : List Expr} {g : Sm M (List S)} {c : List S → M.T → Rs S M.T} {pp pos : Pos} (p : Pc P w K mg base N W n X) (h : FnAt M P w K mg base xr n x ps dvs c) (ha : DA M xr K X W (e :: es) g) (hn : ∀ z ss z1, g z = .ok ss z1 → ss.length = ps.length) (hg : ∀ j, Gl (X j) x := by intro _; rfl)
  (hdb : (x == ("__debug__" : Str)) = false := by decide) (he : ∀ j, starEach (e :: es) (X j).env = (false, eval e (X j).env) :: starEach es (X j).env := by intro _; rfl) (hpl : ∀ j, (backTo pos (starEach es (X j).env)).any (·.1) = false := by intro _; rfl) :
  DE M xr K X W (.Call (.Name x pp) (e :: es) [] pos) (eCall c g) := by
 obtain ⟨f, fd, hF, hb, _, hk, hm⟩ := h
 exact de_call (CX := L2.CX P w) (f := f) (fd := fd) (ps := ps) (k := n + 8) (fun j => by rw [p.pr j, p.pw j, p.k j, p.g j, p.pb j]; exact hF) p.room p.gd hg (fun j => by rw [p.g j]; exact hm) (fun j => by rw [p.k j]; exact hk) (fun j => by rw [p.k j]; exact hb) p.pass ha hn hdb he hpl
noncomputable def FnIn (K : PySem.W.Frag) (mg : Str → Option Value) (x : Str) (st : Stmt) (ps : List Str) (dvs : List V) : Prop := ∃ f fd, FunD K x x (defArgs st) (defBody st) (defScope st) dvs [] f fd ∧ Binds K fd ps [] ∧ (∃ ds, Vals dvs ds ∧ Binds K fd ps ds) ∧ mg x = some (.ref f)
theorem fnAt_zero {x : Str} {st : Stmt} {ps : List Str} {dvs : List V} (h : FnIn K mg x st ps dvs) : FnAt M P w K mg base xr 0 x ps dvs (fun _ _ => .bad) := by
 obtain ⟨f, fd, hF, hb, hd, hm⟩ := h
 have no : ∀ vs H Q E, ¬ spM M K xr ps.length (fun _ _ => .bad) vs H Q E := fun vs H Q E h => by
  obtain ⟨_, _, _, _, _, _, _, _, _, _, z⟩ := h
  exact z
 exact ⟨f, fd, ⟨fun vs H Q E h => absurd h (no vs H Q E), fun A outer s H args us vs Q E _ _ _ _ _ h => absurd h (no vs H Q E)⟩, hb, hd, hF.kp, hm⟩
theorem fnAt_succ {x : Str} {st : Stmt} {ps : List Str} {dvs : List V} {b : Sm M Out} (h : FnIn K mg x st ps dvs) (Sc : FnScope N ps (defScope st))
  (hb : ∀ (f : Addr) (cdv : Value) (A : Around) (outer : List Env) (s : Shared) (H : Hp) (E : XK), RmG (n + 8) (A.deeper (PyProof.Rows.envOfC x (defScope st) s.heap.objs.size f cdv)) → A.guards = some [] →
   DSs M xr K (fun _ : Unit => cxOf (L2.CX P w) P w K mg base N x (defScope st) f cdv A outer s H E) (fun cls d _ H => E cls d H) (defBody st) b) : FnAt M P w K mg base xr (n + 1) x ps dvs (fnM N.length b) := by
 obtain ⟨f, fd, hF, hbd, hd, hm⟩ := h
 exact ⟨f, fd, okM hF Sc (hb f), hbd, hd, hF.kp, hm⟩
end
noncomputable def GlD (K : PySem.W.Frag) (mg : Str → Option Value) (x : Str) (d : D) : Prop := ∃ v u, mg x = some u ∧ RelV v u ∧ ∀ F, Da K F v d
section
variable {ι : Type} {M : MI} {xr : Str → Option Value} {K : PySem.W.Frag} {X : ι → Cx} {W : WX} {N : List Str} {mg : Str → Option Value}
theorem de_const {x : Str} {d : D} {pos : Pos} (p : Pl K X N mg) (h : GlD K mg x d) (hg : ∀ j, Gl (X j) x := by intro _; rfl) (hb : (x == ("__debug__" : Str)) = false := by decide) : DE M xr K X W (.Name x pos) (eC d) := by
 obtain ⟨v, u, hm, r, hd⟩ := h
 exact de_glob hg (fun j => by rw [p.g j]; exact hm) r hd hb
theorem cmp_chain {r r' : R2} {g g' : D → D → Option R} {ta tb tc : TE} {f f' f'' : Sm M S} (hd : Op2 K r g) (hd' : Op2 K r' g') (ha : Cmp M K xr W ta RelE f) (hb : Cmp M K xr W tb RelE f') (hc : Cmp M K xr W tc RelE f'') : Cmp M K xr W (tChain r r' ta tb tc) RelE (eChain g g' f f' f'') := by
 intro G σ H F z Q hK hx ok h
 refine cmp_opd ha G σ H F z _ hK hx ok (hit_bind h fun s z1 v H1 F1 _ sm1 ok1 e1 h1 => ?_)
 refine cmp_opd hb G σ H1 F1 z1 _ hK hx ok1 (hit_bind h1 fun s' z2 v' H2 F2 _ sm2 ok2 e2 h2 => ?_)
 have h3 : HitG M G W σ F2 (RelE G σ) (fin ((rd z2 s).bind fun x => (rd z2 s').bind fun y => g x y) z2) (fun z H3 => ∃ k, z = .bl k ∧ if k = true then tc σ H3 fun w H4 => r' v' w H4 Q else Q (.bl false) H3) := by
  refine hit_bind h2 fun s3 z3 v3 H3 F3 e3 sm3 ok3 ev3 h3 => ?_
  have ez : z3 = z2 := by
   unfold fin at e3
   split at e3
   ·cases e3; rfl
   ·cases e3
  subst ez
  cases s3 with
  | d x =>
   cases x with
   | bl b =>
    cases (show Da G.K F3 v3 (.bl b) from ev3)
    refine ⟨b, rfl, ?_⟩
    cases b with
    | false =>
     rw [if_neg Bool.false_ne_true]
     exact h3 (.bl false) H3 F3 (Same.refl _) ok3 (Da.bl false)
    | true =>
     rw [if_pos rfl]
     refine cmp_opd hc G σ H3 F3 z3 _ hK hx ok3 (hit_bind h3 fun s4 z4 v4 H4 F4 _ sm4 ok4 e4 h4 => ?_)
     have q := fin_hit ok4 h4
     subst hK
     cases ea : rd z4 s' with
     | none => rw [ea] at q; exact q.elim
     | some x =>
      cases eb : rd z4 s4 with
      | none => rw [ea, eb] at q; exact q.elim
      | some y =>
       rw [ea, eb] at q
       exact hd' F4 H4 v' v4 x y Q ok4.sub (EO.rv ok4 (EO.mono (sm3.trans sm4) e2) ea) (EO.rv ok4 e4 eb) q
   | _ => exact h3.elim
  | _ => exact h3.elim
 have q := fin_hit ok2 h3
 subst hK
 cases ea : rd z2 s with
 | none => rw [ea] at q; exact q.elim
 | some x =>
  cases eb : rd z2 s' with
  | none => rw [ea, eb] at q; exact q.elim
  | some y =>
   rw [ea, eb] at q
   exact hd F2 H2 v v' x y _ ok2.sub (EO.rv ok2 (EO.mono sm2 e1) ea) (EO.rv ok2 e2 eb) q
theorem Cp.chainT {op op' : CmpOp} {g g' : D → D → Option R} {a b c : Expr} {f f' f'' : Sm M S} {pos : Pos} (c1 : Cp K X op g) (c2 : Cp K X op' g') (ha : DE M xr K X W a f) (hb : DE M xr K X W b f') (hc : DE M xr K X W c f'') (hm : lastMarks [op, op'] [b, c] = false := by with_unfolding_all rfl) : DT M xr K X W (.Compare a [op, op'] [b, c] pos) (tOf (eChain g g' f f' f'')) := by
 cases c1 with
 | mk r ho hd =>
  cases c2 with
  | mk r' ho' hd' =>
   obtain ⟨ta, pa, ca⟩ := ha
   obtain ⟨tb, pb, cb⟩ := hb
   obtain ⟨tc, pc, cc⟩ := hc
   exact ⟨_, fun j => pt_chain (ho j) (ho' j) (pa j) (pb j) (pc j) hm, cmp_tOf (cmp_chain hd hd' ca cb cc)⟩
end
theorem daAll_strs {K : PySem.W.Frag} {F : Hp} : ∀ ss : List Str, DaAll K F (ss.map V.str) (ss.map D.str)
 | [] => .nil
 | s :: r => .cons (.str s) (daAll_strs r)
theorem glD_strs {K : PySem.W.Frag} {mg : Str → Option Value} {x : Str} (ss : List Str) {a : Addr} {o : Obj} {its : List Value} {n : Nat} (g : mg x = some (.ref a)) (gl : K.lookup a = some o) (gc : o.cls = .type "tuple") (gd : o.data = .seq its.toArray n) (hv : Vals (ss.map V.str) its) (hl : ss.length ≤ 1000) : GlD K mg x (.tup (ss.map D.str)) :=
 ⟨.ref a, _, g, rfl, fun F => .tup (.inr ⟨o, _, n, gl, gc, gd, by
  have e := hv.length
  rw [List.length_map] at e
  rw [List.size_toArray, ← e]
  exact Nat.le_of_lt (small1000 hl), hv⟩) (daAll_strs ss)⟩
theorem funD_mk {K : PySem.W.Frag} {x : Str} {st : Stmt} {f : Addr} {oc : Value} {od an : Option Addr} {osl : Array (Option Value)} {kV doc pm cdv ct : Value} (l : K.lookup f = some ⟨oc, od, .func (PySem.W.fnOf x x (defArgs st) (defBody st) (defScope st) .none kV doc pm an cdv ct), osl⟩) (c : PySem.W.codeIn K cdv x = true) (k : PySem.W.keepIn K (.ref f) = true) :
  FunD K x x (defArgs st) (defBody st) (defScope st) [] [] f (PySem.W.fnOf x x (defArgs st) (defBody st) (defScope st) .none kV doc pm an cdv ct) := ⟨⟨oc, od, .none, kV, doc, pm, an, cdv, ct, osl, rfl, l, c, .inl ⟨rfl, rfl⟩, .inl rfl⟩, k⟩
theorem fnIn_mk {K : PySem.W.Frag} {h : Heap} {mg : Str → Option Value} {x : Str} {st : Stmt} {ps : List Str} {f : Addr} {oc : Value} {od an : Option Addr} {osl : Array (Option Value)} {kV doc pm cdv ct : Value} (X : K.In h) (G : h.Ns mainGlobals mg) (a : PySem.W.nsIn K mainGlobals x = some (some (.ref f)))
  (l : K.lookup f = some ⟨oc, od, .func (PySem.W.fnOf x x (defArgs st) (defBody st) (defScope st) .none kV doc pm an cdv ct), osl⟩) (c : PySem.W.codeIn K cdv x = true) (k : PySem.W.keepIn K (.ref f) = true)
  (hb : ∀ (kV doc pm : Value) (an : Option Addr) (cdv ct : Value) (us : List Value), us.length = ps.length → bindArgs (PySem.W.fnOf x x (defArgs st) (defBody st) (defScope st) .none kV doc pm an cdv ct) ⟨us, []⟩ = pure (ps.zip us)) : FnIn K mg x st ps [] :=
 ⟨f, _, funD_mk (st := st) l c k, (fun_mk (st := st) l c k).binds hb, ⟨[], .nil, (fun_mk (st := st) l c k).binds hb⟩, PySem.W.mg_of X G a⟩
end G
namespace G
open PySem L2
section
variable {ι : Type} {M : MI} {xr : Str → Option Value} {K : PySem.W.Frag} {X : ι → Cx} {W : WX}
noncomputable def sBad (_ : Z M.T) : Rs Out (Z M.T) := .bad
noncomputable def eBad (_ : Z M.T) : Rs S (Z M.T) := .bad
theorem ds_bad {st : Stmt} : DS M xr K X W st sBad := ⟨fun _ _ _ => False, fun _ => ⟨fun _ _ _ _ _ _ h => h.elim⟩, fun _ _ _ _ _ _ _ _ _ h => h⟩
theorem de_bad {e : Expr} : DE M xr K X W e eBad := ⟨fun _ _ _ => False, fun _ => ⟨fun _ _ _ _ _ _ h => h.elim⟩, fun _ _ _ _ _ _ _ _ _ h => h⟩
end
section
variable {ι : Type} {P : Program} {w : World} {K : PySem.W.Frag} {mg : Str → Option Value} {base : Heap} {N : List Str} {W : WX} {n : Nat} {X : ι → Cx}
end
end G
namespace G
open PySem L2
section
variable {ι : Type} {M : MI} {xr : Str → Option Value} {K : PySem.W.Frag} {X : ι → Cx} {W : WX} {N : List Str} {mg : Str → Option Value} {pos : Pos}
end
end G
namespace G
open PySem L2
theorem okG {P : Program} {w : World} {K : PySem.W.Frag} {mg : Str → Option Value} {base : Heap} {x qual : Str} {st : Stmt} {f : Addr} {fd : FuncData} {dvs : List V} {N ps : List Str} {k : Nat} {sp : Sp} (F : FunD K x qual (defArgs st) (defBody st) (defScope st) dvs [] f fd) (Sc : FnScope N ps (defScope st)) (len : ∀ vs H Q E, sp vs H Q E → vs.length = ps.length)
  (hb : ∀ (cdv : Value) (A : Around) (outer : List Env) (s : Shared) (H : Hp) (vs : List V) (Q : VK) (E : XK), RmG k (A.deeper (PyProof.Rows.envOfC qual (defScope st) s.heap.objs.size f cdv)) → A.guards = some [] → sp vs H Q E →
   ∃ t, PSs (cxOf (L2.CX P w) P w K mg base N qual (defScope st) f cdv A outer s H E) (defBody st) t ∧ t { nx := fun _ H' => Q .non H', rt := Q } (start N vs) H) : FnG P w K mg base (L2.CX P w) (k + 1) f fd ps sp := by
 obtain ⟨oc, od, dV, kV, doc, pm, an, cdv, ct, osl, rfl, lk, hcd, _, _⟩ := F.ex
 exact fnG lk hcd Sc len (fun A outer s H vs Q E hr hg h => hb cdv A outer s H vs Q E hr hg h)
end G
namespace G
open PySem L2
section
variable {ι : Type} {M : MI} {xr : Str → Option Value} {K : PySem.W.Frag} {X : ι → Cx} {W : WX}
end
end G
namespace G
open PySem L2 PySem.Spec PyProof.Rows
section
variable {Y : Cx} {ps : List (Addr × Obj)} {τ : L2.St} {H : Hp} {t : Shared}
end
end G
namespace G
open PySem L2
structure XF (K : PySem.W.Frag) (mg : Str → Option Value) (x : Str) (C : Addr) : Prop where
  ns : PySem.W.nsIn K mainGlobals x = some (some (.ref C))
  gl : mg x = some (.ref C)
  ex : PySem.W.excIn K C [.type "ValueError", .type "Exception", .type "BaseException", .type "object"] "ValueError.__new__" = true
  kp : PySem.W.keepIn K (.ref C) = true
  sb : PySem.W.subIn K (.ref C) (.type "BaseException") = some true
  ty : PySem.W.typeIn K (.ref C) = some (.type "type")
theorem XF.xr {K : PySem.W.Frag} {mg : Str → Option Value} {x : Str} {C : Addr} (h : XF K mg x C) : xrK K x = some (.ref C) := by
 unfold xrK
 rw [h.ns]
section
variable {ι : Type} {M : MI} {P : Program} {w : World} {K : PySem.W.Frag} {mg : Str → Option Value} {base : Heap} {N : List Str} {W : WX} {n : Nat} {X : ι → Cx}
end
end G
namespace G
open PySem L2
section
variable {ι : Type} {M : MI} {xr : Str → Option Value} {K : PySem.W.Frag} {mg : Str → Option Value} {N : List Str} {W : WX} {X : ι → Cx}
theorem Rv.exc {F H : Hp} {v : V} {c : Str} (s : SameX F H) (h : Rv K F H v (.exc c [])) : ∃ a C, v = .ref a ∧ H a = some (XO (.ref C) none a) ∧ xrK K c = some (.ref C) := by
 rcases h with h | ⟨a, vs, xs, _, e, _⟩
 ·cases h with
  | exc q r => exact ⟨_, _, rfl, s.ext q, r⟩
 ·cases e
end
end G
namespace PySem
namespace BadX
open PySem.W PySem.Calls PyProof.Rows PySem.HandSPX
noncomputable def iA (p1 p2 : Pos) : Arguments := { posonlyargs := [], args := [{ arg := "self", annotation := none, pos := p1 }, { arg := "at", annotation := none, pos := p2 }], vararg := none, kwonlyargs := [], kw_defaults := [], kwarg := none, defaults := [] }
noncomputable def iB (q1 q2 q3 q4 : Pos) : List Stmt := [.Assign [.Attribute (.Name "self" q1) "at" q2] (.Name "at" q3) q4]
noncomputable def iS : Scope := { kind := .function, names := [(PySem.Str.ofString "self", .local), (PySem.Str.ofString "at", .local)], isGenerator := false, isCoroutine := false, more := [] }
structure LowTxt (K : Frag) (mg : Str → Option Value) (cn qn : Str) (C fI : Addr) : Prop where
  gC : mg cn = some (.ref C)
  cls : ∃ nm q N bs bm sn sub ab col dd k0 k1 k2 k3 k5, K.lookup C = some (excClassObj nm q C N bs bm true sn sub ab col dd k0 k1 k2 k3 k5 "ValueError.__new__") ∧ refsVE bm = true
  sa : findIn K (.ref C) "__setattr__" = some (some (.builtin "object.__setattr__"))
  ga : findIn K (.ref C) "__getattribute__" = some (some (.builtin "BaseException.__getattribute__"))
  gg : findIn K (.ref C) "__getattr__" = some none
  noN : findIn K (.ref C) "at" = some none
  iC : findIn K (.ref C) "__init__" = some (some (.ref fI))
  tC : typeIn K (.ref fI) = some (.type "function")
  kC : keepIn K (.ref C) = true
  exC : subIn K (.ref C) (.type "BaseException") = some true
  tyC : typeIn K (.ref C) = some (.type "type")
  hdC : hasDictIn K C = true
  te : exmOne K (.ref C) (.ref C) = some true
  fn : ∃ (oc : Value) (od : Option Addr) (doc pm : Value) (an : Option Addr) (cdv ct : Value) (osl : Array (Option Value)) (p1 p2 q1 q2 q3 q4 : Pos),
    K.lookup fI = some ⟨oc, od, .func (fnOf "__init__" qn (iA p1 p2) (iB q1 q2 q3 q4) iS .none .none doc pm an cdv ct), osl⟩ ∧ codeIn K cdv qn = true
structure InitEnd (h h' : Heap) (x C dx t1 : Addr) (v : Value) : Prop where
  keep : ∀ b o, b ≠ x → h.get? b = some o → h'.get? b = some o
  obj : h'.get? x = some { cls := .ref C, dict := some dx, data := .fields #[.ref t1, .none, .none, .none, .bool false, .none] }
  dbig : h.objs.size ≤ dx
  dne : dx ≠ x
  ns : h'.Ns1 dx (fun y => if y = "at" then some v else none)
structure OwnMade (h h' : Heap) (e C d : Addr) (v : Value) : Prop where
  keep : ∀ b o, h.get? b = some o → h'.get? b = some o
  new : h.objs.size ≤ e
  obj : ∃ oe vs, h'.get? e = some oe ∧ oe.cls = .ref C ∧ oe.dict = some d ∧ oe.data = .fields vs ∧ vs[1]? = some .none
  dbig : h.objs.size ≤ d
  dne : d ≠ e
  ns : h'.Ns1 d (fun y => if y = "at" then some v else none)
section
variable {prog : Program} {w : World} {A : Around} {E : Value → Shared → Prop} {R : Result → Shared → Prop} {s : Shared} {K : Frag} {mg : Str → Option Value} {C fI : Addr} {cn qn : Str}
end
end BadX
end PySem
namespace L2
open PySem PySem.Spec PyProof.Rows
section
variable {X : Cx} {C fI : Addr} {cn qn : Str}
end
end L2
namespace G
open PySem PySem.Spec PyProof.Rows L2
section
variable {prog : Program} {w : World} {A : Around} {E : Value → Shared → Prop} {s : Shared} {K : PySem.W.Frag} {x D : Addr} {ox : Obj} {od : Option Obj}
end
end G
namespace G
open PySem L2
noncomputable def Kept (H : Hp) (a C : Addr) : Prop := ∃ d, H a = some (XO (.ref C) d a) ∧ (d = none ∨ ∃ dd v, d = some dd ∧ H dd = some (.xd [(("at" : Str), v)]))
theorem Rv.kept {K : PySem.W.Frag} {F H : Hp} {v : V} {c : Str} {xs : List D} (s : SameX F H) (h : Rv K F H v (.exc c xs)) : ∃ a C, v = .ref a ∧ Kept H a C ∧ xrK K c = some (.ref C) := by
 rcases h with h | ⟨a, vs, xs, _, e, _⟩
 ·cases h with
  | exc q r => exact ⟨_, _, rfl, ⟨none, s.ext q, .inl rfl⟩, r⟩
  | excA q q2 t r => exact ⟨_, _, rfl, ⟨_, s.ext q, .inr ⟨_, _, rfl, s _ _ q2 (fun n e => by cases e)⟩⟩, r⟩
 ·cases e
section
variable {ι : Type} {M : MI} {xr : Str → Option Value} {K : PySem.W.Frag} {mg : Str → Option Value} {N : List Str} {W : WX} {X : ι → Cx}
end
section
variable {ι : Type} {M : MI} {P : Program} {w : World} {K : PySem.W.Frag} {mg : Str → Option Value} {base : Heap} {N : List Str} {W : WX} {n : Nat} {X : ι → Cx}
end
section
variable {ι : Type} {M : MI} {xr : Str → Option Value} {K : PySem.W.Frag} {mg : Str → Option Value} {N : List Str} {W : WX} {X : ι → Cx}
end
end G
namespace G
open PySem L2
noncomputable abbrev M2 : MI where
 T := Int
 ok := fun _ _ H ms t => ∃ a, ms = [a] ∧ H a = some (.lst [.int t])
 mono := fun {K F F' H H' ms t} hF _ hm h => by
  obtain ⟨a, rfl, h1⟩ := h
  exact ⟨a, rfl, (hm a (by simp)).trans h1⟩
section
variable {ι : Type} {xr : Str → Option Value} {K : PySem.W.Frag} {X : ι → Cx} {W : WX} {N : List Str} {mg : Str → Option Value}
end
end G
namespace G
open PySem L2 PySem.Spec PyProof.Rows
section
variable {ι : Type} {M : MI} {xr : Str → Option Value} {K : PySem.W.Frag} {X : ι → Cx} {W : WX} {N : List Str} {mg : Str → Option Value} {pos : Pos}
end
end G
namespace G
open PySem L2 PySem.Spec PyProof.Rows HT
section
variable {prog : Program} {w : World} {A : Around} {E : Value → Shared → Prop} {s : Shared}
theorem places_rev (n : Nat) : Builtin.Slice.slicePlaces ((n : Int) - 1) (-1) (-1) = n := by
 unfold Builtin.Slice.slicePlaces
 have h1 : ¬ ((-1 : Int) > 0) := by decide
 simp only [h1, if_false]
 split
 ·have e : (- (-1 : Int)) = 1 := by decide
  rw [e, Int.ediv_one]
  omega
 ·omega
theorem applied_rev {sl : Addr} {vs : Value} {n : Nat} {Q : Int × Int × Nat → Shared → Prop} (hs : s.heap.IsSliceOf sl .none .none vs) (ps : IsPart vs (some (-1))) (h : Q ((n : Int) - 1, -1, n) s) :
  wpAny (model prog w) A (Builtin.Slice.sliceApplied (.ref sl) (pure (n : Int))) Q E s := by
 obtain ⟨ob, hob, hcb, hdb⟩ := id hs
 unfold Builtin.Slice.sliceApplied Builtin.Slice.sliceFields
 refine wpAny_bind (wpAny_bind (wpAny_field hob hdb (x := .none) rfl (wpAny_bind (wpAny_field hob hdb (x := .none) rfl (wpAny_bind (wpAny_field hob hdb (x := vs) rfl (wpAny_pure ?_)))))))
 refine wpAny_bind (slicePart_ ps ?_)
 show wpAny _ _ (if ((-1 : Int) == 0) = true then _ else _) _ _ s
 rw [if_neg (by decide)]
 refine wpAny_bind (slicePart_none (wpAny_bind (slicePart_none (wpAny_bind (wpAny_pure ?_)))))
 show wpAny _ _ (pure ((n : Int) - 1, (-1 : Int), Builtin.Slice.slicePlaces ((n : Int) - 1) (-1) (-1))) _ _ s
 rw [places_rev]
 exact wpAny_pure h
theorem fm_congr {α β : Type} {f g : α → Option β} : ∀ {l : List α}, (∀ x ∈ l, f x = g x) → l.filterMap f = l.filterMap g
 | [], _ => rfl
 | x :: r, h => by
  rw [List.filterMap_cons, List.filterMap_cons, h x List.mem_cons_self, fm_congr fun y hy => h y (List.mem_cons_of_mem _ hy)]
theorem pick_rev (xs : Array Value) : ((List.range xs.size).filterMap fun (m : Nat) => xs[((xs.size : Int) - 1 + (m : Int) * (-1)).toNat]?).toArray = xs.toList.reverse.toArray := by
 have e : (List.range xs.size).filterMap (fun (m : Nat) => xs[((xs.size : Int) - 1 + (m : Int) * (-1)).toNat]?) = (List.range xs.size).filterMap fun m => xs[xs.size - 1 - m]? := by
  refine fm_congr fun m hm => ?_
  have : m < xs.size := List.mem_range.mp hm
  have e : ((xs.size : Int) - 1 + (m : Int) * (-1)).toNat = xs.size - 1 - m := by omega
  rw [e]
 have e2 : (List.range xs.size).filterMap (fun m => xs[xs.size - 1 - m]?) = ((List.range xs.size).map fun k => xs.size - 1 - k).filterMap (xs[·]?) := by rw [List.filterMap_map]; rfl
 rw [e, e2, PySem.W.krv_range, List.filterMap_reverse, PySem.W.krv_all]
theorem getItem_rev {t sl : Addr} {items : Array Value} {vs : Value} {Q : Value → Shared → Prop} (ht : IsTup s.heap t items) (hs : s.heap.IsSliceOf sl .none .none vs) (ps : IsPart vs (some (-1)))
  (h : Q (.ref s.heap.objs.size) { s with heap := s.heap.push { cls := .type "tuple", data := .seq items.toList.reverse.toArray } }) (hsz : items.size ≤ sizeLine) : wpAny (model prog w) A (getItem (.ref t) (.ref sl)) Q E s := by
 have fits : sizeOk (.seq items.toList.reverse.toArray) := by
  show items.toList.reverse.toArray.size ≤ sizeLine
  rw [List.size_toArray, List.length_reverse, Array.length_toList]
  exact hsz
 obtain ⟨ob, hob, hcb, hdb⟩ := id hs
 have tyS : s.TypeIs (.ref sl) "slice" := ⟨ob, hob, hcb⟩
 unfold getItem
 try with_reducible refine wpAny_holding ?_
 first | refine wpAny_bind (wpAny_pure ?_) | skip
 refine wpAny_bind (wpAny_sequenceKey ht.typeIs (by decide) ?_)
 refine wpAny_bind (wpAny_callSpecial?_slot (name := Str.ofString "__getitem__") ht.typeIs PyProof.Rows.slot_tuple_getitem (wpAny_call_entry PyProof.Rows.slot_tuple_getitem ht.typeIs entry_tuple_getitem ?_ (args_tuple_getitem _ _)))
 show wpAny _ _ (Builtin.Tuple.tupleItemsOf (.ref t) >>= _) _ _ s
 refine wpAny_bind (tupleItemsOf_ ht ?_)
 refine wpAny_bind (wpAny_typeOf tyS ?_)
 rw [if_pos (by decide)]
 refine wpAny_bind (applied_rev hs ps ?_)
 have no : ¬ ((((items.size : Int) - 1) == 0 && (-1 : Int) == 1 && items.size == items.size) = true) := by simp
 show wpAny _ _ (if (((items.size : Int) - 1) == 0 && (-1 : Int) == 1 && items.size == items.size) = true then _ else _) _ _ s
 rw [if_neg no, pick_rev]
 first
  | exact wpAny_bind (m := Builtin.Tuple.tupleExact _) (wpAny_newObj_type (wpAny_pure ⟨_, rfl, wpAny_pure h⟩) fits)
  | exact wpAny_bind (m := Builtin.Tuple.tupleExact _) (wpAny_newObj_type (wpAny_bind (wpAny_pure (wpAny_pure ⟨_, rfl, wpAny_pure h⟩))) fits)
  | exact wpAny_bind (wpAny_bind (m := Builtin.Tuple.tupleExact _) (wpAny_newObj_type (wpAny_pure (wpAny_pure ⟨_, rfl, wpAny_pure h⟩)) fits))
  | exact wpAny_bind (wpAny_bind (m := Builtin.Tuple.tupleExact _) (wpAny_newObj_type (wpAny_pure ⟨_, rfl, wpAny_pure h⟩) fits))
end
noncomputable def tRevA (K : PySem.W.Frag) (te : TE) : TE := fun σ H Q => te σ H fun x H1 => (∃ a ys, x = .ref a ∧ SqL K H1 a ys ∧ ∀ q, H1 q = none → Q (.ref q) (upd H1 q (.lst ys.reverse))) ∨ (∃ a ys, x = .ref a ∧ SqT K H1 a ys ∧ ∀ q, H1 q = none → Q (.ref q) (upd H1 q (.tup ys.reverse)))
theorem pe_revA {X : Cx} {e : Expr} {te : TE} {k : Nat} {p1 p2 p3 pos : Pos} (he : PE X e te) : PE X (.Subscript e (.Slice none none (some (.UnaryOp .USub (.Constant (.int 1) k p1) p2)) p3) pos) (tRevA X.K te) := by
 refine ⟨fun pins s σ H Q I h => ?_⟩
 refine Subscript_ (thn (he.run pins s σ H _ I h) fun v s1 ⟨x, H1, I1, r1, q1⟩ => ?_)
 have hst : PO X (some (.UnaryOp .USub (.Constant (.int 1) k p1) p2)) (tPart (tUn (rU fun i => .int (-i)) (tC (.int 1)))) := po_some (pe_un un_neg pe_int)
 refine wpAny_Slice (thn (po_none.run pins s1 σ H1 (fun o H2 => o = none ∧ H2 = H1) I1 ⟨rfl, rfl⟩) fun vl s2 ⟨l, H2, I2, pl, el, e2⟩ => ?_)
 subst el e2
 refine thn (po_none.run pins s2 σ H2 (fun o H3 => o = none ∧ H3 = H2) I2 ⟨rfl, rfl⟩) fun vu s3 ⟨u, H3, I3, pu, eu, e3⟩ => ?_
 subst eu e3
 refine thn (hst.run pins s3 σ H3 (fun o H4 => o = some (-1) ∧ H4 = H3) I3 ⟨1, rfl, -1, rfl, rfl, rfl⟩) fun vs s4 ⟨o, H4, I4, ps, eo, e4⟩ => ?_
 subst eo e4
 have I5 : Inv X pins σ H4 { s4 with heap := s4.heap.push { cls := .type "slice", data := .fields #[vl, vu, vs] } } := I4.kept (t' := s4.toks) fun b ob q => Heap.get?_push_of_some _ q
 rcases q1 with ⟨a, ys, ex, hx, q⟩ | ⟨a, ys, ex, hx, q⟩
 ·subst ex
  cases r1
  obtain ⟨its, r, ht, hz⟩ := I5.list hx
  have hlen := r.length
  show wpAny (model X.prog X.w) X.A (subscriptTail e (.Slice none none (some (.UnaryOp .USub (.Constant (.int 1) k p1) p2)) p3) (.ref a) (.ref s4.heap.objs.size)) (EP X pins σ Q) X.xe _
  refine tail_any (ops := [.ref a, .ref s4.heap.objs.size]) ht.isList.typeIs (PySem.slot_list_getitem.lookup) ?_ (by with_unfolding_all rfl)
  refine wpAny_getItem_list_slice ht.isList (Heap.IsSliceOf.new _ vl vu vs) pl pu ps (by decide) ?_ (by rw [List.size_toArray]; omega)
  rw [PySem.W.krv_pick]
  exact ⟨.ref _, _, I5.laid (t' := s4.toks) (o := .lst ys.reverse) (fun b ob q => Heap.get?_push_of_some _ q) (Nat.le_refl _) ⟨by rw [List.length_reverse]; exact hz, _, 0, r.reverse, Heap.get?_push_size _ rfl⟩, rfl, q _ (I5.hok.fresh (Nat.le_refl _))⟩
 ·subst ex
  cases r1
  obtain ⟨its, r, ht, hz⟩ := I5.tuple hx
  have hlen := r.length
  cases pl
  cases pu
  show wpAny (model X.prog X.w) X.A (subscriptTail e (.Slice none none (some (.UnaryOp .USub (.Constant (.int 1) k p1) p2)) p3) (.ref a) (.ref s4.heap.objs.size)) (EP X pins σ Q) X.xe _
  refine tail_any (ops := [.ref a, .ref s4.heap.objs.size]) ht.typeIs (PyProof.Rows.slot_tuple_getitem.lookup) ?_ (by with_unfolding_all rfl)
  refine getItem_rev ht (Heap.IsSliceOf.new _ .none .none vs) ps ?_ (by rw [List.size_toArray]; omega)
  exact ⟨.ref _, _, I5.laid (t' := s4.toks) (o := .tup ys.reverse) (fun b ob q => Heap.get?_push_of_some _ q) (Nat.le_refl _) ⟨by rw [List.length_reverse]; exact hz, _, r.reverse, IsTup.new _ _⟩, rfl, q _ (I5.hok.fresh (Nat.le_refl _))⟩
noncomputable def dRev : D → Option R := fun d => match d with
 | .tup xs => some (.t xs.reverse)
 | .lst xs => some (.l xs.reverse)
 | _ => none
section
variable {ι : Type} {M : MI} {xr : Str → Option Value} {K : PySem.W.Frag} {X : ι → Cx} {W : WX} {N : List Str} {mg : Str → Option Value} {pos : Pos}
theorem de_rev {e : Expr} {g : Sm M S} {k : Nat} {p1 p2 p3 pos : Pos} (p : Pl K X N mg) (h : DE M xr K X W e g) : DE M xr K X W (.Subscript e (.Slice none none (some (.UnaryOp .USub (.Constant (.int 1) k p1) p2)) p3) pos) (eUn dRev g) := by
 obtain ⟨t, pe, c⟩ := h
 refine ⟨tRevA K t, fun j => by rw [← p.k j]; exact pe_revA (pe j), fun G σ H F z Q hK hx ok hh => ?_⟩
 refine cmp_opd c G σ H F z _ hK hx ok (hit_bind hh fun s z1 v H1 F1 _ sm1 ok1 e1 h1 => ?_)
 have q := fin_hit ok1 h1
 cases er : rd z1 s with
 | none => rw [er] at q; exact q.elim
 | some x =>
  rw [er] at q
  have q' : Hit0 G.K F1 H1 (dRev x) Q := q
  have rv := EO.rv ok1 e1 er
  subst hK
  unfold dRev at q'
  split at q'
  ·obtain ⟨a, vs, rfl, a1, a2⟩ := rv.tup ok1.sub
   exact .inr ⟨a, vs, rfl, a1, fun p hp => q'.2 p _ hp a2.reverse⟩
  ·obtain ⟨a, vs, rfl, a1, a2⟩ := rv.lst ok1.sub
   exact .inl ⟨a, vs, rfl, SqL.of a1, fun p hp => q' p _ hp a2.reverse⟩
  ·exact q'.elim
end
end G
namespace G
open PySem L2
section
variable {ι : Type} {M : MI} {xr : Str → Option Value} {K : PySem.W.Frag} {X : ι → Cx} {W : WX} {a b : Expr} {f f' : Sm M S} {pos : Pos}
end
end G
namespace G
open PySem L2
end G
namespace G
open PySem L2
end G
namespace G
open PySem L2
inductive Th where
  | var (k : Int)
  | call (f : Str) (as : List Th)
  | rel (r : Str) (as : List Th)
  | same (a b : Th)
  | no
  | and (a b : Th)
  | or (a b : Th)
  | imp (a b : Th)
  | all (s : Str) (a : Th)
  | some (s : Str) (a : Th)
mutual
noncomputable def enc : Th → D
 | .var k => .tup [.str "var", .int k]
 | .call f as => .tup [.str "call", .str f, .tup (encs as)]
 | .rel f as => .tup [.str "rel", .str f, .tup (encs as)]
 | .same a b => .tup [.str "same", enc a, enc b]
 | .no => .tup [.str "no"]
 | .and a b => .tup [.str "and", enc a, enc b]
 | .or a b => .tup [.str "or", enc a, enc b]
 | .imp a b => .tup [.str "if", enc a, enc b]
 | .all s a => .tup [.str "all", .str s, enc a]
 | .some s a => .tup [.str "some", .str s, enc a]
noncomputable def encs : List Th → List D
 | [] => []
 | t :: r => enc t :: encs r
end
noncomputable def kids : Th → List Th
 | .var _ => []
 | .call _ as => as
 | .rel _ as => as
 | .same a b => [a, b]
 | .no => []
 | .and a b => [a, b]
 | .or a b => [a, b]
 | .imp a b => [a, b]
 | .all _ a => [a]
 | .some _ a => [a]
mutual
noncomputable def size : Th → Nat
 | .var _ => 1
 | .call _ as => 1 + sizes as
 | .rel _ as => 1 + sizes as
 | .same a b => 1 + (size a + size b)
 | .no => 1
 | .and a b => 1 + (size a + size b)
 | .or a b => 1 + (size a + size b)
 | .imp a b => 1 + (size a + size b)
 | .all _ a => 1 + size a
 | .some _ a => 1 + size a
noncomputable def sizes : List Th → Nat
 | [] => 0
 | t :: r => size t + sizes r
end
mutual
noncomputable def depth : Th → Nat
 | .var _ => 1
 | .call _ as => 1 + depths as
 | .rel _ as => 1 + depths as
 | .same a b => 1 + max (depth a) (depth b)
 | .no => 1
 | .and a b => 1 + max (depth a) (depth b)
 | .or a b => 1 + max (depth a) (depth b)
 | .imp a b => 1 + max (depth a) (depth b)
 | .all _ a => 1 + depth a
 | .some _ a => 1 + depth a
noncomputable def depths : List Th → Nat
 | [] => 0
 | t :: r => max (depth t) (depths r)
end
theorem encs_map : ∀ ts : List Th, encs ts = ts.map enc
 | [] => by rw [encs]; rfl
 | t :: r => by rw [encs, encs_map r]; rfl
theorem size_kids (t : Th) : size t = 1 + sizes (kids t) := by
 cases t <;> simp [size, kids, sizes]
theorem depth_kids (t : Th) : depth t = 1 + depths (kids t) := by
 cases t <;> simp [depth, kids, depths]
end G
namespace G
open PySem L2
mutual
noncomputable def nms : Th → Bool
 | .var _ => true
 | .call f as => PyData.strOk f && nmss as
 | .rel f as => PyData.strOk f && nmss as
 | .same a b => nms a && nms b
 | .no => true
 | .and a b => nms a && nms b
 | .or a b => nms a && nms b
 | .imp a b => nms a && nms b
 | .all s a => PyData.strOk s && nms a
 | .some s a => PyData.strOk s && nms a
noncomputable def nmss : List Th → Bool
 | [] => true
 | t :: r => nms t && nmss r
end
theorem sk_var : PyData.strOk (Str.ofString "var") = true := by decide +kernel
theorem sk_call : PyData.strOk (Str.ofString "call") = true := by decide +kernel
theorem sk_rel : PyData.strOk (Str.ofString "rel") = true := by decide +kernel
theorem sk_same : PyData.strOk (Str.ofString "same") = true := by decide +kernel
theorem sk_no : PyData.strOk (Str.ofString "no") = true := by decide +kernel
theorem sk_and : PyData.strOk (Str.ofString "and") = true := by decide +kernel
theorem sk_or : PyData.strOk (Str.ofString "or") = true := by decide +kernel
theorem sk_if : PyData.strOk (Str.ofString "if") = true := by decide +kernel
theorem sk_all : PyData.strOk (Str.ofString "all") = true := by decide +kernel
theorem sk_some : PyData.strOk (Str.ofString "some") = true := by decide +kernel
mutual
theorem lay_enc : ∀ t : Th, lay (enc t) = nms t
 | .var _ => by simp [enc, lay, lays, nms, sk_var]
 | .call f as => by simp [enc, lay, lays, nms, sk_call, lays_encs as]
 | .rel f as => by simp [enc, lay, lays, nms, sk_rel, lays_encs as]
 | .same a b => by simp [enc, lay, lays, nms, sk_same, lay_enc a, lay_enc b]
 | .no => by simp [enc, lay, lays, nms, sk_no]
 | .and a b => by simp [enc, lay, lays, nms, sk_and, lay_enc a, lay_enc b]
 | .or a b => by simp [enc, lay, lays, nms, sk_or, lay_enc a, lay_enc b]
 | .imp a b => by simp [enc, lay, lays, nms, sk_if, lay_enc a, lay_enc b]
 | .all s a => by simp [enc, lay, lays, nms, sk_all, lay_enc a]
 | .some s a => by simp [enc, lay, lays, nms, sk_some, lay_enc a]
theorem lays_encs : ∀ ts : List Th, lays (encs ts) = nmss ts
 | [] => by simp [encs, lays, nmss]
 | t :: r => by simp [encs, lays, nmss, lay_enc t, lays_encs r]
end
theorem sizes_len : ∀ ts : List Th, ts.length ≤ sizes ts
 | [] => by simp [sizes]
 | t :: r => by
  have h := sizes_len r
  have h2 := size_kids t
  simp only [List.length_cons, sizes]
  omega
theorem sum_map_cast : ∀ ts : List Th, (ts.map fun t => ((size t : Nat) : Int)).sum = ((sizes ts : Nat) : Int)
 | [] => by simp [sizes]
 | t :: r => by simp only [List.map_cons, List.sum_cons, sum_map_cast r, sizes]; omega
end G
namespace G
theorem lm0 : (0 ≤ lim) = True := eq_true (by decide)
theorem lm1 : (0 + 1 ≤ lim) = True := eq_true (by decide)
theorem lm2 : (0 + 1 + 1 ≤ lim) = True := eq_true (by decide)
theorem lm3 : (0 + 1 + 1 + 1 ≤ lim) = True := eq_true (by decide)
theorem lm4 : (0 + 1 + 1 + 1 + 1 ≤ lim) = True := eq_true (by decide)
theorem lm5 : (0 + 1 + 1 + 1 + 1 + 1 ≤ lim) = True := eq_true (by decide)
theorem lm6 : (0 + 1 + 1 + 1 + 1 + 1 + 1 ≤ lim) = True := eq_true (by decide)
theorem lm7 : (0 + 1 + 1 + 1 + 1 + 1 + 1 + 1 ≤ lim) = True := eq_true (by decide)
theorem lm8 : (0 + 1 + 1 + 1 + 1 + 1 + 1 + 1 + 1 ≤ lim) = True := eq_true (by decide)
theorem lm9 : (0 + 1 + 1 + 1 + 1 + 1 + 1 + 1 + 1 + 1 ≤ lim) = True := eq_true (by decide)
theorem lm10 : (0 + 1 + 1 + 1 + 1 + 1 + 1 + 1 + 1 + 1 + 1 ≤ lim) = True := eq_true (by decide)
theorem lm11 : (0 + 1 + 1 + 1 + 1 + 1 + 1 + 1 + 1 + 1 + 1 + 1 ≤ lim) = True := eq_true (by decide)
theorem lm12 : (0 + 1 + 1 + 1 + 1 + 1 + 1 + 1 + 1 + 1 + 1 + 1 + 1 ≤ lim) = True := eq_true (by decide)
end G
namespace G
open PySem L2
theorem lc_mapE {M : MI} {i : Nat} {e : Sm M S} {α : Type} (en : α → D) {g : α → D} {z : Z M.T} (hz : wipeZ z [i] = z) : ∀ (ts : List α) (acc : List D), acc.length + ts.length ≤ lim →
  (∀ t ∈ ts, ∃ z1, escf e { z with rho := z.rho.set i (some (.d (en t))) } = .ok (.d (g t)) z1 ∧ wipeZ z1 [i] = z) → lcL (kName i) (fun z => .ok true z) e [i] (ts.map en) acc z = .ok (acc ++ ts.map g) z
 | [], acc, _, _ => by simp [lcL]
 | d :: r, acc, hl, h => by
  obtain ⟨z1, h1, h2⟩ := h d List.mem_cons_self
  rw [List.length_cons] at hl
  rw [List.map_cons]
  unfold lcL
  simp only [kName, nox, Rs.bind_ok, if_true, h1]
  rw [if_pos (by omega), h2, lc_mapE en hz r (acc ++ [g d]) (by rw [List.length_append, List.length_singleton]; omega) (fun d hd => h d (List.mem_cons_of_mem _ hd))]
  simp
theorem intsOf_map {α : Type} (f : α → Int) : ∀ ts : List α, intsOf (ts.map fun t => D.int (f t)) = some (ts.map f)
 | [] => rfl
 | t :: r => by rw [List.map_cons, intsOf, intsOf_map f r]; rfl
theorem maxL_depths : ∀ ts : List Th, maxL (0 :: ts.map fun t => ((depth t : Nat) : Int)) = ((depths ts : Nat) : Int)
 | [] => by simp [maxL, depths]
 | t :: r => by
  have h := maxL_is (ns := 0 :: (t :: r).map fun t => ((depth t : Nat) : Int)) (by intro e; cases e)
  have up : ∀ ts : List Th, ∀ y ∈ (ts.map fun t => ((depth t : Nat) : Int)), y ≤ ((depths ts : Nat) : Int) := fun ts => by
   induction ts with
   | nil => intro y hy; cases hy
   | cons t r ih =>
    intro y hy
    rw [List.map_cons] at hy
    rw [depths]
    rcases List.mem_cons.mp hy with rfl | hy
    ·omega
    ·have := ih y hy; omega
  have lo : ∀ ts : List Th, ts = [] ∨ ((depths ts : Nat) : Int) ∈ (ts.map fun t => ((depth t : Nat) : Int)) := fun ts => by
   induction ts with
   | nil => exact .inl rfl
   | cons t r ih =>
    refine .inr ?_
    rw [depths, List.map_cons]
    rcases ih with rfl | ih
    ·rw [depths]
     simp
    ·by_cases c : depth t ≤ depths r
     ·rw [Nat.max_eq_right c]; exact List.mem_cons_of_mem _ ih
     ·rw [Nat.max_eq_left (by omega)]; exact List.mem_cons_self
  refine Int.le_antisymm ?_ ?_
  ·rcases List.mem_cons.mp h.1 with e | e
   ·rw [e]; omega
   ·exact up (t :: r) _ e
  ·rcases lo (t :: r) with e | e
   ·cases e
   ·exact h.2 _ (List.mem_cons_of_mem _ e)
theorem eqD_int (i j : Int) : eqD (.int i) (.int j) = (i == j) := by simp [eqD, toPy, PyData.eqv]
theorem eqD_str (i j : Str) : eqD (.str i) (.str j) = (i == j) := by simp [eqD, toPy, PyData.eqv]
noncomputable def eqDs : List D → List D → Bool
 | [], [] => true
 | x :: r, y :: s => eqD x y && eqDs r s
 | _, _ => false
theorem eqvAll_toPys : ∀ xs ys : List D, PyData.eqvAll (toPys xs) (toPys ys) = eqDs xs ys
 | [], [] => by simp [toPys, PyData.eqvAll, eqDs]
 | [], _ :: _ => by simp [toPys, PyData.eqvAll, eqDs]
 | _ :: _, [] => by simp [toPys, PyData.eqvAll, eqDs]
 | x :: r, y :: s => by simp only [toPys, PyData.eqvAll, eqDs, eqD, eqvAll_toPys r s]
theorem eqD_tup (xs ys : List D) : eqD (.tup xs) (.tup ys) = eqDs xs ys := by
 unfold eqD
 rw [toPy, toPy, PyData.eqv, eqvAll_toPys]
end G
namespace G
open PySem L2
theorem noOwn_one {rho : List (Option S)} {i : Nat} (h : rho.set i none = rho) : noOwn rho [i] = true := by
 unfold noOwn
 rw [List.all_cons, List.all_nil, Bool.and_true, ← h, List.getElem?_set]
 simp only [if_true]
 split
 ·rename_i h; split at h <;> cases h
 ·rfl
theorem rest_one {rho : List (Option S)} {i : Nat} (h : rho.set i none = rho) : restR rho rho [i] = rho := by
 unfold restR restR
 have e : rho[i]?.getD none = none := by
  rw [← h, List.getElem?_set]
  simp only [if_true]
  split <;> rfl
 rw [e, h]
theorem elc_map {M : MI} {i : Nat} {its : Sm M (List D)} {e : Sm M S} {α : Type} (en : α → D) {g : α → D} {ts : List α} {z z0 : Z M.T} (h0 : its z0 = .ok (ts.map en) z) (hi : z.rho.set i none = z.rho) (hl : ts.length ≤ lim)
  (h : ∀ t ∈ ts, escf e { z with rho := z.rho.set i (some (.d (en t))) } = .ok (.d (g t)) { z with rho := z.rho.set i (some (.d (en t))) }) : eLc its (kName i) (fun z => .ok true z) e [i] z0 = .ok (.l (ts.map g)) z := by
 have hw : wipeZ z [i] = z := by unfold wipeZ wipeR wipeR; rw [hi]
 unfold eLc
 rw [h0, Rs.bind_ok, if_pos (noOwn_one hi), hw, lc_mapE en hw ts [] (by rw [List.length_nil]; omega) (fun t ht => ⟨_, h t ht, by unfold wipeZ wipeR wipeR; simp only [List.set_set, hi]⟩), Rs.bind_ok, rest_one hi]
 rfl
theorem lc_run {M : MI} {i : Nat} {e : Sm M S} {α : Type} {en : α → D} {P : α → Prop} {Q : Nat → M.T → Prop} {rho : List (Option S)} (hi : rho.set i none = rho)
  (h : ∀ k d m, Q (k + 1) m → ∃ t m', escf e ⟨rho.set i (some (.d d)), m⟩ = .ok (.d (en t)) ⟨rho.set i (some (.d d)), m'⟩ ∧ P t ∧ Q k m') :
  ∀ (ds : List D) (acc : List D) (m : M.T), acc.length + ds.length ≤ lim → Q ds.length m → ∃ (ts : List α) (m' : M.T), lcL (M := M) (kName i) (fun z => .ok true z) e [i] ds acc ⟨rho, m⟩ = .ok (acc ++ ts.map en) ⟨rho, m'⟩ ∧ ts.length = ds.length ∧ (∀ t ∈ ts, P t) ∧ Q 0 m'
 | [], acc, m, _, q => ⟨[], m, by simp [lcL], rfl, (fun t ht => by cases ht), q⟩
 | d :: r, acc, m, hl, q => by
  rw [List.length_cons] at hl q
  obtain ⟨t, m1, h1, h2, h3⟩ := h _ d m q
  obtain ⟨ts, m2, g1, g2, g3, g4⟩ := lc_run hi h r (acc ++ [en t]) m1 (by rw [List.length_append, List.length_singleton]; omega) h3
  refine ⟨t :: ts, m2, ?_, by rw [List.length_cons, g2, List.length_cons], ?_, g4⟩
  ·unfold lcL
   simp only [kName, nox, Rs.bind_ok, if_true, h1]
   rw [if_pos (by omega)]
   have hw : wipeZ (⟨rho.set i (some (.d d)), m1⟩ : Z M.T) [i] = ⟨rho, m1⟩ := by unfold wipeZ wipeR wipeR; simp only [List.set_set, hi]
   rw [hw, g1]
   simp
  ·intro u hu
   rcases List.mem_cons.mp hu with rfl | hu
   ·exact h2
   ·exact g3 u hu
theorem elc_run {M : MI} {i : Nat} {its : Sm M (List D)} {e : Sm M S} {α : Type} {en : α → D} {P : α → Prop} {Q : Nat → M.T → Prop} {rho : List (Option S)} {z0 : Z M.T} {ds : List D} {m : M.T} (h0 : its z0 = .ok ds ⟨rho, m⟩) (hi : rho.set i none = rho) (hl : ds.length ≤ lim) (q : Q ds.length m)
  (h : ∀ k d m, Q (k + 1) m → ∃ t m', escf e ⟨rho.set i (some (.d d)), m⟩ = .ok (.d (en t)) ⟨rho.set i (some (.d d)), m'⟩ ∧ P t ∧ Q k m') :
  ∃ (ts : List α) (m' : M.T), eLc its (kName i) (fun z => .ok true z) e [i] z0 = .ok (.l (ts.map en)) ⟨rho, m'⟩ ∧ ts.length = ds.length ∧ (∀ t ∈ ts, P t) ∧ Q 0 m' := by
 obtain ⟨ts, m', g1, g2, g3, g4⟩ := lc_run (M := M) hi h ds [] m (by rw [List.length_nil]; omega) q
 refine ⟨ts, m', ?_, g2, g3, g4⟩
 have hw : wipeZ (⟨rho, m⟩ : Z M.T) [i] = ⟨rho, m⟩ := by unfold wipeZ wipeR wipeR; simp only [hi]
 unfold eLc
 rw [h0, Rs.bind_ok, if_pos (noOwn_one hi), hw, g1, Rs.bind_ok]
 simp only [rest_one hi]
 rfl
end G
namespace G
open PySem L2
theorem atI0 {α : Type} (x : α) (r : List α) : atI (x :: r) 0 = some x := by
 unfold atI ixN
 simp
end G
namespace G
open PySem L2
end G
namespace G
open PySem L2
theorem dSub_i (i j : Int) : dSub (.int i) (.int j) = some (.d (.int (i - j))) := rfl
theorem dLt_i (i j : Int) : dLt (.int i) (.int j) = some (.d (.bl (decide (i < j)))) := rfl
theorem dLe_i (i j : Int) : dLe (.int i) (.int j) = some (.d (.bl (decide (i ≤ j)))) := rfl
theorem dGt_i (i j : Int) : dGt (.int i) (.int j) = some (.d (.bl (decide (j < i)))) := rfl
theorem dGe_i (i j : Int) : dGe (.int i) (.int j) = some (.d (.bl (decide (j ≤ i)))) := rfl
theorem dAdd_i (i j : Int) : dAdd (.int i) (.int j) = some (.d (.int (i + j))) := rfl
theorem dEq_i (i j : Int) : dEq (.int i) (.int j) = some (.d (.bl (decide (i = j)))) := by
 unfold dEq
 rw [if_pos (by rfl), eqD_int]
 rfl
theorem dNe_i (i j : Int) : dNe (.int i) (.int j) = some (.d (.bl (!decide (i = j)))) := by
 unfold dNe
 rw [if_pos (by rfl), eqD_int]
 rfl
end G
namespace G
open PySem L2
theorem seq_nx {M : MI} {f g : Sm M Out} {z z1 : Z M.T} (h : f z = .ok .nx z1) : sSeq f g z = g z1 := by
 simp only [sSeq, sKk_nx, sKk_rt, sKk_bk, sKk_ct, h, Rs.bind_ok]
theorem seq_rt {M : MI} {f g : Sm M Out} {z z1 : Z M.T} {s : S} (h : f z = .ok (.rt s) z1) : sSeq f g z = .ok (.rt s) z1 := by
 simp only [sSeq, sKk_nx, sKk_rt, sKk_bk, sKk_ct, h, Rs.bind_ok]
theorem fnM_d {M : MI} {n : Nat} {b : Sm M Out} {args : List S} {t t' : M.T} {x : D} {rho' : List (Option S)} (h : b { rho := args.map some ++ List.replicate (n - args.length) none, m := t } = .ok (.rt (.d x)) ⟨rho', t'⟩) : fnM n b args t = .ok (.d x) t' := by
 simp only [fnM, h]
end G
namespace G
open PySem L2
theorem dAdd_s {x y : Str} (h : x.length + y.length ≤ lim) : dAdd (.str x) (.str y) = some (.d (.str (x ++ y))) := by
 unfold dAdd
 exact if_pos h
theorem fLen_s {w : Str} (h : w.length ≤ lim) : fLen [.str w] = some (.d (.int (w.length : Nat))) := by
 unfold fLen
 exact if_pos h
noncomputable def okS (w : Str) : Prop := ∀ c ∈ w.cps.toList, c < 0x110000
theorem okS_app {x y : Str} (a : okS x) (b : okS y) : okS (x ++ y) := by
 intro c hc
 have e : (x ++ y).cps.toList = x.cps.toList ++ y.cps.toList := by
  show (x.cps ++ y.cps).toList = _
  simp
 rw [e] at hc
 rcases List.mem_append.mp hc with h | h
 ·exact a c h
 ·exact b c h
theorem len_app (x y : Str) : (x ++ y).length = x.length + y.length := by
 show (x.cps ++ y.cps).size = x.cps.size + y.cps.size
 simp
theorem okS_of {x : Str} (h : PyData.strOk x = true) : okS x := by
 intro c hc
 unfold PyData.strOk at h
 rw [Array.all_eq_true_iff_forall_mem] at h
 have := h c (by simpa using hc)
 simpa using this
theorem blsOf_map {α : Type} (f : α → Bool) : ∀ ts : List α, blsOf (ts.map fun t => D.bl (f t)) = some (ts.map f)
 | [] => rfl
 | t :: r => by rw [List.map_cons, blsOf, blsOf_map f r]; rfl
end G
namespace G
open PySem L2
theorem tag_inj {n m : Nat} (h : tag n = tag m) : n = m := by
 unfold tag at h
 injection h with h
 have h2 : [rawInt (n : Nat)] = [rawInt (m : Nat)] := congrArg Array.toList h
 injection h2 with h3
 unfold rawInt at h3
 injection h3 with h4
 exact Int.ofNat.inj h4
inductive MO where
  | lst (xs : List D)
  | dK (ps : List (Key × D))
  /-- an instance of a class, its attributes -/
  | ins (c : Str) (fs : List (Str × D))
inductive DaF (K : PySem.W.Frag) (F : Hp) : List (Str × V) → List (Str × D) → Prop
  | nil : DaF K F [] []
  | cons {k : Str} {v : V} {d : D} {r : List (Str × V)} {r' : List (Str × D)} : Da K F v d → DaF K F r r' → DaF K F ((k, v) :: r) ((k, d) :: r')
theorem DaF.mono {K : PySem.W.Frag} {F F' : Hp} (h : Same F F') : ∀ {a b}, DaF K F a b → DaF K F' a b
 | _, _, .nil => .nil
 | _, _, .cons q r => .cons (q.mono h) (DaF.mono h r)
inductive DaK (K : PySem.W.Frag) (F : Hp) : List (Key × V) → List (Key × D) → Prop
  | nil : DaK K F [] []
  | cons {k : Key} {v : V} {d : D} {r : List (Key × V)} {r' : List (Key × D)} : Da K F v d → DaK K F r r' → DaK K F ((k, v) :: r) ((k, d) :: r')
theorem DaK.mono {K : PySem.W.Frag} {F F' : Hp} (h : Same F F') : ∀ {a b}, DaK K F a b → DaK K F' a b
 | _, _, .nil => .nil
 | _, _, .cons q r => .cons (q.mono h) (DaK.mono h r)
theorem DaK.length {K : PySem.W.Frag} {F : Hp} : ∀ {a b}, DaK K F a b → a.length = b.length
 | _, _, .nil => rfl
 | _, _, .cons _ r => congrArg (· + 1) (DaK.length r)
noncomputable def valD (ps : List (Key × D)) (k : Key) : Option D := match ps with
 | [] => none
 | p :: r => if p.1 = k then some p.2 else valD r k
noncomputable def putD (ps : List (Key × D)) (k : Key) (d : D) : List (Key × D) :=
 if (ps.any fun kv => decide (kv.1 = k)) = true then ps.map (fun kv => if kv.1 = k then (kv.1, d) else kv) else ps ++ [(k, d)]
theorem DaK.val {K : PySem.W.Frag} {F : Hp} (k : Key) : ∀ {a b}, DaK K F a b → (valD b k = none ∧ valV a k = none) ∨ ∃ v d, valD b k = some d ∧ valV a k = some v ∧ Da K F v d
 | _, _, .nil => .inl ⟨rfl, rfl⟩
 | _, _, .cons (k := k') q r => by
  by_cases e : k' = k
  ·exact .inr ⟨_, _, by rw [valD, if_pos e], valV_pos e, q⟩
  ·rw [valD, if_neg e, valV_neg e]
   exact DaK.val k r
theorem DaK.any {K : PySem.W.Frag} {F : Hp} (k : Key) : ∀ {a b}, DaK K F a b → (a.any fun kv => decide (kv.1 = k)) = (b.any fun kv => decide (kv.1 = k))
 | _, _, .nil => rfl
 | _, _, .cons q r => by rw [List.any_cons, List.any_cons, DaK.any k r]
theorem DaK.app {K : PySem.W.Frag} {F : Hp} : ∀ {a b a' b'}, DaK K F a b → DaK K F a' b' → DaK K F (a ++ a') (b ++ b')
 | _, _, _, _, .nil, h => h
 | _, _, _, _, .cons q r, h => .cons q (DaK.app r h)
theorem DaK.map {K : PySem.W.Frag} {F : Hp} (k : Key) {v : V} {d : D} (hv : Da K F v d) : ∀ {a b}, DaK K F a b → DaK K F (a.map fun kv => if kv.1 = k then (kv.1, v) else kv) (b.map fun kv => if kv.1 = k then (kv.1, d) else kv)
 | _, _, .nil => .nil
 | _, _, .cons (k := k') q r => by
  rw [List.map_cons, List.map_cons]
  by_cases e : k' = k
  ·rw [if_pos e, if_pos e]; exact .cons hv (DaK.map k hv r)
  ·rw [if_neg e, if_neg e]; exact .cons q (DaK.map k hv r)
theorem DaK.put {K : PySem.W.Frag} {F : Hp} (k : Key) {v : V} {d : D} (hv : Da K F v d) {a b} (h : DaK K F a b) : DaK K F (putK a k v) (putD b k d) := by
 unfold putK putD
 rw [h.any k]
 split
 ·exact h.map k hv
 ·exact h.app (.cons hv .nil)
noncomputable def Holds (K : PySem.W.Frag) (F H : Hp) (a : Addr) : MO → Prop
 | .lst xs => ∃ vs, H a = some (.lst vs) ∧ DaAll K F vs xs
 | .dK ps => ∃ kvs, H a = some (.dK kvs) ∧ DaK K F kvs ps
 | .ins c fs => ∃ C dx vs, xrK K c = some (.ref C) ∧ H a = some (.ins C dx vs) ∧ DaF K F vs fs
theorem Holds.mono {K : PySem.W.Frag} {F F' H H' : Hp} {a : Addr} {o : MO} (s : Same F F') (e : H' a = H a) (h : Holds K F H a o) : Holds K F' H' a o := by
 cases o with
 | lst xs =>
  obtain ⟨vs, h1, h2⟩ := h
  exact ⟨vs, e.trans h1, h2.mono s⟩
 | dK ps =>
  obtain ⟨vs, h1, h2⟩ := h
  exact ⟨vs, e.trans h1, h2.mono s⟩
 | ins c fs =>
  obtain ⟨C, dx, vs, h0, h1, h2⟩ := h
  exact ⟨C, dx, vs, h0, e.trans h1, h2.mono s⟩
theorem Holds.some {K : PySem.W.Frag} {F H : Hp} {a : Addr} {o : MO} (h : Holds K F H a o) : H a ≠ none := by
 cases o with
 | lst xs =>
  obtain ⟨vs, h1, h2⟩ := h
  rw [h1]; intro z; cases z
 | dK ps =>
  obtain ⟨vs, h1, h2⟩ := h
  rw [h1]; intro z; cases z
 | ins c fs =>
  obtain ⟨C, dx, vs, h0, h1, h2⟩ := h
  rw [h1]; intro z; cases z
noncomputable abbrev MX : MI where
 T := List MO
 ok := fun K F H ms t => ms = [] ∧ (∀ n o, t[n]? = some o → ∃ a, F a = some (tag n) ∧ Holds K F H a o) ∧ (∀ a ps, F a = some (.tbl ps) → ∃ n, n < t.length ∧ HO.tbl ps = tag n) ∧ ∀ a b n, F a = some (tag n) → F b = some (tag n) → a = b
 mono := fun {K F F' H H' ms t} hF ht hm h => by
  obtain ⟨h0, h1, h2, h3⟩ := h
  refine ⟨h0, fun n o e => ?_, fun a ps e => h2 a ps (ht a ps e).1, fun a b n e1 e2 => h3 a b n (ht a _ e1).1 (ht b _ e2).1⟩
  obtain ⟨a, ha, hh⟩ := h1 n o e
  exact ⟨a, hF _ _ ha, hh.mono hF (ht a _ (hF _ _ ha)).2⟩
section
variable {G : Gx} {W : WX} {σ : St} {H H' F F' : Hp} {z : Z (List MO)}
theorem Ok.noms (ok : Ok MX G σ H F z) : G.ms = [] := ok.mach.1
theorem Ok.alloc (ok : Ok MX G σ H F z) {p : Addr} (hp : H p = none) {ho : HO} {o : MO} (hh : Holds G.K (upd F p (tag z.m.length)) (upd H p ho) p o) : Ok MX G σ (upd H p ho) (upd F p (tag z.m.length)) { z with m := z.m ++ [o] } where
 sub := fun b u q n => by
  by_cases e : b = p
  ·subst e
   rw [upd_same] at q
   exact (n _ (Option.some.inj q).symm).elim
  ·rw [upd_ne e] at q ⊢
   exact ok.sub b u q n
 len := ok.len
 slot := fun i s e => by
  obtain ⟨v, h1, h2⟩ := ok.slot i s e
  refine ⟨v, h1, ?_⟩
  have sm := same_upd (o := tag z.m.length) (ok.freshF hp)
  cases s with
  | d x => exact Da.mono sm h2
  | l xs =>
   obtain ⟨a, vs, rfl, h3, h4, h5, h6, h7⟩ := h2
   have nb := ne_of_none h3 hp
   exact ⟨a, vs, rfl, (upd_ne nb).trans h3, h4.mono sm, (upd_ne nb).trans h5, h6, h7⟩
  | v _ => exact h2
  | m j => exact h2
 dist := ok.dist
 mach := by
  have fp := ok.freshF hp
  obtain ⟨h0, h1, h2, h3⟩ := ok.mach
  have old : ∀ a n, upd F p (tag z.m.length) a = some (tag n) → (a = p ∧ n = z.m.length) ∨ (a ≠ p ∧ F a = some (tag n) ∧ n < z.m.length) := fun a n e => by
   by_cases q : a = p
   ·subst q
    rw [upd_same] at e
    exact .inl ⟨rfl, (tag_inj (Option.some.inj e)).symm⟩
   ·rw [upd_ne q] at e
    obtain ⟨k, hk, ek⟩ := h2 a _ e
    rw [tag_inj (show tag n = tag k from ek)]
    exact .inr ⟨q, by rw [← tag_inj (show tag n = tag k from ek)]; exact e, hk⟩
  refine ⟨h0, fun n u e => ?_, fun a ps e => ?_, fun a b n e1 e2 => ?_⟩
  ·have e' : (z.m ++ [o])[n]? = some u := e
   by_cases q : n < z.m.length
   ·rw [List.getElem?_append_left q] at e'
    obtain ⟨a, ha, hu⟩ := h1 n u e'
    have nb := ne_of_none ha fp
    exact ⟨a, (upd_ne nb).trans ha, hu.mono (same_upd fp) (upd_ne nb)⟩
   ·have en : n = z.m.length := by
     have := (List.getElem?_eq_some_iff.mp e').1
     rw [List.length_append, List.length_singleton] at this
     omega
    subst en
    rw [List.getElem?_append_right (Nat.le_refl _), Nat.sub_self] at e'
    cases e'
    exact ⟨p, upd_same, hh⟩
  ·by_cases q : a = p
   ·subst q
    rw [upd_same] at e
    exact ⟨z.m.length, by show _ < (z.m ++ [o]).length; rw [List.length_append, List.length_singleton]; omega, (Option.some.inj e).symm⟩
   ·rw [upd_ne q] at e
    obtain ⟨k, hk, ek⟩ := h2 a ps e
    exact ⟨k, by show _ < (z.m ++ [o]).length; rw [List.length_append]; omega, ek⟩
  ·rcases old a n e1 with ⟨rfl, en⟩ | ⟨_, q1, ln⟩
   ·rcases old b n e2 with ⟨rfl, _⟩ | ⟨_, _, ln⟩
    ·rfl
    ·omega
   ·rcases old b n e2 with ⟨rfl, en⟩ | ⟨_, q2, _⟩
    ·omega
    ·exact h3 a b n q1 q2
 msF := fun a ha => by rw [ok.noms] at ha; cases ha
 msP := fun a ha => by rw [ok.noms] at ha; cases ha
 msH := fun a ha => by rw [ok.noms] at ha; cases ha
 fr := fun b u q => by
  obtain ⟨h1, h2⟩ := ok.fr b u q
  have nb := ne_of_none h1 hp
  exact ⟨(upd_ne nb).trans h1, (upd_ne nb).trans h2⟩
 tg := fun a ps e => by
  by_cases q : a = p
  ·subst q
   exact ⟨(by rw [upd_same]; intro y; cases y), ok.freshP hp⟩
  ·rw [upd_ne q] at e ⊢
   exact ok.tg a ps e
theorem Ok.putO (ok : Ok MX G σ H F z) {a : Addr} {n : Nat} (ha : F a = some (tag n)) {ho : HO} {o : MO} (hh : Holds G.K F (upd H a ho) a o) : Ok MX G σ (upd H a ho) F { z with m := z.m.set n o } where
 sub := fun b u q nt => by
  have nb : b ≠ a := fun e => by
   rw [e, ha] at q
   exact nt _ (Option.some.inj q).symm
  rw [upd_ne nb]
  exact ok.sub b u q nt
 len := ok.len
 slot := fun i s e => by
  obtain ⟨v, h1, h2⟩ := ok.slot i s e
  refine ⟨v, h1, ?_⟩
  cases s with
  | d x => exact h2
  | l xs =>
   obtain ⟨b, vs, rfl, h3, h4, h5, h6, h7⟩ := h2
   have nb : b ≠ a := fun e => by rw [e, ha] at h5; cases h5
   exact ⟨b, vs, rfl, (upd_ne nb).trans h3, h4, h5, h6, h7⟩
  | v _ => exact h2
  | m j => exact h2
 dist := ok.dist
 mach := by
  obtain ⟨h0, h1, h2, h3⟩ := ok.mach
  refine ⟨h0, fun k u e => ?_, fun b ps e => ?_, h3⟩
  ·have e' : (z.m.set n o)[k]? = some u := e
   by_cases q : k = n
   ·subst q
    have hl : k < z.m.length := by
     have := (List.getElem?_eq_some_iff.mp e').1
     rw [List.length_set] at this
     exact this
    rw [List.getElem?_set_self hl] at e'
    cases e'
    exact ⟨a, ha, hh⟩
   ·rw [List.getElem?_set_ne (Ne.symm q)] at e'
    obtain ⟨b, hb, hu⟩ := h1 k u e'
    have nb : b ≠ a := fun e => by
     rw [e, ha] at hb
     exact q (tag_inj (Option.some.inj hb)).symm
    exact ⟨b, hb, hu.mono (Same.refl _) (upd_ne nb)⟩
  ·obtain ⟨k, hk, ek⟩ := h2 b ps e
   exact ⟨k, by show _ < (z.m.set n o).length; rw [List.length_set]; exact hk, ek⟩
 msF := fun a ha => by rw [ok.noms] at ha; cases ha
 msP := fun a ha => by rw [ok.noms] at ha; cases ha
 msH := fun a ha => by rw [ok.noms] at ha; cases ha
 fr := fun b u q => by
  obtain ⟨h1, h2⟩ := ok.fr b u q
  have nb : b ≠ a := fun e => by rw [e, (ok.tg a _ ha).2] at q; cases q
  exact ⟨(upd_ne nb).trans h1, h2⟩
 tg := fun b ps e => by
  refine ⟨?_, (ok.tg b ps e).2⟩
  by_cases q : b = a
  ·subst q
   rw [upd_same]; intro y; cases y
  ·rw [upd_ne q]; exact (ok.tg b ps e).1
theorem Ok.objAt (ok : Ok MX G σ H F z) {v : V} {n : Nat} {o : MO} (h : Da G.K F v (.o n)) (e : z.m[n]? = some o) : ∃ a, v = .ref a ∧ F a = some (tag n) ∧ Holds G.K F H a o := by
 cases h with
 | o q =>
  obtain ⟨h0, h1, h2, h3⟩ := ok.mach
  obtain ⟨b, hb, hh⟩ := h1 n o e
  rename_i a
  cases h3 a b n q hb
  exact ⟨a, rfl, q, hh⟩
end
noncomputable def keyD : D → Option Key
 | .int i => some (.inl i)
 | .str x => some (.inr x)
 | _ => none
theorem keyD_v {K : PySem.W.Frag} {F H : Hp} {v : V} {d : D} {k : Key} (h : Rv K F H v d) (e : keyD d = some k) : v = kV k := by
 cases d with
 | int i => cases e; exact h.int
 | str x => cases e; exact h.str
 | _ => cases e
section
variable {ι : Type} {xr : Str → Option Value} {K : PySem.W.Frag} {X : ι → Cx} {W : WX} {N : List Str} {mg : Str → Option Value}
noncomputable def dictAt (z : Z (List MO)) (s : S) : Option (Nat × List (Key × D)) := match rd z s with
 | some (.o n) => (match z.m[n]? with
  | some (.dK ps) => some (n, ps)
  | _ => none)
 | _ => none
theorem dictAt_rv {G : Gx} {σ : St} {H F : Hp} {z : Z (List MO)} (ok : Ok MX G σ H F z) {v : V} {s : S} {n : Nat} {ps : List (Key × D)} (e : EO G σ F v s) (h : dictAt z s = some (n, ps)) : ∃ a kvs, v = .ref a ∧ F a = some (tag n) ∧ z.m[n]? = some (.dK ps) ∧ H a = some (.dK kvs) ∧ DaK G.K F kvs ps := by
 unfold dictAt at h
 split at h
 ·rename_i k er
  split at h
  ·rename_i qs em
   cases h
   have r := (EO.rv ok e er).da (fun _ q => by cases q)
   obtain ⟨a, rfl, h1, kvs, h2, h3⟩ := ok.objAt r em
   exact ⟨a, kvs, rfl, h1, em, h2, h3⟩
  ·cases h
 ·cases h
theorem getD_da {K : PySem.W.Frag} {F : Hp} {kvs : List (Key × V)} {ps : List (Key × D)} (h : DaK K F kvs ps) (k : Key) {w : V} {x : D} (hw : Da K F w x) : Da K F ((valV kvs k).getD w) ((valD ps k).getD x) := by
 rcases h.val k with ⟨e1, e2⟩ | ⟨v, d, e1, e2, e3⟩
 ·rw [e1, e2]; exact hw
 ·rw [e1, e2]; exact e3
noncomputable def eDGet2 (f g h : Sm MX S) (z : Z MX.T) : Rs S (Z MX.T) := (opd f z).bind fun s z1 => match dictAt z1 s with
 | some _ => (opd g z1).bind fun s' z2 => (escf h z2).bind fun s'' z3 => (match dictAt z3 s, (rd z3 s').bind keyD, s'' with
  | some (_, ps), some k, .d x => .ok (.d ((valD ps k).getD x)) z3
  | _, _, _ => .bad)
 | none => .bad
theorem de_dget2 {o e e' : Expr} {f g h : Sm MX S} {apos cpos : Pos} (p : Pl K X N mg) (ho : DE MX xr K X W o f) (he : DE MX xr K X W e g) (he' : DE MX xr K X W e' h) (m : ∀ j, L2.M2 (X j) o "get" apos e e' cpos) : DE MX xr K X W (.Call (.Attribute o "get" apos) [e, e'] [] cpos) (eDGet2 f g h) := by
 obtain ⟨t1, p1, c1⟩ := ho
 obtain ⟨t2, p2, c2⟩ := he
 obtain ⟨t3, p3, c3⟩ := he'
 refine ⟨_, fun j => pe_dget2 (by have := p.u j; omega) (p1 j) (p2 j) (p3 j) (m j), fun G σ H F z Q hK hx ok hh => ?_⟩
 refine cmp_opd c1 G σ H F z _ hK hx ok (hit_bind hh fun s z1 v H1 F1 _ sm1 ok1 ev h1 => ?_)
 cases e1 : dictAt z1 s with
 | none => rw [e1] at h1; exact h1.elim
 | some q =>
  obtain ⟨n, ps⟩ := q
  rw [e1] at h1
  obtain ⟨a, kvs, rfl, ha, em, hH, hk⟩ := dictAt_rv ok1 ev e1
  refine ⟨a, rfl, .inl ⟨kvs, .inl hH⟩, ?_⟩
  refine cmp_opd c2 G σ H1 F1 z1 _ hK hx ok1 (hit_bind h1 fun s' z2 v' H2 F2 _ sm2 ok2 ev2 h2 => ?_)
  refine cmp_esc c3 G σ H2 F2 z2 _ hK hx ok2 (hit_bind h2 fun s'' z3 v'' H3 F3 _ sm3 ok3 ev3 h3 => ?_)
  cases e2 : dictAt z3 s with
  | none => simp only [e2] at h3; exact h3.elim
  | some q =>
   obtain ⟨n', ps'⟩ := q
   cases e3 : (rd z3 s').bind keyD with
   | none => simp only [e2, e3] at h3; exact h3.elim
   | some k =>
    cases s'' with
    | d x =>
     simp only [e2, e3] at h3
     obtain ⟨a', kvs', ea, ha', em', hH', hk'⟩ := dictAt_rv ok3 (EO.mono sm3 (EO.mono sm2 ev)) e2
     cases ea
     cases er : rd z3 s' with
     | none => rw [er] at e3; cases e3
     | some d =>
      rw [er] at e3
      have hv := keyD_v (EO.rv ok3 (EO.mono sm3 ev2) er) e3
      subst hv
      exact ⟨_, DGet.k hH', h3 _ H3 F3 (Same.refl _) ok3 (getD_da hk' k ev3)⟩
    | l _ => simp only [e2, e3] at h3; exact h3.elim
    | v _ => simp only [e2, e3] at h3; exact h3.elim
    | m _ => simp only [e2, e3] at h3; exact h3.elim
noncomputable def eNewL (g : Sm MX (List S)) (z : Z MX.T) : Rs S (Z MX.T) := (g z).bind fun ss z1 => match dsOf ss with
 | some ds => if ds.length ≤ lim then .ok (.d (.o z1.m.length)) { z1 with m := z1.m ++ [.lst ds] } else .bad
 | none => .bad
theorem de_newL {es : List Expr} {g : Sm MX (List S)} {pos} (h : DA MX xr K X W es g) : DE MX xr K X W (.List es pos) (eNewL g) := by
 obtain ⟨t, p, c⟩ := h
 refine ⟨_, fun j => pe_lst (p j), fun G σ H F z Q hK hx ok hh => ?_⟩
 refine c G σ H F z _ hK hx ok (hit_bind hh fun ss z1 vs H1 F1 _ sm1 ok1 e1 h1 => ?_)
 cases e : dsOf ss with
 | none => rw [e] at h1; exact h1.elim
 | some ds =>
  rw [e] at h1
  have da := paired_ds e1 e
  by_cases hl : ds.length ≤ lim
  ·simp only [if_pos hl] at h1
   refine ⟨by rw [da.length]; exact Nat.le_trans hl (Nat.le_of_lt lim_line), fun p hp => ?_⟩
   exact h1 (.ref p) (upd H1 p (.lst vs)) (upd F1 p (tag z1.m.length)) (same_upd (ok1.freshF hp)) (ok1.alloc hp ⟨vs, upd_same, da.mono (same_upd (ok1.freshF hp))⟩) (Da.o upd_same)
  ·simp only [if_neg hl] at h1
   exact h1.elim
noncomputable def listAt (z : Z (List MO)) (s : S) : Option (Nat × List D) := match rd z s with
 | some (.o n) => (match z.m[n]? with
  | some (.lst xs) => some (n, xs)
  | _ => none)
 | _ => none
theorem listAt_rv {G : Gx} {σ : St} {H F : Hp} {z : Z (List MO)} (ok : Ok MX G σ H F z) {v : V} {s : S} {n : Nat} {xs : List D} (e : EO G σ F v s) (h : listAt z s = some (n, xs)) : ∃ a vs, v = .ref a ∧ F a = some (tag n) ∧ z.m[n]? = some (.lst xs) ∧ H a = some (.lst vs) ∧ DaAll G.K F vs xs := by
 unfold listAt at h
 split at h
 ·rename_i k er
  split at h
  ·rename_i qs em
   cases h
   have r := (EO.rv ok e er).da (fun _ q => by cases q)
   obtain ⟨a, rfl, h1, vs, h2, h3⟩ := ok.objAt r em
   exact ⟨a, vs, rfl, h1, em, h2, h3⟩
  ·cases h
 ·cases h
theorem DaAll.at {K : PySem.W.Frag} {F : Hp} {vs : List V} {ds : List D} (h : DaAll K F vs ds) {i : Int} {d : D} (e : atI ds i = some d) : ∃ v, atI vs i = some v ∧ Da K F v d := by
 unfold atI at e ⊢
 rw [h.length]
 cases q : ixN ds.length i with
 | none => rw [q] at e; cases e
 | some j =>
  rw [q] at e
  exact h.get e
noncomputable def eIxO (f g : Sm MX S) (z : Z MX.T) : Rs S (Z MX.T) := (opd f z).bind fun s z1 => (opd g z1).bind fun s' z2 => match listAt z2 s, rd z2 s' with
 | some (_, xs), some (.int i) => (match atI xs i with
  | some d => .ok (.d d) z2
  | none => .bad)
 | _, _ => .bad
theorem de_ixO {a b : Expr} {f g : Sm MX S} {pos : Pos} (p : Pl K X N mg) (ha : DE MX xr K X W a f) (hb : DE MX xr K X W b g) (hs : PlainIx b := by exact fun _ _ => rfl) : DE MX xr K X W (.Subscript a b pos) (eIxO f g) := by
 obtain ⟨t1, p1, c1⟩ := ha
 obtain ⟨t2, p2, c2⟩ := hb
 refine ⟨tOp (rIxL K) t1 t2, fun j => by rw [← p.k j]; exact pe_ix ix_list (p1 j) (p2 j) hs, fun G σ H F z Q hK hx ok hh => ?_⟩
 refine cmp_opd c1 G σ H F z _ hK hx ok (hit_bind hh fun s z1 v H1 F1 _ sm1 ok1 ev h1 => ?_)
 refine cmp_opd c2 G σ H1 F1 z1 _ hK hx ok1 (hit_bind h1 fun s' z2 v' H2 F2 _ sm2 ok2 ev2 h2 => ?_)
 cases e2 : listAt z2 s with
 | none => simp only [e2] at h2; exact h2.elim
 | some q =>
  obtain ⟨n, xs⟩ := q
  cases er : rd z2 s' with
  | none => simp only [e2, er] at h2; exact h2.elim
  | some d =>
   cases d with
   | int i =>
    simp only [e2, er] at h2
    cases ea : atI xs i with
    | none => rw [ea] at h2; exact h2.elim
    | some d =>
     rw [ea] at h2
     obtain ⟨a, vs, rfl, ha, em, hH, hd⟩ := listAt_rv ok2 (EO.mono sm2 ev) e2
     have hv := (EO.rv ok2 ev2 er).int
     subst hv
     obtain ⟨w, e3, da⟩ := hd.at ea
     exact ⟨a, vs, i, w, rfl, rfl, SqL.of hH, e3, h2 w H2 F2 (Same.refl _) ok2 da⟩
   | _ => simp only [e2, er] at h2; exact h2.elim
noncomputable def sLPutM (fv fd fk : Sm MX S) (z : Z MX.T) : Rs Out (Z MX.T) := (escf fv z).bind fun s z1 => (opd fd z1).bind fun s' z2 => (opd fk z2).bind fun s'' z3 => match s, listAt z3 s', rd z3 s'' with
 | .d x, some (n, xs), some (.int i) => (match ixN xs.length i with
  | some j => .ok .nx { z3 with m := z3.m.set n (.lst (xs.set j x)) }
  | none => .bad)
 | _, _, _ => .bad
theorem ds_lput {o i value : Expr} {fv fd fk : Sm MX S} {pos pos' : Pos} (p : Pl K X N mg) (hv : DE MX xr K X W value fv) (ho : DE MX xr K X W o fd) (hi : DE MX xr K X W i fk)
  (hs : ∀ q, swapsWithSole [.Subscript o i pos'] value pos.line (X q).env = pure false := by intro _; rfl) (hw : ∀ q, swappedStores [.Subscript o i pos'] value (X q).env = pure none := by intro _; rfl)
  (h1 : ∀ q, (assignEach [.Subscript o i pos'] (X q).env).map (·.2) = [assign (.Subscript o i pos') (X q).env] := by intro _; rfl)
  (hg : ∀ q t1 t2, PE (X q) o t1 → PE (X q) i t2 → PG (X q) (.Subscript o i pos') (gSub t1 t2 rSetL) := by exact fun _ _ _ q1 q2 => pg_sub q1 q2 set_list) : DS MX xr K X W (.Assign [.Subscript o i pos'] value pos) (sLPutM fv fd fk) := by
 obtain ⟨t1, p1, c1⟩ := hv
 obtain ⟨t2, p2, c2⟩ := ho
 obtain ⟨t3, p3, c3⟩ := hi
 refine ⟨tAsg t1 (gSub t2 t3 rSetL), fun q => ps_asg (p1 q) (hg q t2 t3 (p2 q) (p3 q)) (hs q) (hw q) (h1 q), fun G σ H F z D hK hx ok hh => ?_⟩
 refine cmp_esc c1 G σ H F z _ hK hx ok (hits_bind hh fun s z1 v H1 F1 _ sm1 ok1 ev h1 => ?_)
 refine cmp_opd c2 G σ H1 F1 z1 _ hK hx ok1 (hits_bind h1 fun s' z2 v' H2 F2 _ sm2 ok2 ev2 h2 => ?_)
 refine cmp_opd c3 G σ H2 F2 z2 _ hK hx ok2 (hits_bind h2 fun s'' z3 v'' H3 F3 _ sm3 ok3 ev3 h3 => ?_)
 cases s with
 | d x =>
  cases e2 : listAt z3 s' with
  | none => simp only [e2] at h3; exact h3.elim
  | some q =>
   obtain ⟨n, xs⟩ := q
   cases er : rd z3 s'' with
   | none => simp only [e2, er] at h3; exact h3.elim
   | some d =>
    cases d with
    | int i =>
     simp only [e2, er] at h3
     cases ej : ixN xs.length i with
     | none => rw [ej] at h3; exact h3.elim
     | some j =>
      rw [ej] at h3
      obtain ⟨a, vs, rfl, ha, em, hH, hd⟩ := listAt_rv ok3 (EO.mono sm3 ev2) e2
      have hv := (EO.rv ok3 ev3 er).int
      subst hv
      have dv : Da G.K F3 v x := Da.mono sm3 (Da.mono sm2 ev)
      exact ⟨a, vs, i, j, rfl, rfl, hH, by rw [hd.length]; exact ej, h3 σ _ F3 (Same.refl _) (ok3.putO ha ⟨_, upd_same, DaAll.set dv j hd⟩)⟩
    | _ => simp only [e2, er] at h3; exact h3.elim
 | l _ => exact h3.elim
 | v _ => exact h3.elim
 | m _ => exact h3.elim
end
end G
namespace G
open PySem L2
section
variable {ι : Type} {M : MI} {xr : Str → Option Value} {K : PySem.W.Frag} {X : ι → Cx} {W : WX} {N : List Str} {mg : Str → Option Value}
end
end G
namespace G
open PySem L2
section
variable {ι : Type} {M : MI} {xr : Str → Option Value} {K : PySem.W.Frag} {X : ι → Cx} {W : WX} {N : List Str} {mg : Str → Option Value}
end
noncomputable def zX (n : Nat) (ns : List Int) : Z (List MO) := { rho := some (.d (.scr ns)) :: List.replicate n none, m := [] }
theorem law_runX {K : PySem.W.Frag} {xr : Str → Option Value} {E : XK} {N : List Str} {t : TS} {f : Sm MX Out} {vs : List V} {H : Hp} {Q : VK} (hN : 1 ≤ N.length)
  (hf : ∀ ns : List Int, ns.length ≤ 63 → (∀ z ∈ ns, Builtin.Int.intBits z ≤ 1048576) → ∃ z', f (zX (N.length - 1) ns) = .ok (.rt (.d (.bl true))) z')
  (c : SR MX K xr (fun cls d _ H => E cls d H) t f) (h : spLaw K vs H Q E) : t { nx := fun _ H' => Q .non H', rt := Q } (L2.start N vs) H := by
 obtain ⟨a, ns, rfl, hs, hl, hbits, hq⟩ := h
 obtain ⟨z', e1⟩ := hf ns hl hbits
 have st : L2.start N [.ref a] = some (.ref a) :: List.replicate (N.length - 1) none := rfl
 rw [st]
 let F : Hp := fun b => if b = a then noT H a else none
 have Fo : ∀ b o, F b = some o → b = a ∧ noT H a = some o := fun b o q => by
  have q' : (if b = a then noT H a else none) = some o := q
  by_cases e : b = a
  ·rw [if_pos e] at q'; exact ⟨e, q'⟩
  ·rw [if_neg e] at q'; cases q'
 have noTag : ∀ b ps, F b ≠ some (.tbl ps) := fun b ps q => (noT_of (Fo b _ q).2).2 ps rfl
 have sF : SameX F H := fun b o q _ => by
  obtain ⟨rfl, q2⟩ := Fo b o q
  exact (noT_of q2).1
 have hsF : SqL K F a (ns.map V.int) := by
  have Fa : ∀ o, H a = some o → (∀ ps, o ≠ .tbl ps) → F a = some o := fun o q n => by
   show (if a = a then noT H a else none) = some o
   rw [if_pos rfl]
   exact noT_at q n
  rcases hs with (q | ⟨o, q⟩) | q
  ·exact .inl (.inl (Fa _ q lstNT))
  ·exact .inl (.inr ⟨o, Fa _ q (fun _ e => by cases e)⟩)
  ·exact .inr q
 have key : ∀ (k : Nat) (s : S), (zX (N.length - 1) ns).rho[k]? = some (some s) → k = 0 ∧ s = .d (.scr ns) := fun k s e => by
  have e' : (some (S.d (.scr ns)) :: List.replicate (N.length - 1) none)[k]? = some (some s) := e
  match k, e' with
  | 0, e' => cases e'; exact ⟨rfl, rfl⟩
  | k + 1, e' =>
   rw [List.getElem?_cons_succ, List.getElem?_replicate] at e'
   split at e' <;> cases e'
 refine c ⟨K, xr, [], fun _ => none, F⟩ _ H F (zX (N.length - 1) ns) _ rfl rfl ⟨sF, by simp [zX], fun k s e => ?_, fun k j xs ys v q1 _ _ _ => ?_, ⟨rfl, fun n o e => ?_, fun b ps e => (noTag b ps e).elim, fun b b' n e => (noTag b _ e).elim⟩, (fun b hb => by cases hb), (fun b hb => by cases hb), (fun b hb => by cases hb), (fun b o q => by cases q), fun b ps e => (noTag b ps e).elim⟩ ?_
 ·obtain ⟨rfl, rfl⟩ := key k s e
  exact ⟨_, rfl, Da.scr hsF⟩
 ·obtain ⟨_, q⟩ := key k _ q1
  cases q
 ·have e' : ([] : List MO)[n]? = some o := e
  simp at e'
 ·rw [e1]
  intro v H2 F2 s2 r
  have hv : v = .bl true := by
   have := r.val
   cases (show Da K F2 v (.bl true) from this)
   rfl
  rw [hv]
  exact hq H2
end G
namespace G
open PySem L2
theorem okS_litN (s : String) : okS (Str.ofString s) := by
 intro c hc
 have e : (Str.ofString s).cps.toList = s.toList.map Char.toNat := by
  show (cpsOfBytes 0 0 s.toByteArray.data.toList).toArray.toList = _
  rw [List.toList_toArray, cpsOfBytes_string]
 rw [e] at hc
 obtain ⟨d, _, rfl⟩ := List.mem_map.mp hc
 have h := d.valid
 have e2 : d.toNat = d.val.toNat := rfl
 rw [e2]
 rcases h with h | ⟨_, h⟩
 ·have : d.val.toNat < 0xd800 := h
  omega
 ·exact h
theorem okS_toN {x : Str} (h : okS x) : PyData.strOk x = true := by
 unfold PyData.strOk
 rw [Array.all_eq_true_iff_forall_mem]
 intro c hc
 have := h c (by simpa using hc)
 simpa using this
theorem charN (d : Char) : d.toNat < 0x110000 := by
 have h := d.valid
 have e2 : d.toNat = d.val.toNat := rfl
 rw [e2]
 rcases h with h | ⟨_, h⟩
 ·have : d.val.toNat < 0xd800 := h
  omega
 ·exact h
theorem hexN (w c : Nat) : ∀ x ∈ List.replicate (w - ((Nat.toDigits 16 c).map Char.toNat).length) 48 ++ (Nat.toDigits 16 c).map Char.toNat, x < 0x110000 := by
 intro x hx
 rcases List.mem_append.mp hx with h | h
 ·rw [List.mem_replicate] at h; omega
 ·obtain ⟨d, _, rfl⟩ := List.mem_map.mp h
  exact charN d
theorem reprChar_ok (q c : Nat) (hc : c < 0x110000) : ∀ x ∈ Builtin.Str.reprChar q c, x < 0x110000 := by
 intro x hx
 unfold Builtin.Str.reprChar at hx
 simp only [] at hx
 have two : ∀ {a b : Nat}, a < 0x110000 → b < 0x110000 → x ∈ [a, b] → x < 0x110000 := fun ha hb h => by
  rcases List.mem_cons.mp h with rfl | h
  ·exact ha
  ·rcases List.mem_cons.mp h with rfl | h
   ·exact hb
   ·cases h
 split at hx
 ·exact two (by omega) hc hx
 split at hx
 ·exact two (by omega) (by omega) hx
 split at hx
 ·exact two (by omega) (by omega) hx
 split at hx
 ·exact two (by omega) (by omega) hx
 split at hx
 ·rcases List.mem_singleton.mp hx with rfl; exact hc
 split at hx
 ·rcases List.mem_append.mp hx with h | h
  ·exact two (by omega) (by omega) h
  ·exact hexN _ _ x h
 split at hx
 ·rcases List.mem_append.mp hx with h | h
  ·exact two (by omega) (by omega) h
  ·exact hexN _ _ x h
 ·rcases List.mem_append.mp hx with h | h
  ·exact two (by omega) (by omega) h
  ·exact hexN _ _ x h
theorem fold_ok (q : Nat) : ∀ (l : List Nat) (acc : Array Nat), (∀ c ∈ l, c < 0x110000) → (∀ c ∈ acc.toList, c < 0x110000) → ∀ c ∈ (l.foldl (fun out c => out ++ (Builtin.Str.reprChar q c).toArray) acc).toList, c < 0x110000
 | [], acc, _, h => by simpa using h
 | c :: r, acc, h1, h2 => by
  rw [List.foldl_cons]
  refine fold_ok q r _ (fun x hx => h1 x (List.mem_cons_of_mem _ hx)) fun x hx => ?_
  rw [Array.toList_append] at hx
  rcases List.mem_append.mp hx with h | h
  ·exact h2 x h
  ·exact reprChar_ok q c (h1 c List.mem_cons_self) x (by simpa using h)
theorem reprQuote_ok (x : Str) : reprQuote x < 0x110000 := by
 unfold reprQuote
 split <;> omega
theorem reprText_ok {x : Str} (h : okS x) : okS (reprText x) := by
 intro c hc
 unfold reprText at hc
 simp only [Array.toList_push] at hc
 rcases List.mem_append.mp hc with h1 | h1
 ·rw [← Array.foldl_toList] at h1
  exact fold_ok _ x.cps.toList _ h (fun c hc => by rcases List.mem_singleton.mp hc with rfl; exact reprQuote_ok x) c h1
 ·rcases List.mem_singleton.mp h1 with rfl
  exact reprQuote_ok x
theorem okS_joinN : ∀ ts : List Str, (∀ t ∈ ts, okS t) → okS (Str.join ", " ts)
 | [], _ => okS_litN ""
 | [x], h => h x List.mem_cons_self
 | x :: y :: r, h => by
  have ih := okS_joinN (y :: r) (fun t ht => h t (List.mem_cons_of_mem _ ht))
  show okS (x ++ Str.ofString ", " ++ Str.join ", " (y :: r))
  exact okS_app (okS_app (h x List.mem_cons_self) (okS_litN _)) ih
theorem okS_tupN (ts : List Str) (h : ∀ t ∈ ts, okS t) : okS (tupleText ts) := by
 unfold tupleText
 exact okS_app (okS_app (okS_litN _) (okS_joinN ts h)) (okS_litN _)
theorem okS_from : ∀ (ts : List Str) (k : Nat) (acc : Str), okS acc → (∀ t ∈ ts, okS t) → okS (textFrom k acc ts)
 | [], k, acc, h, _ => h
 | t :: r, k, acc, h, h2 => okS_from r (k + 1) _ (okS_app (okS_app h (okS_litN _)) (h2 t List.mem_cons_self)) (fun x hx => h2 x (List.mem_cons_of_mem _ hx))
theorem okS_lstN (ts : List Str) (h : ∀ t ∈ ts, okS t) : okS (listText ts) := by
 show okS (textFrom 0 "[" ts ++ "]")
 exact okS_app (okS_from ts 0 _ (okS_litN _) h) (okS_litN _)
mutual
noncomputable def ib : D → Bool
 | .int i => decide (i.natAbs < 1000000000000)
 | .tup xs => ibs xs
 | .lst xs => ibs xs
 | .scr ns => ns.all fun i => decide (i.natAbs < 1000000000000)
 | _ => true
noncomputable def ibs : List D → Bool
 | [] => true
 | x :: r => ib x && ibs r
end
theorem int_ib {i : Int} (h : i.natAbs < 1000000000000) : i.natAbs.log2 < 1920 ∧ (PyData.shown (.int i)).length ≤ 13 := by
  have b := PyData.shown_int_le (i := i) (by have : (10 : Nat) ^ 12 = 1000000000000 := by decide
                                             omega)
  refine ⟨?_, b⟩
  rcases Nat.eq_zero_or_pos i.natAbs with e | e
  · rw [e]; decide
  · have : i.natAbs.log2 < 40 := (Nat.log2_lt (by omega)).mpr (by show i.natAbs < 1099511627776; omega)
    omega
end G
namespace G
open PySem L2
end G
namespace G
open PySem L2 PySem.Spec PyProof.Rows
noncomputable def putFD (f : Str) (d : D) : List (Str × D) → List (Str × D)
 | [] => [(f, d)]
 | (g, x) :: r => if g = f then (g, d) :: r else (g, x) :: putFD f d r
theorem DaF.put {K : PySem.W.Frag} {F : Hp} (f : Str) {v : V} {d : D} (hv : Da K F v d) : ∀ {a b}, DaF K F a b → DaF K F (putF f v a) (putFD f d b)
 | _, _, .nil => .cons hv .nil
 | _, _, .cons (k := k) q r => by
  unfold putF putFD
  by_cases e : k = f
  ·rw [if_pos e, if_pos e]; exact .cons hv r
  ·rw [if_neg e, if_neg e]; exact .cons q (DaF.put f hv r)
theorem DaF.length {K : PySem.W.Frag} {F : Hp} : ∀ {a b}, DaF K F a b → a.length = b.length
 | _, _, .nil => rfl
 | _, _, .cons _ r => congrArg (· + 1) (DaF.length r)
theorem DaF.look {K : PySem.W.Frag} {F : Hp} (f : Str) : ∀ {a b}, DaF K F a b → (b.lookup f = none ∧ a.lookup f = none) ∨ ∃ v d, b.lookup f = some d ∧ a.lookup f = some v ∧ Da K F v d
 | _, _, .nil => .inl ⟨rfl, rfl⟩
 | _, _, .cons (k := k) q r => by
  rw [List.lookup_cons, List.lookup_cons]
  cases (f == k) with
  | true => exact .inr ⟨_, _, rfl, rfl, q⟩
  | false => exact DaF.look f r
structure ClF (K : PySem.W.Frag) (c : Str) (C : Addr) : Prop where
  at_ : xrK K c = some (.ref C)
  cls : Cls K C
noncomputable def insAt (z : Z (List MO)) (s : S) : Option (Nat × Str × List (Str × D)) := match rd z s with
 | some (.o n) => (match z.m[n]? with
  | some (.ins c fs) => some (n, c, fs)
  | _ => none)
 | _ => none
theorem insAt_rv {G : Gx} {σ : L2.St} {H F : Hp} {z : Z (List MO)} (ok : Ok MX G σ H F z) {v : V} {s : S} {n : Nat} {c : Str} {fs : List (Str × D)} (e : EO G σ F v s) (h : insAt z s = some (n, c, fs)) : ∃ a C dx vs, v = .ref a ∧ F a = some (tag n) ∧ z.m[n]? = some (.ins c fs) ∧ xrK G.K c = some (.ref C) ∧ H a = some (.ins C dx vs) ∧ DaF G.K F vs fs := by
 unfold insAt at h
 split at h
 ·rename_i k er
  split at h
  ·rename_i c' qs em
   cases h
   have r := (EO.rv ok e er).da (fun _ q => by cases q)
   obtain ⟨a, rfl, h1, C, dx, vs, h0, h2, h3⟩ := ok.objAt r em
   exact ⟨a, C, dx, vs, rfl, h1, em, h0, h2, h3⟩
  ·cases h
 ·cases h
section
variable {ι : Type} {xr : Str → Option Value} {K : PySem.W.Frag} {X : ι → Cx} {W : WX} {N : List Str} {mg : Str → Option Value}
noncomputable def eFld (cs : List Str) (x : Str) (f : Sm MX S) (z : Z MX.T) : Rs S (Z MX.T) := (opd f z).bind fun s z1 => match insAt z1 s with
 | some (_, c, fs) => if c ∈ cs then (match fs.lookup x with
  | some d => .ok (.d d) z1
  | none => .bad) else .bad
 | none => .bad
theorem de_fld {cs : List Str} {x : Str} {e : Expr} {f : Sm MX S} {pos : Pos} (p : Pl K X N mg) (hc : ∀ c ∈ cs, ∃ C, ClF K c C ∧ NoAttr K C x) (he : DE MX xr K X W e f) (hb : ∀ j, attributeBase e x (X j).env (eval e (X j).env) = eval e (X j).env := by intro _; rfl) : DE MX xr K X W (.Attribute e x pos) (eFld cs x f) := by
 obtain ⟨t, pt, ct⟩ := he
 refine ⟨tFld K t x, fun j => by have := pe_fld (f := x) (pos := pos) (pt j) (hb j); rw [p.k j] at this; exact this, fun G σ H F z Q hK hx ok hh => ?_⟩
 refine cmp_opd ct G σ H F z _ hK hx ok (hit_bind hh fun s z1 v H1 F1 _ sm1 ok1 ev h1 => ?_)
 cases e1 : insAt z1 s with
 | none => rw [e1] at h1; exact h1.elim
 | some q =>
  obtain ⟨n, c, fs⟩ := q
  simp only [e1] at h1
  by_cases hm : c ∈ cs
  ·rw [if_pos hm] at h1
   obtain ⟨a, C, dx, vs, rfl, ha, em, hC, hH, hk⟩ := insAt_rv ok1 ev e1
   obtain ⟨C', hC', hN⟩ := hc c hm
   rw [hK] at hC hk
   have e2 := hC'.at_
   rw [hC] at e2
   cases e2
   rcases hk.look x with ⟨e3, e4⟩ | ⟨v, d, e3, e4, e5⟩
   ·rw [e3] at h1; exact h1.elim
   ·rw [e3] at h1
    exact ⟨a, C, dx, vs, v, rfl, hH, hC'.cls, hN, e4, h1 v H1 F1 (Same.refl _) ok1 (show Da G.K F1 v d by rw [hK]; exact e5)⟩
  ·rw [if_neg hm] at h1; exact h1.elim
noncomputable def sFldM (cs : List Str) (x : Str) (fv fo : Sm MX S) (z : Z MX.T) : Rs Out (Z MX.T) := (escf fv z).bind fun s z1 => (opd fo z1).bind fun s' z2 => match s, insAt z2 s' with
 | .d d, some (n, c, fs) => if c ∈ cs ∧ fs.length < 999 then .ok .nx { z2 with m := z2.m.set n (.ins c (putFD x d fs)) } else .bad
 | _, _ => .bad
theorem ds_fld {cs : List Str} {x : Str} {o value : Expr} {fv fo : Sm MX S} {pos pos' : Pos} (p : Pl K X N mg) (hc : ∀ c ∈ cs, ∃ C, ClF K c C ∧ NoAttr K C x) (hv : DE MX xr K X W value fv) (ho : DE MX xr K X W o fo) (hs : ∀ j, swapsWith value (some (.Attribute o x pos')) pos.line (X j).env = pure false := by intro _; rfl) : DS MX xr K X W (.Assign [.Attribute o x pos'] value pos) (sFldM cs x fv fo) := by
 obtain ⟨t1, p1, c1⟩ := hv
 obtain ⟨t2, p2, c2⟩ := ho
 refine ⟨sFld K t2 t1 x, fun j => by have := ps_fld (f := x) (pos := pos) (pos' := pos') (p2 j) (p1 j) (hs j); rw [p.k j] at this; exact this, fun G σ H F z D hK hx ok hh => ?_⟩
 refine cmp_esc c1 G σ H F z _ hK hx ok (hits_bind hh fun s z1 v H1 F1 _ sm1 ok1 ev h1 => ?_)
 refine cmp_opd c2 G σ H1 F1 z1 _ hK hx ok1 (hits_bind h1 fun s' z2 v' H2 F2 _ sm2 ok2 ev2 h2 => ?_)
 cases s with
 | d d =>
  cases e1 : insAt z2 s' with
  | none => simp only [e1] at h2; exact h2.elim
  | some q =>
   obtain ⟨n, c, fs⟩ := q
   simp only [e1] at h2
   by_cases hm : c ∈ cs ∧ fs.length < 999
   ·rw [if_pos hm] at h2
    obtain ⟨a, C, dx, vs, rfl, ha, em, hC, hH, hk⟩ := insAt_rv ok2 ev2 e1
    obtain ⟨C', hC', hN⟩ := hc c hm.1
    have e2 := hC'.at_
    rw [← hK, hC] at e2
    cases e2
    have l := hk.length
    have dv : Da G.K F2 v d := Da.mono sm2 ev
    refine ⟨a, C, dx, vs, rfl, hH, hC'.cls, hN, by omega, ?_⟩
    exact h2 σ (upd H2 a (.ins C dx (putF x v vs))) F2 (Same.refl _) (ok2.putO ha ⟨C, dx, _, hC, upd_same, hk.put x dv⟩)
   ·rw [if_neg hm] at h2; exact h2.elim
 | l _ => exact h2.elim
 | v _ => exact h2.elim
 | m _ => exact h2.elim
end
end G
namespace G
open PySem L2 PySem.Spec PyProof.Rows
noncomputable def tArgM (C : Addr) (m : Str) (ta : TE) (t : TA) : TA := fun σ H Q => ta σ H fun x H1 => ∃ a dx fs, x = .ref a ∧ H1 a = some (.ins C dx fs) ∧ fs.lookup m = none ∧ t σ H1 fun vs H2 => Q (x :: vs) H2
section
variable {X : Cx} {CX : CXT} {n : Nat} {f C : Addr} {fd : FuncData} {ps : List Str} {sp : Sp} {E : L2.St → XK} {x m : Str} {p pos apos : Pos} {e o : Expr} {es : List Expr} {ta : TE} {t : TA}
theorem pe_methG {pl : Sem Bool} (he : PE X o ta) (c : Cls X.K C) (hm : Meth X.K C m f) (F : FnG X.prog X.w X.K X.mg X.base CX n f fd ps sp) (hr : RmG n X.A) (hgu : X.A.guards = some []) (hb : Binds X.K fd ps []) (hx : ∀ σ, PassesAt CX X σ (E σ)) (ha : PA X (e :: es) t)
  (hst : starEach (e :: es) X.env = (false, eval e X.env) :: starEach es X.env) (hpl : (backTo pos (starEach es X.env)).any (·.1) = false)
  (ht : eval (.Call (.Attribute o m apos) (e :: es) [] pos) X.env = (do
   let ov ← eval o X.env
   standAt apos.atName
   let (f, first) ← holding [ov] (getMethod ov m pl)
   callWith pos f first (backTo pos (starEach (e :: es) X.env)) (backToKw pos (keywordEach [] X.env)))) :
  PE X (.Call (.Attribute o m apos) (e :: es) [] pos) (tCallS sp E (tArgM C m ta t)) := by
 refine ⟨fun pins s σ H Q I h => ?_⟩
 refine PySem.W.methodCall_KW (pl := pl) (thn (he.run pins s σ H _ I h) fun u s1 ⟨x, H1, I1, rx, a, dx, fs, ex, ea, l, q⟩ => ?_) ht
 subst ex
 obtain rfl : u = Value.ref a := rx
 refine getmeth_ok I1 ea c hm l ?_
 refine PySem.W.callWith_K (first := [.ref a]) (h₀ := X.base) I.ok.mod.kin hm.kp (thn (ha.run pos pins s1 σ H1 _ I1 q) fun us s2 ⟨vs, H2, I2, r, q2⟩ => ⟨I2.kIn, ?_⟩) hst hpl
 exact run_fnG (us := .ref a :: us) (ws := .ref a :: vs) (dvs := []) (ds := []) (E := E) F hr hgu hb .nil (hx σ) I2 (.cons rfl r) (by rw [List.append_nil]; exact q2)
theorem pe_meth0G {pl : Sem Bool} (he : PE X o ta) (c : Cls X.K C) (hm : Meth X.K C m f) (F : FnG X.prog X.w X.K X.mg X.base CX n f fd ps sp) (hr : RmG n X.A) (hgu : X.A.guards = some []) (hb : Binds X.K fd ps []) (hx : ∀ σ, PassesAt CX X σ (E σ))
  (ht : eval (.Call (.Attribute o m apos) [] [] pos) X.env = (do
   let ov ← eval o X.env
   standAt apos.atName
   let (f, first) ← holding [ov] (getMethod ov m pl)
   callWith pos f first (backTo pos (starEach [] X.env)) (backToKw pos (keywordEach [] X.env)))) :
  PE X (.Call (.Attribute o m apos) [] [] pos) (tCallS sp E (tArgM C m ta tNil)) := by
 refine ⟨fun pins s σ H Q I h => ?_⟩
 refine PySem.W.methodCall_KW (pl := pl) (thn (he.run pins s σ H _ I h) fun u s1 ⟨x, H1, I1, rx, a, dx, fs, ex, ea, l, q⟩ => ?_) ht
 subst ex
 obtain rfl : u = Value.ref a := rx
 refine getmeth_ok I1 ea c hm l ?_
 exact PySem.W.callWith_K0 (first := [.ref a]) I1.kIn hm.kp (run_fnG (us := [.ref a]) (ws := [.ref a]) (dvs := []) (ds := []) (E := E) F hr hgu hb .nil (hx σ) I1 (.cons rfl .nil) q)
noncomputable def tNewI (C : Addr) (sp : Sp) (E : L2.St → XK) (t : TA) : TE := fun σ H Q => t σ H fun vs H1 => ∀ x dx, H1 x = none → H1 dx = none → dx ≠ x → sp (.ref x :: vs) (upd (upd H1 dx (.own x)) x (.ins C dx [])) (fun v H2 => v = .non ∧ Q (.ref x) H2) (E σ)
theorem run_makeG {pins : List (Addr × Obj)} {σ : L2.St} {H : Hp} {s : Shared} {Q : VK} {us : List Value} {vs : List V} (M : Mk X.K C f) (F : FnG X.prog X.w X.K X.mg X.base CX n f fd ps sp) (hr : RmG (n + 1) X.A) (hgu : X.A.guards = some []) (hb : Binds X.K fd ps [])
  (hx : PassesAt CX X σ (E σ)) (I : Inv X pins σ H s) (r : Vals vs us)
  (h : ∀ x dx, H x = none → H dx = none → dx ≠ x → sp (.ref x :: vs) (upd (upd H dx (.own x)) x (.ins C dx [])) (fun v H2 => v = .non ∧ Q (.ref x) H2) (E σ)) :
  wpAny (model X.prog X.w) X.A (call (.ref C) us) (EP X pins σ Q) X.xe s := by
 have hq := h (s.heap.objs.size + 1) s.heap.objs.size (I.hok.fresh (Nat.le_succ _)) (I.hok.fresh (Nat.le_refl _)) (Nat.ne_of_lt (Nat.lt_succ_self _))
 have I2 := Inv.made (C := C) I
 have r2 : Vals (V.ref (s.heap.objs.size + 1) :: vs) (Value.ref (s.heap.objs.size + 1) :: us) := .cons rfl r
 have hl : (Value.ref (s.heap.objs.size + 1) :: us).length = ps.length := by
  have e := r2.length
  rw [F.len _ _ _ _ hq] at e
  exact e.symm
 have hb2 := hb { s with heap := (s.heap.push PySem.W.emptyDict).push (PySem.W.instObj C s.heap.objs.size) } (Value.ref (s.heap.objs.size + 1) :: us) I2.kIn (by rw [List.append_nil]; exact hl)
 rw [List.append_nil] at hb2
 refine wpAny_call (make_map (f := f) I.kIn M.makes M.init (beq_iff_eq.mp M.fn) (codeAny_mono (F.run _ X.stack _ _ ⟨Value.ref (s.heap.objs.size + 1) :: us, []⟩ (Value.ref (s.heap.objs.size + 1) :: us) _ _ (E σ) (hr.make C us []) hgu
  (I2.env0.make C us []) hb2 r2 hq) fun r s' hq' => ?_))
 cases r with
 | error e => exact hx pins _ _ e s' I2 hq'
 | ok fl =>
  cases fl with
  | ret u =>
   obtain ⟨v, H', I3, rv, ev, q3⟩ := I2.after hq'
   subst ev
   exact ⟨rv, ⟨V.ref (s.heap.objs.size + 1), H', I3, rfl, q3⟩⟩
  | next => exact False.elim hq'
  | brk => exact False.elim hq'
  | cont => exact False.elim hq'
theorem pe_makeG (M : Mk X.K C f) (F : FnG X.prog X.w X.K X.mg X.base CX n f fd ps sp) (hr : RmG (n + 1) X.A) (hgu : X.A.guards = some []) (hg : Gl X x) (hm : X.mg x = some (.ref C)) (hb : Binds X.K fd ps []) (hx : ∀ σ, PassesAt CX X σ (E σ))
  (ha : PA X (e :: es) t) (hdb : (x == ("__debug__" : Str)) = false) (he : starEach (e :: es) X.env = (false, eval e X.env) :: starEach es X.env) (hpl : (backTo pos (starEach es X.env)).any (·.1) = false) :
  PE X (.Call (.Name x p) (e :: es) [] pos) (tNewI C sp E t) := by
 refine ⟨fun pins s σ H Q I h => ?_⟩
 refine wpAny_Call_Name_kw (ld_glob I hg hm ?_ hdb)
 refine PySem.W.callWith_K (h₀ := X.base) I.ok.mod.kin M.kp (thn (ha.run pos pins s σ H _ I h) fun us s1 ⟨vs, H1, I1, r, q⟩ => ⟨I1.kIn, ?_⟩) he hpl
 exact run_makeG (E := E) M F hr hgu hb (hx σ) I1 r q
end
section
variable {ι : Type} {P : Program} {w : World} {base : Heap} {n : Nat} {xr : Str → Option Value} {K : PySem.W.Frag} {X : ι → Cx} {W : WX} {N : List Str} {mg : Str → Option Value}
noncomputable def MeAt (P : Program) (w : World) (K : PySem.W.Frag) (mg : Str → Option Value) (base : Heap) (xr : Str → Option Value) (n : Nat) (cl m : Str) (ps : List Str) (c : List S → List MO → Rs S (List MO)) : Prop :=
 ∃ C f fd, ClF K cl C ∧ Meth K C m f ∧ FnG P w K mg base (L2.CX P w) (n + 8) f fd ps (spM MX K xr ps.length c) ∧ Binds K fd ps []
noncomputable def aMeth (cl m : Str) (f : Sm MX S) (g : Sm MX (List S)) (z : Z MX.T) : Rs (List S) (Z MX.T) := (opd f z).bind fun s z1 => match insAt z1 s with
 | some (k, c, fs) => if c = cl ∧ fs.lookup m = none then (g z1).bind fun ss z2 => .ok (.d (.o k) :: ss) z2 else .bad
 | none => .bad
theorem cmp_argM {cl m : Str} {C : Addr} {ta : TE} {t : TA} {f : Sm MX S} {g : Sm MX (List S)} (hC : ClF K cl C) (cf : Cmp MX K xr W ta RelE f) (cg : Cmp MX K xr W t RelA g) : Cmp MX K xr W (tArgM C m ta t) RelA (aMeth cl m f g) := by
 intro G σ H F z Q hK hx ok hh
 refine cmp_opd cf G σ H F z _ hK hx ok (hit_bind hh fun s z1 v H1 F1 _ sm1 ok1 ev h1 => ?_)
 cases e1 : insAt z1 s with
 | none => rw [e1] at h1; exact h1.elim
 | some q =>
  obtain ⟨k, c, fs⟩ := q
  simp only [e1] at h1
  by_cases hm : c = cl ∧ fs.lookup m = none
  ·rw [if_pos hm] at h1
   obtain ⟨a, C', dx, vs, rfl, ha, em, hC', hH, hk⟩ := insAt_rv ok1 ev e1
   have e2 := hC.at_
   rw [← hm.1, ← hK, hC'] at e2
   cases e2
   have l : vs.lookup m = none := by
    rcases hk.look m with ⟨_, e4⟩ | ⟨_, _, e3, _, _⟩
    ·exact e4
    ·rw [hm.2] at e3; cases e3
   refine ⟨a, dx, vs, rfl, hH, l, ?_⟩
   refine cg G σ H1 F1 z1 _ hK hx ok1 (hit_bind h1 fun ss z2 us H2 F2 _ sm2 ok2 ea h2 => ?_)
   exact h2 (.ref a :: us) H2 F2 (Same.refl _) ok2 (.cons (show Da G.K F2 (.ref a) (.o k) from Da.o (sm2 _ _ ha)) ea)
  ·rw [if_neg hm] at h1; exact h1.elim
theorem len_meth {cl m : Str} {f : Sm MX S} {g : Sm MX (List S)} {k : Nat} (hn : ∀ z ss z1, g z = .ok ss z1 → ss.length = k) : ∀ z ss z1, aMeth cl m f g z = .ok ss z1 → ss.length = k + 1 := by
 intro z ss z1 h
 unfold aMeth at h
 cases e1 : opd f z with
 | ex _ _ => rw [e1] at h; cases h
 | bad => rw [e1] at h; cases h
 | ok s z2 =>
  rw [e1, Rs.bind_ok] at h
  cases e2 : insAt z2 s with
  | none => rw [e2] at h; cases h
  | some q =>
   obtain ⟨i, c, fs⟩ := q
   simp only [e2] at h
   by_cases hm : c = cl ∧ fs.lookup m = none
   ·rw [if_pos hm] at h
    cases e3 : g z2 with
    | ex _ _ => rw [e3] at h; cases h
    | bad => rw [e3] at h; cases h
    | ok ts z3 =>
     rw [e3, Rs.bind_ok] at h
     cases h
     rw [List.length_cons, hn _ _ _ e3]
   ·rw [if_neg hm] at h; cases h
theorem de_meth {cl m : Str} {pl : Sem Bool} {ps : List Str} {o e : Expr} {es : List Expr} {f : Sm MX S} {g : Sm MX (List S)} {c : List S → List MO → Rs S (List MO)} {apos pos : Pos} {k : Nat} (p : Pc P w K mg base N W n X) (h : MeAt P w K mg base xr n cl m ps c) (ho : DE MX xr K X W o f) (ha : DA MX xr K X W (e :: es) g) (hn : ∀ z ss z1, g z = .ok ss z1 → ss.length = k) (hk : ps.length = k + 1 := by rfl)
  (he : ∀ j, starEach (e :: es) (X j).env = (false, eval e (X j).env) :: starEach es (X j).env := by intro _; rfl) (hpl : ∀ j, (backTo pos (starEach es (X j).env)).any (·.1) = false := by intro _; rfl)
  (ht : ∀ j, eval (.Call (.Attribute o m apos) (e :: es) [] pos) (X j).env = (do
   let ov ← eval o (X j).env
   standAt apos.atName
   let (f, first) ← holding [ov] (getMethod ov m pl)
   callWith pos f first (backTo pos (starEach (e :: es) (X j).env)) (backToKw pos (keywordEach [] (X j).env))) := by intro _; rfl) :
  DE MX xr K X W (.Call (.Attribute o m apos) (e :: es) [] pos) (eCall c (aMeth cl m f g)) := by
 obtain ⟨C, fa, fd, hC, hm, hF, hb⟩ := h
 obtain ⟨t1, p1, c1⟩ := ho
 obtain ⟨t2, p2, c2⟩ := ha
 refine ⟨_, fun j => pe_methG (CX := L2.CX P w) (E := WE W) (p1 j) (by rw [p.k j]; exact hC.cls) (by rw [p.k j]; exact hm) (by rw [p.pr j, p.pw j, p.k j, p.g j, p.pb j]; exact hF) (p.room j) (p.gd j) (by rw [p.k j]; exact hb) (p.pass j) (p2 j) (he j) (hpl j) (ht j), ?_⟩
 exact cmp_call (cmp_argM hC c1 c2) (by rw [hk]; exact len_meth hn)
theorem de_meth0 {cl m : Str} {pl : Sem Bool} {ps : List Str} {o : Expr} {f : Sm MX S} {c : List S → List MO → Rs S (List MO)} {apos pos : Pos} (p : Pc P w K mg base N W n X) (h : MeAt P w K mg base xr n cl m ps c) (ho : DE MX xr K X W o f) (hk : ps.length = 1 := by rfl)
  (ht : ∀ j, eval (.Call (.Attribute o m apos) [] [] pos) (X j).env = (do
   let ov ← eval o (X j).env
   standAt apos.atName
   let (f, first) ← holding [ov] (getMethod ov m pl)
   callWith pos f first (backTo pos (starEach [] (X j).env)) (backToKw pos (keywordEach [] (X j).env))) := by intro _; rfl) :
  DE MX xr K X W (.Call (.Attribute o m apos) [] [] pos) (eCall c (aMeth cl m f aNil)) := by
 obtain ⟨C, fa, fd, hC, hm, hF, hb⟩ := h
 obtain ⟨t1, p1, c1⟩ := ho
 refine ⟨_, fun j => pe_meth0G (CX := L2.CX P w) (E := WE W) (p1 j) (by rw [p.k j]; exact hC.cls) (by rw [p.k j]; exact hm) (by rw [p.pr j, p.pw j, p.k j, p.g j, p.pb j]; exact hF) (p.room j) (p.gd j) (by rw [p.k j]; exact hb) (p.pass j) (ht j), ?_⟩
 exact cmp_call (cmp_argM hC c1 (fun G σ H F z Q _ _ ok h => h [] H F (Same.refl _) ok .nil)) (by rw [hk]; exact len_meth (fun _ _ _ h => len_nil h))
theorem paired_imp {α β : Type} {R R' : α → β → Prop} (h : ∀ a b, R a b → R' a b) : ∀ {as : List α} {bs : List β}, Paired R as bs → Paired R' as bs
 | _, _, .nil => .nil
 | _, _, .cons r t => .cons (h _ _ r) (paired_imp h t)
noncomputable def MkAt (P : Program) (w : World) (K : PySem.W.Frag) (mg : Str → Option Value) (base : Heap) (xr : Str → Option Value) (n : Nat) (cl : Str) (ps : List Str) (c : List S → List MO → Rs S (List MO)) : Prop :=
 ∃ C f fd, ClF K cl C ∧ Mk K C f ∧ mg cl = some (.ref C) ∧ FnG P w K mg base (L2.CX P w) (n + 7) f fd ps (spM MX K xr ps.length c) ∧ Binds K fd ps []
noncomputable def eMake (cl : Str) (c : List S → List MO → Rs S (List MO)) (g : Sm MX (List S)) (z : Z MX.T) : Rs S (Z MX.T) := (g z).bind fun ss z1 => if ss.all okArg = true then (match c (.d (.o z1.m.length) :: ss) (z1.m ++ [.ins cl []]) with
 | .ok (.d .non) t => .ok (.d (.o z1.m.length)) { z1 with m := t }
 | .ok _ _ => .bad
 | .ex x t => .ex x { z1 with m := t }
 | .bad => .bad) else .bad
theorem cmp_make {cl : Str} {C : Addr} {k : Nat} {t : TA} {g : Sm MX (List S)} {c : List S → List MO → Rs S (List MO)} (hC : ClF K cl C) (cg : Cmp MX K xr W t RelA g) (hn : ∀ z ss z1, g z = .ok ss z1 → ss.length + 1 = k) : Cmp MX K xr W (tNewI C (spM MX K xr k c) (WE W) t) RelE (eMake cl c g) := by
 intro G σ H F z Q hK hx ok hh
 refine cg G σ H F z _ hK hx ok (hit_bind hh fun ss z1 vs H1 F1 eg sm ok1 ea h1 => ?_)
 intro x dx nx nd ne
 by_cases hd : ss.all okArg = true
 ·rw [if_pos hd] at h1
  have hv := paired_av ea hd
  have okd := ok1.new nd (.own x)
  have nx2 : upd H1 dx (.own x) x = none := by rw [upd_ne (Ne.symm ne)]; exact nx
  have ok2 := okd.alloc (p := x) nx2 (ho := .ins C dx []) (o := .ins cl []) ⟨C, dx, [], by rw [hK]; exact hC.at_, upd_same, .nil⟩
  have sF : Same F1 (upd F1 x (tag z1.m.length)) := same_upd (okd.freshF nx2)
  have av : Paired (AV G.K (upd F1 x (tag z1.m.length)) G.ms) (.ref x :: vs) (.d (.o z1.m.length) :: ss) := .cons (show Da G.K _ (.ref x) (.o z1.m.length) from Da.o upd_same) (paired_av (paired_imp (fun _ _ q => EO.mono sF q) ea) hd)
  refine ⟨by rw [List.length_cons, hv.length, hn z ss z1 eg], G.ms, upd F1 x (tag z1.m.length), .d (.o z1.m.length) :: ss, z1.m ++ [.ins cl []], ok2.sub, by rw [← hK]; exact ok2.mach, fun a ha => ⟨ok2.msF a ha, ok2.msH a ha⟩, fun a ps e => (ok2.tg a ps e).1, by rw [← hK]; exact av, ?_⟩
  subst hK hx
  cases e : c (.d (.o z1.m.length) :: ss) (z1.m ++ [.ins cl []]) with
  | bad => rw [e] at h1; exact h1
  | ex x' t' =>
   rw [e] at h1
   exact fun cls d H' F' s' r xo => h1 cls d H' F' (sF.trans s') (ok2.call s' r) xo
  | ok s t' =>
   rw [e] at h1
   intro v H' F' s' r rv
   cases s with
   | d y =>
    cases y with
    | non =>
     cases (show Da G.K F' v .non from rv)
     exact ⟨rfl, h1 (.ref x) H' F' (sF.trans s') (ok2.call s' r) (show Da G.K F' (.ref x) (.o z1.m.length) from Da.o (s' _ _ upd_same))⟩
    | _ => exact h1.elim
   | _ => exact h1.elim
 ·rw [if_neg hd] at h1; exact h1.elim
theorem de_make {cl : Str} {ps : List Str} {e : Expr} {es : List Expr} {g : Sm MX (List S)} {c : List S → List MO → Rs S (List MO)} {pp pos : Pos} (p : Pc P w K mg base N W n X) (h : MkAt P w K mg base xr n cl ps c) (ha : DA MX xr K X W (e :: es) g) (hn : ∀ z ss z1, g z = .ok ss z1 → ss.length + 1 = ps.length) (hg : ∀ j, Gl (X j) cl := by intro _; rfl)
  (hdb : (cl == ("__debug__" : Str)) = false := by decide) (he : ∀ j, starEach (e :: es) (X j).env = (false, eval e (X j).env) :: starEach es (X j).env := by intro _; rfl) (hpl : ∀ j, (backTo pos (starEach es (X j).env)).any (·.1) = false := by intro _; rfl) :
  DE MX xr K X W (.Call (.Name cl pp) (e :: es) [] pos) (eMake cl c g) := by
 obtain ⟨C, fa, fd, hC, hm, hmg, hF, hb⟩ := h
 obtain ⟨t2, p2, c2⟩ := ha
 refine ⟨_, fun j => pe_makeG (CX := L2.CX P w) (E := WE W) (n := n + 7) (by rw [p.k j]; exact hm) (by rw [p.pr j, p.pw j, p.k j, p.g j, p.pb j]; exact hF) (p.room j) (p.gd j) (hg j) (by rw [p.g j]; exact hmg) (by rw [p.k j]; exact hb) (p.pass j) (p2 j) hdb (he j) (hpl j), cmp_make hC c2 hn⟩
noncomputable def MeIn (K : PySem.W.Frag) (cl m qual : Str) (st : Stmt) (ps : List Str) : Prop := ∃ C f fd, ClF K cl C ∧ Meth K C m f ∧ FunD K m qual (defArgs st) (defBody st) (defScope st) [] [] f fd ∧ Binds K fd ps []
noncomputable def MkIn (K : PySem.W.Frag) (mg : Str → Option Value) (cl qual : Str) (st : Stmt) (ps : List Str) : Prop := ∃ C f fd, ClF K cl C ∧ Mk K C f ∧ mg cl = some (.ref C) ∧ FunD K "__init__" qual (defArgs st) (defBody st) (defScope st) [] [] f fd ∧ Binds K fd ps []
theorem spBad {ps : List Str} {k : Nat} {f : Addr} {fd : FuncData} : FnG P w K mg base (L2.CX P w) k f fd ps (spM MX K xr ps.length (fun _ _ => .bad)) := by
 have no : ∀ vs H Q E, ¬ spM MX K xr ps.length (fun _ _ => .bad) vs H Q E := fun vs H Q E h => by
  obtain ⟨_, _, _, _, _, _, _, _, _, _, z⟩ := h
  exact z
 exact ⟨fun vs H Q E h => absurd h (no vs H Q E), fun A outer s H args us vs Q E _ _ _ _ _ h => absurd h (no vs H Q E)⟩
theorem meAt_zero {cl m qual : Str} {st : Stmt} {ps : List Str} (h : MeIn K cl m qual st ps) : MeAt P w K mg base xr 0 cl m ps (fun _ _ => .bad) := by
 obtain ⟨C, f, fd, hC, hm, hF, hb⟩ := h
 exact ⟨C, f, fd, hC, hm, spBad, hb⟩
theorem meAt_succ {cl m qual : Str} {st : Stmt} {ps : List Str} {b : Sm MX Out} (h : MeIn K cl m qual st ps) (Sc : FnScope N ps (defScope st))
  (hb : ∀ (f : Addr) (cdv : Value) (A : Around) (outer : List Env) (s : Shared) (H : Hp) (E : XK), RmG (n + 8) (A.deeper (PyProof.Rows.envOfC qual (defScope st) s.heap.objs.size f cdv)) → A.guards = some [] →
   DSs MX xr K (fun _ : Unit => cxOf (L2.CX P w) P w K mg base N qual (defScope st) f cdv A outer s H E) (fun cls d _ H => E cls d H) (defBody st) b) : MeAt P w K mg base xr (n + 1) cl m ps (fnM N.length b) := by
 obtain ⟨C, f, fd, hC, hm, hF, hbd⟩ := h
 exact ⟨C, f, fd, hC, hm, okM hF Sc (hb f), hbd⟩
theorem mkAt_zero {cl qual : Str} {st : Stmt} {ps : List Str} (h : MkIn K mg cl qual st ps) (k : Nat) : MkAt P w K mg base xr k cl ps (fun _ _ => .bad) := by
 obtain ⟨C, f, fd, hC, hm, hg, hF, hb⟩ := h
 exact ⟨C, f, fd, hC, hm, hg, spBad, hb⟩
theorem mkAt_succ {cl qual : Str} {st : Stmt} {ps : List Str} {b : Sm MX Out} (h : MkIn K mg cl qual st ps) (Sc : FnScope N ps (defScope st))
  (hb : ∀ (f : Addr) (cdv : Value) (A : Around) (outer : List Env) (s : Shared) (H : Hp) (E : XK), RmG (n + 8) (A.deeper (PyProof.Rows.envOfC qual (defScope st) s.heap.objs.size f cdv)) → A.guards = some [] →
   DSs MX xr K (fun _ : Unit => cxOf (L2.CX P w) P w K mg base N qual (defScope st) f cdv A outer s H E) (fun cls d _ H => E cls d H) (defBody st) b) : MkAt P w K mg base xr (n + 2) cl ps (fnM N.length b) := by
 obtain ⟨C, f, fd, hC, hm, hg, hF, hbd⟩ := h
 exact ⟨C, f, fd, hC, hm, hg, okM hF Sc (hb f), hbd⟩
end
theorem clF_mk {K : PySem.W.Frag} {c : Str} {C : Addr} (a : PySem.W.nsIn K mainGlobals c = some (some (.ref C))) (c1 : PySem.W.plainGet K C Str.empty = true) (c2 : PySem.W.hasDictIn K C = true) (c3 : PySem.W.plainOver K C = true) (c4 : PySem.W.findIn K (.ref C) "__setattr__" = some (some (.builtin "object.__setattr__"))) : ClF K c C :=
 ⟨by unfold xrK; rw [a], c1, c2, c3, c4⟩
theorem funQ_mk {K : PySem.W.Frag} {x qual : Str} {st : Stmt} {f : Addr} {oc : Value} {od an : Option Addr} {osl : Array (Option Value)} {kV doc pm cdv ct : Value} (l : K.lookup f = some ⟨oc, od, .func (PySem.W.fnOf x qual (defArgs st) (defBody st) (defScope st) .none kV doc pm an cdv ct), osl⟩) (c : PySem.W.codeIn K cdv qual = true) (k : PySem.W.keepIn K (.ref f) = true) :
  FunD K x qual (defArgs st) (defBody st) (defScope st) [] [] f (PySem.W.fnOf x qual (defArgs st) (defBody st) (defScope st) .none kV doc pm an cdv ct) := ⟨⟨oc, od, .none, kV, doc, pm, an, cdv, ct, osl, rfl, l, c, .inl ⟨rfl, rfl⟩, .inl rfl⟩, k⟩
theorem meIn_mk {K : PySem.W.Frag} {cl m qual : Str} {st : Stmt} {ps : List Str} {C f : Addr} {oc : Value} {od an : Option Addr} {osl : Array (Option Value)} {kV doc pm cdv ct : Value} (hC : ClF K cl C) (a : PySem.W.findIn K (.ref C) m = some (some (.ref f))) (fn : PySem.W.isFn K (.ref f) = true)
  (l : K.lookup f = some ⟨oc, od, .func (PySem.W.fnOf m qual (defArgs st) (defBody st) (defScope st) .none kV doc pm an cdv ct), osl⟩) (c : PySem.W.codeIn K cdv qual = true) (k : PySem.W.keepIn K (.ref f) = true)
  (hb : ∀ (kV doc pm : Value) (an : Option Addr) (cdv ct : Value) (us : List Value), us.length = ps.length → bindArgs (PySem.W.fnOf m qual (defArgs st) (defBody st) (defScope st) .none kV doc pm an cdv ct) ⟨us, []⟩ = pure (ps.zip us)) : MeIn K cl m qual st ps :=
 ⟨C, f, _, hC, ⟨a, fn, k⟩, funQ_mk (st := st) l c k, fun s us _ hl => by rw [List.append_nil] at hl ⊢; exact .of_eq (hb _ _ _ _ _ _ us hl)⟩
theorem mkIn_mk {K : PySem.W.Frag} {h : Heap} {mg : Str → Option Value} {cl qual : Str} {st : Stmt} {ps : List Str} {C f : Addr} {oc : Value} {od an : Option Addr} {osl : Array (Option Value)} {kV doc pm cdv ct : Value} (X : K.In h) (G : h.Ns mainGlobals mg) (hC : ClF K cl C) (ca : PySem.W.nsIn K mainGlobals cl = some (some (.ref C))) (mk : PySem.W.makesIn K C = true) (kC : PySem.W.keepIn K (.ref C) = true) (a : PySem.W.findIn K (.ref C) "__init__" = some (some (.ref f))) (fn : PySem.W.isFn K (.ref f) = true)
  (l : K.lookup f = some ⟨oc, od, .func (PySem.W.fnOf "__init__" qual (defArgs st) (defBody st) (defScope st) .none kV doc pm an cdv ct), osl⟩) (c : PySem.W.codeIn K cdv qual = true) (k : PySem.W.keepIn K (.ref f) = true)
  (hb : ∀ (kV doc pm : Value) (an : Option Addr) (cdv ct : Value) (us : List Value), us.length = ps.length → bindArgs (PySem.W.fnOf "__init__" qual (defArgs st) (defBody st) (defScope st) .none kV doc pm an cdv ct) ⟨us, []⟩ = pure (ps.zip us)) : MkIn K mg cl qual st ps :=
 ⟨C, f, _, hC, ⟨mk, a, fn, kC⟩, PySem.W.mg_of X G ca, funQ_mk (st := st) l c k, fun s us _ hl => by rw [List.append_nil] at hl ⊢; exact .of_eq (hb _ _ _ _ _ _ us hl)⟩
end G
namespace G
open PySem L2 PySem.Spec PyProof.Rows
theorem DaK.keys {K : PySem.W.Frag} {F : Hp} : ∀ {a b}, DaK K F a b → a.map (·.1) = b.map (·.1)
 | _, _, .nil => rfl
 | _, _, .cons _ r => by rw [List.map_cons, List.map_cons, DaK.keys r]
section
variable {ι : Type} {xr : Str → Option Value} {K : PySem.W.Frag} {X : ι → Cx} {W : WX} {N : List Str} {mg : Str → Option Value}
noncomputable def eDIx (f g : Sm MX S) (z : Z MX.T) : Rs S (Z MX.T) := (opd f z).bind fun s z1 => (opd g z1).bind fun s' z2 => match dictAt z2 s, (rd z2 s').bind keyD with
 | some (_, ps), some k => (match valD ps k with
  | some d => .ok (.d d) z2
  | none => .bad)
 | _, _ => .bad
theorem de_dix {o i : Expr} {f g : Sm MX S} {pos : Pos} (p : Pl K X N mg) (ho : DE MX xr K X W o f) (hi : DE MX xr K X W i g) (hs : NoSl i := by exact fun _ _ => rfl) : DE MX xr K X W (.Subscript o i pos) (eDIx f g) := by
 obtain ⟨t1, p1, c1⟩ := ho
 obtain ⟨t2, p2, c2⟩ := hi
 refine ⟨tDGet t1 t2, fun j => pe_dget (by have := p.u j; omega) (p1 j) (p2 j) hs, fun G σ H F z Q hK hx ok hh => ?_⟩
 refine cmp_opd c1 G σ H F z _ hK hx ok (hit_bind hh fun s z1 v H1 F1 _ sm1 ok1 ev h1 => ?_)
 refine cmp_opd c2 G σ H1 F1 z1 _ hK hx ok1 (hit_bind h1 fun s' z2 v' H2 F2 _ sm2 ok2 ev2 h2 => ?_)
 cases e2 : dictAt z2 s with
 | none => simp only [e2] at h2; exact h2.elim
 | some q =>
  obtain ⟨n, ps⟩ := q
  cases e3 : (rd z2 s').bind keyD with
  | none => simp only [e2, e3] at h2; exact h2.elim
  | some k =>
   simp only [e2, e3] at h2
   obtain ⟨a, kvs, rfl, ha, em, hH, hk⟩ := dictAt_rv ok2 (EO.mono sm2 ev) e2
   cases er : rd z2 s' with
   | none => rw [er] at e3; cases e3
   | some d =>
    rw [er] at e3
    have hv := keyD_v (EO.rv ok2 ev2 er) e3
    subst hv
    rcases hk.val k with ⟨e4, e5⟩ | ⟨v, d, e4, e5, e6⟩
    ·rw [e4] at h2; exact h2.elim
    ·rw [e4] at h2
     have dg := DGet.k (k := k) hH
     rw [e5] at dg
     exact ⟨a, v, rfl, dg, h2 v H2 F2 (Same.refl _) ok2 e6⟩
end
end G
namespace G
open PySem L2
noncomputable def methS (st : Stmt) (j : Nat) : Stmt := match st with
 | .ClassDef _ _ _ body _ _ _ _ _ _ _ => body.getD j (.Pass ⟨0, 0, 0, 0⟩)
 | _ => .Pass ⟨0, 0, 0, 0⟩
theorem cls1 {K : PySem.W.Frag} {c x : Str} {C : Addr} (h : ClF K c C) (n : NoAttr K C x) : ∀ c' ∈ [c], ∃ C, ClF K c' C ∧ NoAttr K C x := by
 intro c' hc
 rcases List.mem_singleton.mp hc with rfl
 exact ⟨C, h, n⟩
end G
namespace G
open PySem L2
section
variable {ι : Type} {M : MI} {xr : Str → Option Value} {K : PySem.W.Frag} {X : ι → Cx} {W : WX}
end
end G
namespace G
open PySem L2 PySem.Spec PyProof.Rows
noncomputable def ksV (ps : List (Str × Str)) : List (Key × V) := ps.map fun p => (Sum.inr p.1, V.str p.2)
noncomputable def ksD (ps : List (Str × Str)) : List (Key × D) := ps.map fun p => (Sum.inr p.1, D.str p.2)
noncomputable def mergeD (kvs more : List (Key × D)) : List (Key × D) := more.foldl (fun acc kv => putD acc kv.1 kv.2) kvs
theorem DaK.merge {K : PySem.W.Frag} {F : Hp} : ∀ (ps : List (Str × Str)) {a : List (Key × V)} {b : List (Key × D)}, DaK K F a b → DaK K F (mergeK a (ksV ps)) (mergeD b (ksD ps))
 | [], _, _, h => h
 | p :: r, a, b, h => DaK.merge r (h.put (.inr p.1) (.str p.2))
noncomputable def tKS (ps : List (Str × Str)) : List (TE × TE) := ps.map fun p => (tC (.str p.1), tC (.str p.2))
theorem tKS_run {σ : L2.St} : ∀ (ps : List (Str × Str)) {H : Hp} {Q : List (V × V) → Hp → Prop}, Q ((ksV ps).map fun kv => (kV kv.1, kv.2)) H → tPairs (tKS ps) σ H Q
 | [], _, _, h => h
 | p :: r, H, Q, h => tKS_run r h
section
variable {ι : Type} {xr : Str → Option Value} {K : PySem.W.Frag} {X : ι → Cx} {W : WX} {N : List Str} {mg : Str → Option Value}
theorem ks_nil {pos : Pos} : ∀ j, PPs (X j) pos [] [] (tKS []) := fun _ => pps_nil
theorem ks_cons {pos p1 p2 : Pos} {i1 i2} {k v : Str} {ks : List (Option Expr)} {vs : List Expr} {ps : List (Str × Str)} (h : ∀ j, PPs (X j) pos ks vs (tKS ps)) : ∀ j, PPs (X j) pos (some (.Constant (.str k) i1 p1) :: ks) (.Constant (.str v) i2 p2 :: vs) (tKS ((k, v) :: ps)) := fun j => pps_cons pe_str pe_str (h j)
noncomputable def eDisp (ps : List (Str × Str)) (z : Z MX.T) : Rs S (Z MX.T) := if ps.length ≤ 15 then .ok (.d (.o z.m.length)) { z with m := z.m ++ [.dK (mergeD [] (ksD ps))] } else .bad
theorem de_disp {ps : List (Str × Str)} {keys : List (Option Expr)} {values : List Expr} {pos : Pos} (h : ∀ j, PPs (X j) pos keys values (tKS ps)) (hall : keys.all (·.isSome) = true) (hl : keys.length = values.length) (h0 : keys ≠ []) (h15 : keys.length ≤ 15) : DE MX xr K X W (.Dict keys values pos) (eDisp ps) := by
 refine ⟨_, fun j => pe_disp (h j) hall hl h0 h15, fun G σ H F z Q hK hx ok hh => fun p hp => ?_⟩
 unfold eDisp at hh
 by_cases c : ps.length ≤ 15
 ·rw [if_pos c] at hh
  refine tKS_run ps ⟨upd_same, ksV ps, rfl, by unfold ksV; rw [List.length_map]; exact c, ?_⟩
  rw [upd_upd]
  exact hh (.ref p) (upd H p (.dK (mergeK [] (ksV ps)))) (upd F p (tag z.m.length)) (same_upd (ok.freshF hp)) (ok.alloc hp ⟨_, upd_same, DaK.merge ps .nil⟩) (Da.o upd_same)
 ·rw [if_neg c] at hh; exact hh.elim
end
section
variable {ι : Type} {xr : Str → Option Value} {K : PySem.W.Frag} {X : ι → Cx} {W : WX} {N : List Str} {mg : Str → Option Value}
theorem DaK.mergeA {K : PySem.W.Frag} {F : Hp} : ∀ {c : List (Key × V)} {d : List (Key × D)}, DaK K F c d → ∀ {a : List (Key × V)} {b : List (Key × D)}, DaK K F a b → DaK K F (mergeK a c) (mergeD b d)
 | _, _, .nil, _, _, h => h
 | _, _, .cons q r, _, _, h => DaK.mergeA r (h.put _ q)
end
end G
namespace G
open PySem L2 PySem.Spec PyProof.Rows
inductive EsD (K : PySem.W.Frag) (P : Params) : List DictEntry → List (Str × D) → Prop
  | nil : EsD K P [] []
  | cons {x : Str} {t : Tok} {u : Value} {v : V} {d : D} {r : List DictEntry} {tb : List (Str × D)} : RelV v u → (∀ F, Da K F v d) → EsD K P r tb → EsD K P (⟨PyData.keyHash P x, .str x t, u⟩ :: r) ((x, d) :: tb)
noncomputable def EsV (es : List DictEntry) (x : Str) (dv v : V) : Prop := match (es.find? fun e => Value.isStrOf x e.key).map (·.val) with
 | some u => RelV v u
 | none => v = dv
theorem EsD.lit {K : PySem.W.Frag} {P : Params} : ∀ {es : List DictEntry} {tb : List (Str × D)}, EsD K P es tb → PySem.W.KeysLit P es
 | _, _, .nil => True.intro
 | _, _, .cons _ _ r => ⟨⟨_, _, rfl, rfl⟩, r.lit⟩
theorem EsD.find {K : PySem.W.Frag} {P : Params} (x : Str) : ∀ {es : List DictEntry} {tb : List (Str × D)}, EsD K P es tb → (∃ d u v, tb.lookup x = some d ∧ (es.find? fun e => Value.isStrOf x e.key).map (·.val) = some u ∧ RelV v u ∧ ∀ F, Da K F v d) ∨ (tb.lookup x = none ∧ (es.find? fun e => Value.isStrOf x e.key).map (·.val) = none)
 | _, _, .nil => .inr ⟨rfl, rfl⟩
 | _, _, .cons (x := y) (t := t) (u := u) (v := v) (d := d) (r := r) (tb := tb) h1 h2 h3 => by
  by_cases e : x = y
  ·subst e
   refine .inl ⟨d, u, v, ?_, ?_, h1, h2⟩
   ·rw [List.lookup_cons, beq_self_eq_true]
   ·rw [List.find?_cons_of_pos (by show (x == x) = true; exact beq_self_eq_true x)]
    rfl
  ·have e1 : (x == y) = false := beq_eq_false_iff_ne.mpr e
   have e2 : Value.isStrOf x (.str y t) = false := by show (y == x) = false; exact beq_eq_false_iff_ne.mpr (fun q => e q.symm)
   rw [List.lookup_cons, e1, List.find?_cons_of_neg (by show ¬ Value.isStrOf x (.str y t) = true; rw [e2]; exact Bool.false_ne_true)]
   exact h3.find x
noncomputable def KDD (K : PySem.W.Frag) (P : Params) (mg : Str → Option Value) (x : Str) (tb : List (Str × D)) : Prop :=
 ∃ d es n, mg x = some (.ref d) ∧ K.lookup d = some ⟨.type "dict", none, .dict es n, #[]⟩ ∧ (d == sysModules) = false ∧ EsD K P es.toList tb
noncomputable def tKGet (es : List DictEntry) (te tx : TE) : TE := fun σ H Q => te σ H fun y H1 => tx σ H1 fun dv H2 => ∃ z v, y = .str z ∧ EsV es z dv v ∧ Q v H2
theorem pe_kget {X : Cx} {d : Addr} {es : Array DictEntry} {n : Nat} {x : Str} {e f : Expr} {p1 apos cpos : Pos} {te tx : TE} (hl : X.K.lookup d = some ⟨.type "dict", none, .dict es n, #[]⟩) (hk : PySem.W.KeysLit X.w.params es.toList) (hd : (d == sysModules) = false) (hg : Gl X x) (hm : X.mg x = some (.ref d)) (he : PE X e te) (hf : PE X f tx) (m : L2.M2 X (.Name x p1) "get" apos e f cpos) (hdb : (x == ("__debug__" : Str)) = false) :
  PE X (.Call (.Attribute (.Name x p1) "get" apos) [e, f] [] cpos) (tKGet es.toList te tx) := by
 constructor
 intro pins s σ H Q I h
 have kd : ∀ {s : Shared}, X.K.In s.heap → s.heap.MapOf (strKind X.prog X.w) d (fun k => findBy Value.isStrOf es k) := fun kin => PySem.W.mapOf_K (prog := X.prog) (w := X.w) kin hl hk
 refine wpAny_Call_method m.base m.few m.line PySem.F.plainAttrs_dict PySem.F.slot_dict_get PySem.F.type_dict_get (ld_glob I hg hm ?_ hdb)
 refine ⟨(kd I.kIn).typeIs, fun b q => ?_, ?_⟩
 ·cases q
  exact ⟨_, I.kIn _ _ hl, rfl⟩
 rw [m.trees]
 refine Calls.callWith_builtin rfl (Calls.evalArgs_plain (Calls.spliced_cons (thn (he.run pins s σ H _ I h) fun iv s2 ⟨y, H2, I2, ry, q2⟩ => Calls.spliced_cons (thn (hf.run pins s2 σ H2 _ I2 q2) fun fv s3 ⟨dv, H3, I3, rz, z, v, ez, ev, q3⟩ => Calls.spliced_nil ?_))))
 subst ez
 obtain ⟨t, rfl⟩ := ry
 refine call_meetsIn PySem.F.slot_dict_get (kd I3.kIn).typeIs PySem.F.entry_dict_get (PySem.F.args_dict_get_3 _ _ _) (meets_dict_get_default (strKind X.prog X.w) d (PySem.strKind_is X.prog X.w z t) hd fv) ⟨_, kd I3.kIn, ?_⟩
 have ef : findBy Value.isStrOf es z = (es.toList.find? fun e => Value.isStrOf z e.key).map (·.val) := by
  unfold findBy
  rw [← Array.find?_toList]
 show EP X pins σ Q ((findBy Value.isStrOf es z).getD fv) _
 rw [ef]
 unfold EsV at ev
 cases e1 : (es.toList.find? fun e => Value.isStrOf z e.key).map (·.val) with
 | none =>
  rw [e1] at ev
  cases ev
  exact ⟨dv, H3, I3.tok _, rz, q3⟩
 | some u =>
  rw [e1] at ev
  exact ⟨v, H3, I3.tok _, ev, q3⟩
section
variable {ι : Type} {M : MI} {xr : Str → Option Value} {K : PySem.W.Frag} {X : ι → Cx} {W : WX} {N : List Str} {mg : Str → Option Value}
noncomputable def eKGet (tb : List (Str × D)) (f g : Sm M S) (z : Z M.T) : Rs S (Z M.T) := (opd f z).bind fun s z1 => (escf g z1).bind fun s' z2 => match rd z2 s, s' with
 | some (.str x), .d d0 => .ok (.d ((tb.lookup x).getD d0)) z2
 | _, _ => .bad
theorem de_kget {x : Str} {tb : List (Str × D)} {e e' : Expr} {f g : Sm M S} {p1 apos cpos : Pos} {w : World} (p : Pl K X N mg) (hw : ∀ j, (X j).w = w) (D : KDD K w.params mg x tb) (he : DE M xr K X W e f) (he' : DE M xr K X W e' g) (m : ∀ j, L2.M2 (X j) (.Name x p1) "get" apos e e' cpos) (hg : ∀ j, Gl (X j) x := by intro _; rfl) (hdb : (x == ("__debug__" : Str)) = false := by decide) :
  DE M xr K X W (.Call (.Attribute (.Name x p1) "get" apos) [e, e'] [] cpos) (eKGet tb f g) := by
 obtain ⟨d, es, n, hm, hl, hd, ed⟩ := D
 obtain ⟨t1, q1, c1⟩ := he
 obtain ⟨t2, q2, c2⟩ := he'
 refine ⟨tKGet es.toList t1 t2, fun j => pe_kget (by rw [p.k j]; exact hl) (by rw [hw j]; exact ed.lit) hd (hg j) (by rw [p.g j]; exact hm) (q1 j) (q2 j) (m j) hdb, fun G σ H F z Q hK hx ok hh => ?_⟩
 refine cmp_opd c1 G σ H F z _ hK hx ok (hit_bind hh fun s z1 v H1 F1 _ sm1 ok1 ev h1 => ?_)
 refine cmp_esc c2 G σ H1 F1 z1 _ hK hx ok1 (hit_bind h1 fun s' z2 v' H2 F2 _ sm2 ok2 ev2 h2 => ?_)
 cases e1 : rd z2 s with
 | none => rw [e1] at h2; exact h2.elim
 | some k =>
  rw [e1] at h2
  cases k with
  | str y =>
   cases s' with
   | d d0 =>
    simp only at h2
    have rv := EO.rv ok2 (EO.mono sm2 ev) e1
    have ey : v = .str y := by
     rcases rv with q | ⟨_, _, _, _, q, _⟩
     ·cases q; rfl
     ·cases q
    rcases ed.find y with ⟨dd, u, w', l1, l2, l3, l4⟩ | ⟨l1, l2⟩
    ·rw [l1] at h2
     refine ⟨y, w', ey, ?_, h2 w' H2 F2 (Same.refl _) ok2 (by show Da G.K F2 w' dd; rw [hK]; exact l4 F2)⟩
     unfold EsV
     rw [l2]
     exact l3
    ·rw [l1] at h2
     refine ⟨y, v', ey, ?_, h2 v' H2 F2 (Same.refl _) ok2 ev2⟩
     unfold EsV
     rw [l2]
   | _ => exact h2.elim
  | _ => exact h2.elim
noncomputable def eKIx (tb : List (Str × D)) (f : Sm M S) (z : Z M.T) : Rs S (Z M.T) := (opd f z).bind fun s z1 => match rd z1 s with
 | some (.str x) => (match tb.lookup x with
  | some d => .ok (.d d) z1
  | none => .bad)
 | _ => .bad
theorem de_kix {x : Str} {tb : List (Str × D)} {e : Expr} {f : Sm M S} {p1 pos : Pos} {w : World} (p : Pl K X N mg) (hw : ∀ j, (X j).w = w) (D : KDD K w.params mg x tb) (he : DE M xr K X W e f) (hg : ∀ j, Gl (X j) x := by intro _; rfl) (hdb : (x == ("__debug__" : Str)) = false := by decide) (hs : PlainIx e := by exact fun _ _ => rfl) :
  DE M xr K X W (.Subscript (.Name x p1) e pos) (eKIx tb f) := by
 obtain ⟨d, es, n, hm, hl, hd, ed⟩ := D
 obtain ⟨t1, q1, c1⟩ := he
 refine ⟨tOp (rIxD K w) (tC (.ref d)) t1, fun j => ?_, fun G σ H F z Q hK hx ok hh => ?_⟩
 ·have q := pe_ix (X := X j) (a := .Name x p1) (pos := pos) ix_kdict (pe_glob (v := .ref d) (hg j) (by rw [p.g j]; exact hm) rfl hdb) (q1 j) hs
  rw [p.k j, hw j] at q
  exact q
 ·show t1 σ H _
  refine cmp_opd c1 G σ H F z _ hK hx ok (hit_bind hh fun s z1 v H1 F1 _ sm1 ok1 ev h1 => ?_)
  cases e1 : rd z1 s with
  | none => rw [e1] at h1; exact h1.elim
  | some k =>
   rw [e1] at h1
   cases k with
   | str y =>
    have rv := EO.rv ok1 ev e1
    have ey : v = .str y := by
     rcases rv with q | ⟨_, _, _, _, q, _⟩
     ·cases q; rfl
     ·cases q
    rcases ed.find y with ⟨dd, u, w', l1, l2, l3, l4⟩ | ⟨l1, l2⟩
    ·simp only [l1] at h1
     refine ⟨d, y, w', rfl, ey, ⟨es, n, u, hl, ed.lit, ?_, l3⟩, h1 w' H1 F1 (Same.refl _) ok1 (by show Da G.K F1 w' dd; rw [hK]; exact l4 F1)⟩
     unfold PySem.W.nsIn
     rw [hl]
     dsimp only
     have q : (fun d : DictEntry => d.key.isStr y) = fun d => Value.isStrOf y d.key := funext fun d => PySem.W.isStr_of y d.key
     rw [q]
     cases e2 : es.toList.find? fun e => Value.isStrOf y e.key with
     | none => rw [e2] at l2; cases l2
     | some e => rw [e2] at l2; cases l2; rfl
    ·simp only [l1] at h1; exact h1.elim
   | _ => exact h1.elim
end
noncomputable def rEq0 (K : PySem.W.Frag) (neg : Bool) : R2 := fun x y H Q => ∃ a b xs, x = .ref a ∧ y = .ref b ∧ ((SqT K H a xs ∧ SqT K H b []) ∨ (SqL K H a xs ∧ SqL K H b [])) ∧ Q (.bl (neg ^^ xs.isEmpty)) H
section
variable {X : Cx}
theorem all_nil (n : Nat) (e : Nat → Bool) (h : n = 0) : (List.range n).all e = true := by subst h; rfl
theorem op_eq0 (hu : X.A.units < cLine) : OpR X (compareOp .Eq) (rEq0 X.K false) := by
 intro pins s σ H x y v u Q I rx ry h
 obtain ⟨a, b, xs, rfl, rfl, k, q⟩ := h
 cases rx
 cases ry
 rcases k with ⟨k1, k2⟩ | ⟨k1, k2⟩
 ·obtain ⟨its, rv, ⟨o, ho, hc, n, hd⟩, _⟩ := I.tuple k1
  obtain ⟨its2, rv2, ⟨o2, ho2, hc2, n2, hd2⟩, _⟩ := I.tuple k2
  cases rv2
  have hl := rv.length
  refine SeqAt.eq_tupleAt (e := fun _ => true) ⟨o, ho, hc, n, hd⟩ ⟨o2, ho2, hc2, n2, hd2⟩ hu (fun j _ j2 => absurd j2 (by simp)) ?_
  refine ⟨.bl xs.isEmpty, H, I, ?_, by rw [Bool.false_xor] at q; exact q⟩
  show Value.bool _ = Value.bool xs.isEmpty
  cases xs with
  | nil => cases rv; rfl
  | cons x r => cases rv; simp
 ·obtain ⟨its, rv, ⟨o, n, ho, hc, e1, hd⟩, _⟩ := I.list k1
  obtain ⟨its2, rv2, ⟨o2, n2, ho2, hc2, e2, hd2⟩, _⟩ := I.list k2
  cases rv2
  cases xs with
  | nil =>
   cases rv
   refine SeqAt.eq_listAt (e := fun _ => true) ⟨o, ho, hc, n, hd⟩ ⟨o2, ho2, hc2, n2, hd2⟩ rfl hu (fun j _ j2 => absurd j2 (by simp)) ?_
   exact ⟨.bl true, H, I, by simp [L2.RelV], q⟩
  | cons x r =>
   cases rv
   refine SeqAt.eq_list_lengthsAt ⟨o, ho, hc, n, hd⟩ ⟨o2, ho2, hc2, n2, hd2⟩ (by simp) hu ?_
   exact ⟨.bl false, H, I, rfl, q⟩
theorem op_ne0 (hu : X.A.units < cLine) : OpR X (compareOp .NotEq) (rEq0 X.K true) := by
 intro pins s σ H x y v u Q I rx ry h
 obtain ⟨a, b, xs, rfl, rfl, k, q⟩ := h
 cases rx
 cases ry
 rcases k with ⟨k1, k2⟩ | ⟨k1, k2⟩
 ·obtain ⟨its, rv, ⟨o, ho, hc, n, hd⟩, _⟩ := I.tuple k1
  obtain ⟨its2, rv2, ⟨o2, ho2, hc2, n2, hd2⟩, _⟩ := I.tuple k2
  cases rv2
  refine SeqAt.RcNeAt.tuples (e := fun _ => true) ⟨o, ho, hc, n, hd⟩ ⟨o2, ho2, hc2, n2, hd2⟩ hu (fun j _ j2 => absurd j2 (by simp)) _ _ _ _ ?_
  refine ⟨.bl (!xs.isEmpty), H, I, ?_, by rw [Bool.true_xor] at q; exact q⟩
  show Value.bool _ = Value.bool (!xs.isEmpty)
  cases xs with
  | nil => cases rv; rfl
  | cons x r => cases rv; simp
 ·obtain ⟨its, rv, ⟨o, n, ho, hc, e1, hd⟩, _⟩ := I.list k1
  obtain ⟨its2, rv2, ⟨o2, n2, ho2, hc2, e2, hd2⟩, _⟩ := I.list k2
  cases rv2
  cases xs with
  | nil =>
   cases rv
   refine SeqAt.RcNeAt.lists (e := fun _ => true) ⟨o, ho, hc, n, hd⟩ ⟨o2, ho2, hc2, n2, hd2⟩ rfl hu (fun j _ j2 => absurd j2 (by simp)) _ _ _ _ ?_
   exact ⟨.bl false, H, I, by simp [L2.RelV], q⟩
  | cons x r =>
   cases rv
   refine SeqAt.RcNeAt.lists_lengths ⟨o, ho, hc, n, hd⟩ ⟨o2, ho2, hc2, n2, hd2⟩ (by simp) hu _ _ _ _ ?_
   exact ⟨.bl true, H, I, rfl, q⟩
end
noncomputable def dEq0 (neg : Bool) : D → D → Option R := fun a b => match a, b with
 | .tup xs, .tup [] => some (.d (.bl (neg ^^ xs.isEmpty)))
 | .lst xs, .lst [] => some (.d (.bl (neg ^^ xs.isEmpty)))
 | _, _ => none
theorem op2_eq0 {K : PySem.W.Frag} {neg : Bool} : Op2 K (rEq0 K neg) (dEq0 neg) := by
 intro F H x y a b Q s hx hy h
 unfold dEq0 at h
 split at h
 ·rename_i xs
  obtain ⟨p, vs, rfl, h1, h2⟩ := hx.tup s
  obtain ⟨q, us, rfl, g1, g2⟩ := hy.tup s
  cases g2
  have e : vs.isEmpty = xs.isEmpty := by cases h2 <;> rfl
  exact ⟨p, q, vs, rfl, rfl, .inl ⟨h1, g1⟩, by rw [e]; exact h _ (.bl _)⟩
 ·rename_i xs
  obtain ⟨p, vs, rfl, h1, h2⟩ := hx.lst s
  obtain ⟨q, us, rfl, g1, g2⟩ := hy.lst s
  cases g2
  have e : vs.isEmpty = xs.isEmpty := by cases h2 <;> rfl
  exact ⟨p, q, vs, rfl, rfl, .inr ⟨SqL.of h1, SqL.of g1⟩, by rw [e]; exact h _ (.bl _)⟩
 ·exact h.elim
section
variable {ι : Type} {M : MI} {xr : Str → Option Value} {K : PySem.W.Frag} {X : ι → Cx} {W : WX} {N : List Str} {mg : Str → Option Value}
theorem cp_eq0 (p : Pl K X N mg) : Cp K X .Eq (dEq0 false) := .mk _ (fun j => by rw [← p.k j]; exact op_eq0 (by have := p.u j; omega)) op2_eq0
theorem cp_ne0 (p : Pl K X N mg) : Cp K X .NotEq (dEq0 true) := .mk _ (fun j => by rw [← p.k j]; exact op_ne0 (by have := p.u j; omega)) op2_eq0
end
end G
namespace G
open PySem L2 PySem.Spec PyProof.Rows
section
variable {ι : Type} {M : MI} {xr : Str → Option Value} {K : PySem.W.Frag} {X : ι → Cx} {W : WX} {N : List Str} {mg : Str → Option Value}
end
end G
namespace G
open PySem L2 PySem.Spec PyProof.Rows
mutual
noncomputable def toPyE : D → PyData
 | .non => .none
 | .bl b => .bool b
 | .int i => .int i
 | .str x => .str x
 | .tup xs => .tuple (toPyEs xs)
 | .lst xs => .list (toPyEs xs)
 | .scr ns => .list (ns.map PyData.int)
 | .emp => .dict []
 | .exc _ _ => .str ⟨#[4294967295]⟩
 | .o _ => .str ⟨#[4294967295]⟩
noncomputable def toPyEs : List D → List PyData
 | [] => []
 | x :: r => toPyE x :: toPyEs r
end
mutual
noncomputable def layE : D → Bool
 | .tup xs => layEs xs
 | .lst xs => layEs xs
 | .exc _ _ => false
 | .o _ => false
 | _ => true
noncomputable def layEs : List D → Bool
 | [] => true
 | x :: r => layE x && layEs r
end
noncomputable def SysB (base : Heap) : Prop := ∃ mm, base.Ns sysModules mm
section
variable {X : Cx} {pins : List (Addr × Obj)} {σ : L2.St} {F H : Hp} {s : Shared}
theorem sys_dict (I : Inv X pins σ H s) (sb : SysB X.base) : ∃ o es ep, s.heap.get? sysModules = some o ∧ o.data = .dict es ep := by
 obtain ⟨mm, o, es, ep, e, d, _⟩ := sb
 exact ⟨o, es, ep, (I.env0.bs _ _ e).1, d⟩
theorem rd_ints {h : Heap} : ∀ {ns : List Int} {us : List Value}, Vals (ns.map V.int) us → ∃ as, ReadsAll h us (ns.map PyData.int) as ∧ as = []
 | [], _, r => by cases r; exact ⟨[], .nil, rfl⟩
 | n :: ns, _, r => by
  cases r with
  | cons a b =>
   obtain ⟨t, rfl⟩ := a
   obtain ⟨as, q, rfl⟩ := rd_ints b
   exact ⟨_, ReadsAll.cons (.int n t) q, rfl⟩
mutual
theorem Da.readsE (I : Inv X pins σ H s) (sb : SysB X.base) (sx : SameX F H) : ∀ {d : D} {v : V}, Da X.K F v d → layE d = true → ∀ {u : Value}, RelV v u → ∃ as, Reads s.heap u (toPyE d) as ∧ sysModules ∉ as
 | .non, _, h, _, u, r => by cases h; cases r; exact ⟨_, by rw [toPyE]; exact Reads.none, by simp⟩
 | .bl b, _, h, _, u, r => by cases h; cases r; exact ⟨_, by rw [toPyE]; exact Reads.bool b, by simp⟩
 | .int i, _, h, _, u, r => by cases h; obtain ⟨t, rfl⟩ := r; exact ⟨_, by rw [toPyE]; exact Reads.int i t, by simp⟩
 | .str x, _, h, _, u, r => by cases h; obtain ⟨t, rfl⟩ := r; exact ⟨_, by rw [toPyE]; exact Reads.str x t, by simp⟩
 | .tup ds, _, h, l, u, r => by
  cases h with
  | tup q hs =>
   cases r
   obtain ⟨its, rv, ⟨o, ho, hc, n, hd⟩, _⟩ := I.tuple (sx.tup q)
   obtain ⟨as, hr, na⟩ := DaAll.readsE I sb sx (ds := ds) hs (by rwa [layE] at l) rv
   exact ⟨as, by rw [toPyE]; exact Reads.tuple ho hc hd hr, na⟩
 | .lst ds, _, h, l, u, r => by
  cases h with
  | lst q hs =>
   cases r
   obtain ⟨its, rv, ⟨o, n, ho, hc, _, hd⟩, _⟩ := I.list (SqL.of (sx.lst q))
   obtain ⟨as, hr, na⟩ := DaAll.readsE I sb sx (ds := ds) hs (by rwa [layE] at l) rv
   refine ⟨_ :: as, by rw [toPyE]; exact Reads.list ho hc hd hr, fun m => ?_⟩
   rcases List.mem_cons.mp m with e | m
   ·obtain ⟨o2, es, ep, e2, d2⟩ := sys_dict I sb
    rw [e, ho] at e2
    cases e2
    rw [hd] at d2
    cases d2
   ·exact na m
 | .scr ns, _, h, _, u, r => by
  cases h with
  | scr q =>
   cases r
   obtain ⟨its, rv, ⟨o, n, ho, hc, _, hd⟩, _⟩ := I.list (sx.seq q)
   obtain ⟨as, hr, rfl⟩ := rd_ints (h := s.heap) rv
   refine ⟨[_], by rw [toPyE]; exact Reads.list ho hc hd hr, fun m => ?_⟩
   rcases List.mem_cons.mp m with e | m
   ·obtain ⟨o2, es, ep, e2, d2⟩ := sys_dict I sb
    rw [e, ho] at e2
    cases e2
    rw [hd] at d2
    cases d2
   ·cases m
 | .emp, _, h, _, u, r => by
  cases h with
  | emp q =>
   rename_i a
   cases r
   obtain ⟨_, hm, vs, kv, o, es, ep, ho, ex, hd, _, pr, _⟩ := dk_of I.hok (sx.emp q)
   cases kv
   have e0 : es.toList = [] := by
    generalize es.toList = l at pr
    cases pr
    rfl
   have hr := Reads.dict (h := s.heap) (kvs := []) ho ex.1 hd (by rw [e0]; exact .nil) (by rw [e0]; exact .nil)
   refine ⟨_, by rw [toPyE]; exact hr, fun m => ?_⟩
   have m' : sysModules = a := by simpa using m
   rw [m'] at hm
   exact absurd hm (by rw [beq_self_eq_true]; exact Bool.noConfusion)
 | .exc _ _, _, _, l, _, _ => by rw [layE] at l; cases l
 | .o _, _, _, l, _, _ => by rw [layE] at l; cases l
theorem DaAll.readsE (I : Inv X pins σ H s) (sb : SysB X.base) (sx : SameX F H) : ∀ {ds : List D} {vs : List V}, DaAll X.K F vs ds → layEs ds = true → ∀ {us : List Value}, Vals vs us → ∃ as, ReadsAll s.heap us (toPyEs ds) as ∧ sysModules ∉ as
 | [], _, h, _, us, r => by cases h; cases r; exact ⟨_, by rw [toPyEs]; exact ReadsAll.nil, by simp⟩
 | d :: ds, _, h, l, us, r => by
  rw [layEs, Bool.and_eq_true] at l
  cases h with
  | cons h1 h2 =>
   cases r with
   | cons r1 r2 =>
    obtain ⟨as, q1, n1⟩ := Da.readsE I sb sx (d := d) h1 l.1 r1
    obtain ⟨bs, q2, n2⟩ := DaAll.readsE I sb sx (ds := ds) h2 l.2 r2
    refine ⟨as ++ bs, by rw [toPyEs]; exact ReadsAll.cons q1 q2, fun m => ?_⟩
    rcases List.mem_append.mp m with m | m
    ·exact n1 m
    ·exact n2 m
end
end
noncomputable def rReprE (K : PySem.W.Frag) : List V → Hp → VK → Prop := fun xs H Q => (xs = [.non] ∧ Q (.str "None") H) ∨ ∃ F a d, xs = [.ref a] ∧ SameX F H ∧ Rv K F H (.ref a) d ∧ layE d = true ∧ (toPyE d).showable = true ∧ (toPyE d).depth ≤ 290 ∧ (toPyE d).shown.length ≤ sizeLine ∧ Q (.str (toPyE d).shown) H
theorem call_reprE {X : Cx} (sb : SysB X.base) (hg : X.A.guards = some []) (hu : X.A.units + 300 < cLine) : CallR X (.builtin "repr") (rReprE X.K) := by
 intro pins s σ H xs us Q I r h
 rcases h with ⟨rfl, q⟩ | ⟨F, a, d, rfl, sx, hd, h1, h2, h3, h4, q⟩
 ·cases r with
  | cons ru rt =>
   cases rt
   cases ru
   exact PySem.P.repr_of_none ⟨.str _, H, I.tok _, ⟨_, rfl⟩, q⟩
 cases r with
 | cons ru rt =>
  cases rt
  cases ru
  have hr : ∃ as, Reads s.heap (.ref a) (toPyE d) as ∧ sysModules ∉ as := by
   rcases hd with hd | ⟨b, vs, ys, e, rfl, e2, hs⟩
   ·exact Da.readsE I sb sx hd h1 rfl
   ·cases e
    obtain ⟨its, rv, ⟨o, n, ho, hc, _, hd⟩, _⟩ := I.list (SqL.of (K := X.K) e2)
    obtain ⟨as, hr, na⟩ := DaAll.readsE I sb sx hs (by rwa [layE] at h1) rv
    refine ⟨_ :: as, by rw [toPyE]; exact Reads.list ho hc hd hr, fun m => ?_⟩
    rcases List.mem_cons.mp m with e | m
    ·obtain ⟨o2, es, ep, e2, d2⟩ := sys_dict I sb
     rw [e, ho] at e2
     cases e2
     rw [hd] at d2
     cases d2
    ·exact na m
  obtain ⟨as, rr, na⟩ := hr
  exact repr_of_reads' rr h2 (fun _ => na) hg (by omega) (fun b o e => e) (fun h' u tk hk => ⟨.str _, H, I.kept hk, ⟨u, rfl⟩, q⟩) h4
noncomputable def shwE (d : D) : Str := (toPyE d).shown
noncomputable def showOkE (d : D) : Bool := layE d && ((toPyE d).showable && (decide ((toPyE d).depth ≤ 290) && decide ((shwE d).length ≤ 15000000)))
noncomputable def fReprE : List D → Option R := fun as => match as with
 | [.non] => some (.d (.str "None"))
 | [.tup xs] => if showOkE (.tup xs) = true then some (.d (.str (shwE (.tup xs)))) else none
 | [.lst xs] => if showOkE (.lst xs) = true then some (.d (.str (shwE (.lst xs)))) else none
 | _ => none
theorem reprE_hit {K : PySem.W.Frag} {F H : Hp} {v : V} {d : D} {Q : VK} (s : SameX F H) (r : Rv K F H v d) (hv : ∃ a, v = .ref a) (h : Hit0 K F H (if showOkE d = true then some (.d (.str (shwE d))) else none) Q) : rReprE K [v] H Q := by
 obtain ⟨a, rfl⟩ := hv
 by_cases hs : showOkE d = true
 ·rw [if_pos hs] at h
  unfold showOkE at hs
  rw [Bool.and_eq_true, Bool.and_eq_true, Bool.and_eq_true] at hs
  exact .inr ⟨F, a, d, rfl, s, r, hs.1, hs.2.1, of_decide_eq_true hs.2.2.1, (by have q : (toPyE d).shown.length ≤ 15000000 := of_decide_eq_true hs.2.2.2; rw [sizeLine_eq]; omega), h _ (.str _)⟩
 ·rw [if_neg hs] at h
  exact h.elim
theorem opn_reprE {K : PySem.W.Frag} : OpN K (rReprE K) fReprE := by
 intro F H xs as Q s hp h
 match as, hp, h with
 | [.tup ds], hp, h =>
  obtain ⟨x, rfl, r⟩ := p1 hp
  obtain ⟨a, vs, rfl, _, _⟩ := r.tup s
  exact reprE_hit s r ⟨a, rfl⟩ h
 | [.lst ds], hp, h =>
  obtain ⟨x, rfl, r⟩ := p1 hp
  obtain ⟨a, vs, rfl, _, _⟩ := r.lst s
  exact reprE_hit s r ⟨a, rfl⟩ h
 | [], _, h => exact h.elim
 | [.non], hp, h =>
  obtain ⟨x, rfl, r⟩ := p1 hp
  have := r.da (fun _ q => by cases q)
  cases this
  exact .inl ⟨rfl, h _ (.str _)⟩
 | [.bl _], _, h => exact h.elim
 | [.int _], _, h => exact h.elim
 | [.str _], _, h => exact h.elim
 | [.scr _], _, h => exact h.elim
 | [.emp], _, h => exact h.elim
 | [.exc _ _], _, h => exact h.elim
 | [.o _], _, h => exact h.elim
 | .non :: _ :: _, _, h => exact h.elim
 | .bl _ :: _ :: _, _, h => exact h.elim
 | .int _ :: _ :: _, _, h => exact h.elim
 | .str _ :: _ :: _, _, h => exact h.elim
 | .tup _ :: _ :: _, _, h => exact h.elim
 | .lst _ :: _ :: _, _, h => exact h.elim
 | .scr _ :: _ :: _, _, h => exact h.elim
 | .emp :: _ :: _, _, h => exact h.elim
 | .exc _ _ :: _ :: _, _, h => exact h.elim
 | .o _ :: _ :: _, _, h => exact h.elim
section
variable {ι : Type} {P : Program} {w : World} {K : PySem.W.Frag} {mg : Str → Option Value} {base : Heap} {N : List Str} {W : WX} {n : Nat} {X : ι → Cx}
theorem fb_reprE (p : Pc P w K mg base N W n X) (sb : SysB base) : Fb K X "repr" fReprE := .fn "repr" (rReprE K) (fun j => by rw [← p.k j]; exact call_reprE (by rw [p.pb j]; exact sb) (p.gd j) (p.u j)) opn_reprE PyProof.Rows.boot_repr (by decide) (by decide)
end
theorem lawGS {P : Program} {w : World} {K : PySem.W.Frag} {mg mb : Str → Option Value} {CX : CXT} {n : Nat} {fa a : Addr} {fd : FuncData} {x : Str} {sp : Sp} {s1 : Shared} {us : List Value} {ns : List Int} {mm : Str → Option Value} (sm : s1.heap.Ns sysModules mm) (inK : K.In s1.heap) (gs : s1.heap.Ns mainGlobals mg) (bs : s1.heap.Ns builtinsNs mb)
  (boot : ∀ x : Str, x ≠ "__name__" → mb x = bootBuiltins x) (nl : s1.heap.NoLimit) (ge : s1.gens = #[]) (oa : s1.heap.get? a = some { cls := .type "list", data := .seq us.toArray }) (hi : IntsAre us ns) (hl : ns.length ≤ sizeLine) (hr : RmG n callerA)
  (F : ∀ bh : Heap, SysB bh → K.In bh → bh.Ns mainGlobals mg → FnG P w K mg bh CX n fa fd [x] sp) (hbd : ∀ (s : Shared) (u : Value), BindsTo s fd ⟨[u], []⟩ [(x, u)])
  (hsp : ∀ H : Hp, Only H → SqL K H a (ns.map V.int) → sp [.ref a] H (fun v _ => v = .bl true) fun _ _ _ => False) (noX : ∀ H e s', CX [] H s1 (fun _ _ _ => False) e s' → False) :
  codeAny (model P w) callerA (.call (.ref fa) ⟨[.ref a], []⟩) (fun r s' => r = .ok (.ret (.bool true)) ∧ OldK s1.heap s'.heap ∧ s'.os = s1.os ∧ AllBare s'.gens) s1 := by
 have vals := vals_ints hi
 have lens := hi.length
 have main : ∀ H : Hp, Only H → SqL K H a (ns.map V.int) → HOk P w H s1.heap → (∀ c, H c ≠ none → c = a) → (H a ≠ none → K.lookup a = none) → codeAny (model P w) callerA (.call (.ref fa) ⟨[.ref a], []⟩) (fun r s' => r = .ok (.ret (.bool true)) ∧ OldK s1.heap s'.heap ∧ s'.os = s1.os ∧ AllBare s'.gens) s1 := by
  intro H only sq hok at1 notK
  have keep : ∀ {c : Addr} {o : Obj}, s1.heap.get? c = some o → H c = none → (hidT s1.heap H).get? c = some o := fun e z => hidT_get e z
  have noDict : ∀ {c : Addr} {o : Obj} {es : Array DictEntry} {ep : Nat}, s1.heap.get? c = some o → o.data = .dict es ep → H c = none := by
   intro c o es ep e d
   rcases hq : H c with _ | u
   ·rfl
   ·have hc : c = a := at1 c (by rw [hq]; exact Option.some_ne_none u)
    rw [hc, oa] at e
    cases e
    exact Data.noConfusion (show Data.seq us.toArray _ = Data.dict es ep from d)
  have nsOf : ∀ {c : Addr} {m : Str → Option Value}, s1.heap.Ns c m → (hidT s1.heap H).Ns c m := fun ⟨o, es, ep, e, d, r⟩ => ⟨o, es, ep, keep e (noDict e d), d, r⟩
  have inB : K.In (hidT s1.heap H) := by
   intro c o e
   refine keep (inK c o e) ?_
   rcases hq : H c with _ | u
   ·rfl
   ·have hc : c = a := at1 c (by rw [hq]; exact Option.some_ne_none u)
    rw [hc, notK (by rw [← hc, hq]; exact Option.some_ne_none u)] at e
    cases e
  have md : Mod K mg (hidT s1.heap H) := ⟨inB, nsOf gs, ⟨mb, nsOf bs, boot⟩, by obtain ⟨mc, q1, q2⟩ := nl; exact ⟨mc, nsOf q1, q2⟩⟩
  have env : Env0 P w K mg (hidT s1.heap H) callerA [] s1 H := ⟨rfl, md, fun c o e => of_hidT e, Nat.le_of_eq (hidT_size _ _), trivial, fun c hc => (List.not_mem_nil (show c ∈ ([] : List Addr) from hc)).elim, hok, .of_eq ge⟩
  apply codeAny_mono ((F _ ⟨mm, nsOf sm⟩ inB (nsOf gs)).run callerA [] s1 H ⟨[.ref a], []⟩ [.ref a] [.ref a] _ _ hr rfl env (hbd s1 (.ref a)) (.cons rfl .nil) (hsp H only sq))
  intro r s' h
  match r, h with
  | .error e, h => exact (noX H e s' h).elim
  | .ok .next, h => exact h.elim
  | .ok .brk, h => exact h.elim
  | .ok .cont, h => exact h.elim
  | .ok (.ret u), h =>
   obtain ⟨v, H', os, bare, un, hok', rv, q⟩ := h
   cases (show v = .bl true from q)
   cases (show u = Value.bool true from rv)
   refine ⟨rfl, OldK.of_keep ?_, os, bare⟩
   intro c o e
   rcases hq : H c with _ | u
   ·exact un.keep c o e hq (fun z => (List.not_mem_nil (show c ∈ ([] : List Addr) from z)).elim) (List.not_mem_nil)
   ·rcases only c with z | ⟨ob, xs, z⟩
    ·exact absurd (hq.symm.trans z) (Option.some_ne_none u)
    ·obtain ⟨q1, _⟩ := hok c _ z
     obtain ⟨q2, _⟩ := hok' c _ (un.frzs c ob _ z)
     have : o = ob := Option.some.inj (e.symm.trans q1)
     rw [this]
     exact q2
 rcases hk : K.lookup a with _ | o
 ·refine main (fun c => if c = a then some (.frz { cls := .type "list", data := .seq us.toArray } (.lst (ns.map V.int))) else none) ?_ (.inl (.inr ⟨{ cls := .type "list", data := .seq us.toArray }, if_pos rfl⟩)) ?_ ?_ (fun _ => hk)
  ·intro c
   by_cases hc : c = a
   ·exact Or.inr ⟨_, _, if_pos hc⟩
   ·exact Or.inl (if_neg hc)
  ·intro c u z
   by_cases hc : c = a
   ·cases (if_pos hc).symm.trans z
    rw [hc]
    exact ⟨oa, by rw [List.length_map]; exact hl, us, _, vals, oa⟩
   ·cases (if_neg hc).symm.trans z
  ·intro c z
   by_cases hc : c = a
   ·exact hc
   ·exact absurd (if_neg hc) z
 ·have e := inK a o hk
  rw [oa] at e
  cases e
  exact main (fun _ => none) (fun _ => .inl rfl) (.inr ⟨_, us.toArray, _, hk, rfl, rfl, rfl, by rw [List.size_toArray, lens]; exact hl, by simpa using vals⟩) (fun c u z => by cases (show (none : Option HO) = some u from z)) (fun c z => absurd rfl z) (fun z => absurd rfl z)
theorem walkGS {l : PySem.W.OpenLaw} {m n : Nat} {q : Program} {loose : List Str} {XP : (Str → Option Value) → Heap → Prop} {YP : World → Heap → Prop} {d : DefRec} {K : Params → PySem.W.Frag} {CX : World → CXT} {sp : World → Sp} {x : Str} (hi : importsNone q = true) (hm : l.most = some m) (hm2 : m ≤ sizeLine) (hdf : d.params.defaults = []) (hr : RmG n callerA) (hY : ∀ (w : World) (h : Heap), YP w h → (K w.params).In h)
  (F : ∀ (w : World) (mg : Str → Option Value) (fa : Addr) (h : Heap), (K w.params).In h → h.Ns mainGlobals mg → mg d.name = some (.ref fa) → ∃ fd : FuncData, (∀ (s : Shared) (u : Value), BindsTo s fd ⟨[u], []⟩ [(x, u)]) ∧ ∀ bh : Heap, SysB bh → (K w.params).In bh → bh.Ns mainGlobals mg → FnG l.prog w (K w.params) mg bh (CX w) n fa fd [x] (sp w))
  (hsp : ∀ (w : World) (H : Hp) (a : Addr) (ns : List Int), ns.length ≤ m → (∀ z ∈ ns, Builtin.Int.intBits z ≤ 1048576) → Only H → SqL (K w.params) H a (ns.map V.int) → sp w [.ref a] H (fun v _ => v = .bl true) fun _ _ _ => False)
  (noX : ∀ (w : World) (H : Hp) (s : Shared) (e : Value) (s' : Shared), CX w [] H s (fun _ _ _ => False) e s' → False) : PySem.W.WalkO q loose XP YP l.row.toRowW d [] (fun f vs => PySem.call f vs) := by
 apply Att.attach_callB hm hdf
 intro w s0 s1 mg mb fa o pm cd doc a us ns gr Y ho hd hcd hmg oa hi' hlen hbits hg
 have inK := hY w _ Y
 obtain ⟨fd, hb, hF⟩ := F w mg fa _ inK gr.T.g hmg
 obtain ⟨mm, hmm, _⟩ := (gr.T.seer hi).mods
 exact lawGS hmm inK gr.T.g gr.T.b gr.T.builtins gr.T.nolimit hg oa hi' (Nat.le_trans hlen hm2) hr hF hb (fun H hO hS => hsp w H a ns hlen hbits hO hS) (fun H e s' => noX w H s1 e s')
end G
namespace G
open PySem L2 PySem.Spec PyProof.Rows
section
variable {ι : Type} {M : MI} {xr : Str → Option Value} {K : PySem.W.Frag} {X : ι → Cx} {W : WX} {N : List Str} {mg : Str → Option Value}
end
end G
namespace G
open PySem L2 PySem.Spec PyProof.Rows
section
variable {ι : Type} {xr : Str → Option Value} {K : PySem.W.Frag} {X : ι → Cx} {W : WX} {N : List Str} {mg : Str → Option Value}
noncomputable def dKs : List (Str × Sm MX S) → Sm MX (List (Key × D))
 | [] => fun z => .ok [] z
 | (k, f) :: r => fun z => (escf f z).bind fun s z1 => (dKs r z1).bind fun ps z2 => match s with
  | .d x => .ok ((.inr k, x) :: ps) z2
  | _ => .bad
noncomputable def RelP (G : Gx) (_ : L2.St) : List (Key × D) → List (V × V) → Hp → Hp → Z (List MO) → Prop := fun ps vs F _ _ => ∃ kvs : List (Key × V), vs = kvs.map (fun kv => (kV kv.1, kv.2)) ∧ DaK G.K F kvs ps
noncomputable def DP (X : ι → Cx) (xr : Str → Option Value) (K : PySem.W.Frag) (W : WX) (pos : Pos) (ks : List (Option Expr)) (vs : List Expr) (ps : List (Str × Sm MX S)) : Prop := ∃ trs, (∀ j, PPs (X j) pos ks vs trs) ∧ Cmp MX K xr W (tPairs trs) RelP (dKs ps)
theorem dp_nil {pos : Pos} : DP X xr K W pos [] [] [] := ⟨[], fun _ => pps_nil, fun G σ H F z Q hK hx ok hh => hh [] H F (Same.refl _) ok ⟨[], rfl, .nil⟩⟩
theorem dp_cons {pos p1 : Pos} {i1} {k : Str} {v : Expr} {f : Sm MX S} {ks : List (Option Expr)} {vs : List Expr} {ps : List (Str × Sm MX S)} (hv : DE MX xr K X W v f) (h : DP X xr K W pos ks vs ps) : DP X xr K W pos (some (.Constant (.str k) i1 p1) :: ks) (v :: vs) ((k, f) :: ps) := by
 obtain ⟨t, pt, ct⟩ := hv
 obtain ⟨trs, pr, cr⟩ := h
 refine ⟨(tC (.str k), t) :: trs, fun j => pps_cons pe_str (pt j) (pr j), fun G σ H F z Q hK hx ok hh => ?_⟩
 show tC (.str k) σ H fun x H1 => t σ H1 fun y H2 => tPairs trs σ H2 fun qs H3 => Q ((x, y) :: qs) H3
 show t σ H fun y H2 => tPairs trs σ H2 fun qs H3 => Q ((.str k, y) :: qs) H3
 refine cmp_esc ct G σ H F z _ hK hx ok (hit_bind hh fun s z1 v H1 F1 _ sm1 ok1 ev h1 => ?_)
 refine cr G σ H1 F1 z1 _ hK hx ok1 (hit_bind h1 fun qs z2 us H2 F2 _ sm2 ok2 ea h2 => ?_)
 cases s with
 | d x =>
  obtain ⟨kvs, rfl, hk⟩ := ea
  have ev' : Da G.K F1 v x := ev
  exact h2 _ H2 F2 (Same.refl _) ok2 ⟨(.inr k, v) :: kvs, rfl, .cons (ev'.mono sm2) hk⟩
 | l _ => exact h2.elim
 | v _ => exact h2.elim
 | m _ => exact h2.elim
noncomputable def eDispG (ps : List (Str × Sm MX S)) (z : Z MX.T) : Rs S (Z MX.T) := (dKs ps { z with m := z.m ++ [.dK []] }).bind fun kvs z1 => match z1.m[z.m.length]? with
 | some (.dK []) => if kvs.length ≤ 15 then .ok (.d (.o z.m.length)) { z1 with m := z1.m.set z.m.length (.dK (mergeD [] kvs)) } else .bad
 | _ => .bad
theorem de_dispG {ps : List (Str × Sm MX S)} {keys : List (Option Expr)} {values : List Expr} {pos : Pos} (h : DP X xr K W pos keys values ps) (hall : keys.all (·.isSome) = true) (hl : keys.length = values.length) (h0 : keys ≠ []) (h15 : keys.length ≤ 15) : DE MX xr K X W (.Dict keys values pos) (eDispG ps) := by
 obtain ⟨trs, pr, cr⟩ := h
 refine ⟨tDisp trs, fun j => pe_disp (pr j) hall hl h0 h15, fun G σ H F z Q hK hx ok hh => fun p hp => ?_⟩
 have okA := ok.alloc hp (ho := .dK []) (o := .dK []) ⟨[], upd_same, .nil⟩
 have sF : Same F (upd F p (tag z.m.length)) := same_upd (ok.freshF hp)
 refine cr G σ (upd H p (.dK [])) (upd F p (tag z.m.length)) { z with m := z.m ++ [.dK []] } _ hK hx okA (hit_bind (HitG.mono hh sF) fun kvs z1 vs H1 F1 _ sm1 ok1 ea h1 => ?_)
 have hF := sm1 _ _ (show upd F p (tag z.m.length) p = some (tag z.m.length) from upd_same)
 cases e : z1.m[z.m.length]? with
 | none => simp only [e] at h1; exact h1.elim
 | some o =>
  cases o with
  | lst _ => simp only [e] at h1; exact h1.elim
  | ins _ _ => simp only [e] at h1; exact h1.elim
  | dK l =>
   cases l with
   | cons _ _ => simp only [e] at h1; exact h1.elim
   | nil =>
    simp only [e] at h1
    obtain ⟨a, ea1, ea2, k0, ea3, ea4⟩ := ok1.objAt (Da.o hF) e
    cases ea1
    cases ea4
    obtain ⟨kvs', rfl, hk⟩ := ea
    by_cases c : kvs.length ≤ 15
    ·rw [if_pos c] at h1
     refine ⟨ea3, kvs', rfl, by rw [hk.length]; exact c, ?_⟩
     exact h1 (.ref p) _ F1 (Same.refl _) (ok1.putO hF ⟨_, upd_same, DaK.mergeA hk .nil⟩) (Da.o hF)
    ·rw [if_neg c] at h1; exact h1.elim
end
end G
namespace G
open PySem L2 PySem.Spec PyProof.Rows
end G
namespace G
open PySem L2 PySem.Spec PyProof.Rows
section
variable {ι : Type} {xr : Str → Option Value} {K : PySem.W.Frag} {X : ι → Cx} {W : WX} {N : List Str} {mg : Str → Option Value}
end
end G
namespace G
open PySem L2 PySem.Spec PyProof.Rows
section
variable {ι : Type} {M : MI} {xr : Str → Option Value} {K : PySem.W.Frag} {X : ι → Cx} {W : WX} {N : List Str} {mg : Str → Option Value}
end
end G
namespace G
open PySem L2
noncomputable def rdO (z : Z (List MO)) (s : S) : Option D := match listAt z s with
 | some (_, xs) => some (.lst xs)
 | none => rd z s
theorem EO.rvO {G : Gx} {σ : St} {H F : Hp} {z : Z (List MO)} (ok : Ok MX G σ H F z) {v : V} {s : S} {x : D} (e : EO G σ F v s) (h : rdO z s = some x) : Rv G.K F H v x := by
 unfold rdO at h
 cases q : listAt z s with
 | none => rw [q] at h; exact EO.rv ok e h
 | some p =>
  obtain ⟨n, xs⟩ := p
  rw [q] at h
  cases h
  obtain ⟨a, vs, rfl, _, _, h1, h2⟩ := listAt_rv ok e q
  exact .inr ⟨a, vs, xs, rfl, rfl, h1, h2⟩
noncomputable def rdsO (z : Z (List MO)) : List S → Option (List D)
 | [] => some []
 | s :: r => (rdO z s).bind fun x => (rdsO z r).bind fun xs => some (x :: xs)
theorem paired_rvO {G : Gx} {σ : St} {H F : Hp} {z : Z (List MO)} (ok : Ok MX G σ H F z) : ∀ {vs : List V} {ss : List S} {ds : List D}, Paired (fun v s => EO G σ F v s) vs ss → rdsO z ss = some ds → Paired (Rv G.K F H) vs ds
 | _, _, _, .nil, h => by cases h; exact .nil
 | _, s :: ss, ds, .cons a b, h => by
  unfold rdsO at h
  cases e : rdO z s with
  | none => rw [e] at h; cases h
  | some x =>
   cases e2 : rdsO z ss with
   | none => rw [e, e2] at h; cases h
   | some xs =>
    rw [e, e2] at h
    cases h
    exact .cons (EO.rvO ok a e) (paired_rvO ok b e2)
section
variable {ι : Type} {xr : Str → Option Value} {K : PySem.W.Frag} {X : ι → Cx} {W : WX} {N : List Str} {mg : Str → Option Value}
noncomputable def eBinO (g : D → D → Option R) (f f' : Sm MX S) (z : Z MX.T) : Rs S (Z MX.T) := (opd f z).bind fun s z1 => (opd f' z1).bind fun s' z2 => fin ((rdO z2 s).bind fun x => (rd z2 s').bind fun y => g x y) z2
noncomputable def eFnO (g : List D → Option R) (f : Sm MX (List S)) (z : Z MX.T) : Rs S (Z MX.T) := (f z).bind fun ss z1 => fin ((rdsO z1 ss).bind g) z1
theorem cmp_binO {r : R2} {g : D → D → Option R} {ta tb : TE} {f f' : Sm MX S} (hd : Op2 K r g) (ha : Cmp MX K xr W ta RelE f) (hb : Cmp MX K xr W tb RelE f') : Cmp MX K xr W (tOp r ta tb) RelE (eBinO g f f') := by
 intro G σ H F z Q hK hx ok h
 refine cmp_opd ha G σ H F z _ hK hx ok (hit_bind h fun s z1 v H1 F1 _ sm1 ok1 e1 h1 => ?_)
 refine cmp_opd hb G σ H1 F1 z1 _ hK hx ok1 (hit_bind h1 fun s' z2 v' H2 F2 _ sm2 ok2 e2 h2 => ?_)
 have q := fin_hit ok2 h2
 subst hK
 cases ea : rdO z2 s with
 | none => rw [ea] at q; exact q.elim
 | some x =>
  cases eb : rd z2 s' with
  | none => rw [ea, eb] at q; exact q.elim
  | some y =>
   rw [ea, eb] at q
   exact hd F2 H2 v v' x y Q ok2.sub (EO.rvO ok2 (EO.mono sm2 e1) ea) (EO.rv ok2 e2 eb) q
theorem cmp_fnO {r : List V → Hp → VK → Prop} {g : List D → Option R} {t : TA} {f : Sm MX (List S)} (hd : OpN K r g) (c : Cmp MX K xr W t RelA f) : Cmp MX K xr W (tCB r t) RelE (eFnO g f) := by
 intro G σ H F z Q hK hx ok hh
 refine c G σ H F z _ hK hx ok (hit_bind hh fun ss z1 vs H1 F1 _ sm1 ok1 e1 h1 => ?_)
 have q := fin_hit ok1 h1
 subst hK
 cases e : rdsO z1 ss with
 | none => rw [e] at q; exact q.elim
 | some ds =>
  rw [e] at q
  exact hd F1 H1 vs ds Q ok1.sub (paired_rvO ok1 e1 e) q
theorem Cp.deO {op : CmpOp} {g : D → D → Option R} {a b : Expr} {f f' : Sm MX S} {pos : Pos} (c : Cp K X op g) (ha : DE MX xr K X W a f) (hb : DE MX xr K X W b f') (hm : behindInMarks op b = false) : DE MX xr K X W (.Compare a [op] [b] pos) (eBinO g f f') := by
 cases c with
 | mk r ho hd =>
  obtain ⟨ta, pa, ca⟩ := ha
  obtain ⟨tb, pb, cb⟩ := hb
  exact ⟨_, fun j => pe_cmpR (ho j) (pa j) (pb j) hm, cmp_binO hd ca cb⟩
theorem Cp.dtO {op : CmpOp} {g : D → D → Option R} {a b : Expr} {f f' : Sm MX S} {pos : Pos} (c : Cp K X op g) (ha : DE MX xr K X W a f) (hb : DE MX xr K X W b f') (hm : behindInMarks op b = false) : DT MX xr K X W (.Compare a [op] [b] pos) (tOf (eBinO g f f')) := by
 cases c with
 | mk r ho hd =>
  obtain ⟨ta, pa, ca⟩ := ha
  obtain ⟨tb, pb, cb⟩ := hb
  exact ⟨_, fun j => pt_cmpR (ho j) (pa j) (pb j) hm, cmp_tOf (cmp_binO hd ca cb)⟩
theorem Fb.deO {x : Str} {g : List D → Option R} (c : Fb K X x g) {e : Expr} {es : List Expr} {h : Sm MX (List S)} {pp pos : Pos} (p : Pl K X N mg) (hm : mg x = none) (ha : DA MX xr K X W (e :: es) h) (hg : ∀ j, Gl (X j) x := by intro _; rfl)
  (he : ∀ j, starEach (e :: es) (X j).env = (false, eval e (X j).env) :: starEach es (X j).env := by intro _; rfl) (hpl : ∀ j, (backTo pos (starEach es (X j).env)).any (·.1) = false := by intro _; rfl) : DE MX xr K X W (.Call (.Name x pp) (e :: es) [] pos) (eFnO g h) := by
 obtain ⟨t, pa, cc⟩ := ha
 cases c with
 | fn id r hc hd hv hn hb => exact ⟨_, fun j => pe_callB (hc j) (hg j) (by rw [p.g j]; exact hm) hv (pa j) hn hb (he j) (hpl j), cmp_fnO hd cc⟩
 | ty T r hc hd hv hn hb => exact ⟨_, fun j => pe_callTy (hc j) (hg j) (by rw [p.g j]; exact hm) hv (pa j) hn hb (he j) (hpl j), cmp_fnO hd cc⟩
noncomputable def eAppO (f g : Sm MX S) (z : Z MX.T) : Rs S (Z MX.T) := (opd f z).bind fun s z1 => match listAt z1 s with
 | none => .bad
 | some _ => (escf g z1).bind fun s' z2 => match listAt z2 s, s' with
  | some (n, xs), .d y => if xs.length < lim then .ok (.d .non) { z2 with m := z2.m.set n (.lst (xs ++ [y])) } else .bad
  | _, _ => .bad
theorem de_appendO {o e : Expr} {apos cpos : Pos} {f g : Sm MX S} (p : Pl K X N mg) (ho : DE MX xr K X W o f) (h : DE MX xr K X W e g)
  (hbase : ∀ j, attributeBase o "append" (X j).env (eval o (X j).env) = eval o (X j).env := by intro _; rfl)
  (hfew : ∀ j, ((backTo cpos (starEach [e] (X j).env)).all (fun x => !x.1) && (backToKw cpos (keywordEach [] (X j).env)).all (fun x => x.1.isSome) && decide (([e] : List Expr).length + ([] : List Keyword).length + (if ([] : List Keyword).isEmpty then 0 else 1) < 31)) = true := by intro _; rfl)
  (hline : (apos.endLine == cpos.line) = true := by rfl) (hs : ∀ j, starEach [e] (X j).env = (false, eval e (X j).env) :: starEach [] (X j).env := by intro _; rfl) (hplain : ∀ j, (backTo cpos (starEach [] (X j).env)).any (·.1) = false := by intro _; rfl) :
  DE MX xr K X W (.Call (.Attribute o "append" apos) [e] [] cpos) (eAppO f g) := by
 obtain ⟨t1, p1, c1⟩ := ho
 obtain ⟨t, p2, c⟩ := h
 refine ⟨tBM K "list" rAppend t1 (tCons t tNil), fun j => ?_, fun G σ H F z Q hGK hx ok hh => ?_⟩
 ·rw [← p.k j]
  exact pe_bm PySem.F.plainAttrs_list PySem.F.slot_list_append PySem.F.type_list_append mt_append (p1 j) (pa_cons (p2 j) pa_nil (hs j)) (hbase j) (hfew j) hline (hs j) (hplain j)
 ·refine cmp_opd c1 G σ H F z _ hGK hx ok (hit_bind hh fun s z1 v H1 F1 _ sm1 ok1 ev h1 => ?_)
  cases e0 : listAt z1 s with
  | none => simp only [e0] at h1; exact h1.elim
  | some q =>
   obtain ⟨n0, ys⟩ := q
   simp only [e0] at h1
   obtain ⟨a, vs, rfl, _, _, ha, _⟩ := listAt_rv ok1 ev e0
   refine ⟨tyV_own ha, ?_⟩
   refine cmp_esc c G σ H1 F1 z1 _ hGK hx ok1 (hit_bind h1 fun s' z2 w H2 F2 _ sm2 ok2 ew h2 => ?_)
   cases e1 : listAt z2 s with
   | none => simp only [e1] at h2; exact h2.elim
   | some q =>
    obtain ⟨n, xs⟩ := q
    simp only [e1] at h2
    cases s' with
    | d y =>
     simp only at h2
     by_cases hl : xs.length < lim
     ·rw [if_pos hl] at h2
      obtain ⟨b, ws, eb, hF, em, hb, hdw⟩ := listAt_rv ok2 (EO.mono sm2 ev) e1
      cases eb
      refine ⟨a, ws, w, rfl, rfl, hb, by rw [hdw.length]; exact Nat.lt_trans hl lim_line, ?_⟩
      exact h2 .non _ F2 (Same.refl _) (ok2.putO hF ⟨_, upd_same, hdw.append (.cons ew .nil)⟩) Da.non
     ·rw [if_neg hl] at h2; exact h2.elim
    | _ => exact h2.elim
end
end G
namespace G
open PySem PySem.Spec PyProof.Rows L2
section
variable {ι : Type} {M : MI} {P : Program} {w : World} {K : PySem.W.Frag} {mg : Str → Option Value} {base : Heap} {N : List Str} {W : WX} {n : Nat} {X : ι → Cx}
end
end G
namespace L2
open PySem PySem.Spec PyProof.Rows
section
variable {X : Cx}
end
end L2
namespace G
open PySem L2
section
variable {ι : Type} {xr : Str → Option Value} {K : PySem.W.Frag} {X : ι → Cx} {W : WX} {N : List Str} {mg : Str → Option Value} {M : MI}
end
end G
namespace G
open PySem L2 PySem.Spec PyProof.Rows HT
section
variable {prog : Program} {w : World} {A : Around} {E : Value → Shared → Prop} {s : Shared}
end
section
variable {ι : Type} {M : MI} {xr : Str → Option Value} {K : PySem.W.Frag} {X : ι → Cx} {W : WX} {N : List Str} {mg : Str → Option Value} {pos : Pos}
end
end G
namespace G
open PySem L2 PySem.Spec PyProof.Rows HT
section
variable {ι : Type} {K : PySem.W.Frag} {X : ι → Cx} {N : List Str} {mg : Str → Option Value}
end
end G
namespace G
open PySem L2 PySem.Spec PyProof.Rows HT
section
variable {ι : Type} {M : MI} {P : Program} {w : World} {K : PySem.W.Frag} {mg : Str → Option Value} {base : Heap} {N : List Str} {W : WX} {n : Nat} {X : ι → Cx} {xr : Str → Option Value}
end
end G
namespace G
open PySem L2 PySem.Spec PyProof.Rows
section
variable {ι : Type} {M : MI} {xr : Str → Option Value} {K : PySem.W.Frag} {X : ι → Cx} {W : WX} {N : List Str} {mg : Str → Option Value} {pos : Pos}
end
end G
namespace G
open PySem PySem.Spec PyProof.Rows
section
variable {prog : Program} {w : World} {A : Around} {E : Value → Shared → Prop} {s : Shared} {a b : Addr}
end
end G
namespace G
open PySem L2
section
variable {X : Cx}
end
section
variable {ι : Type} {M : MI} {K : PySem.W.Frag} {xr : Str → Option Value} {X : ι → Cx} {W : WX} {N : List Str} {mg : Str → Option Value}
end
end G
namespace G
open PySem L2
section
variable {ι : Type} {M : MI} {P : Program} {w : World} {K : PySem.W.Frag} {mg : Str → Option Value} {base : Heap} {N : List Str} {W : WX} {n : Nat} {X : ι → Cx}
end
end G
namespace G
open PySem L2 PySem.Spec PyProof.Rows HT
section
variable {ι : Type} {M : MI} {K : PySem.W.Frag} {xr : Str → Option Value} {X : ι → Cx} {W : WX} {N : List Str} {mg : Str → Option Value}
end
section
variable {ι : Type} {M : MI} {P : Program} {w : World} {K : PySem.W.Frag} {mg : Str → Option Value} {base : Heap} {N : List Str} {W : WX} {n : Nat} {X : ι → Cx} {xr : Str → Option Value}
end
end G
namespace L2
open PySem PySem.Spec PyProof.Rows
noncomputable def repS (x : Str) (n : Int) : Str := if n < 1 then Str.empty else if (n == 1 || x.length == 0) = true then x else ⟨(List.replicate n.toNat x.cps).foldl (· ++ ·) #[]⟩
noncomputable def rMulS : R2 := fun x y H Q => ∃ a n, x = .str a ∧ y = .int n ∧ (0 ≤ n ∧ n ≤ 1000 ∧ a.length ≤ 1000) ∧ (repS a n).length ≤ sizeLine ∧ Q (.str (repS a n)) H
section
variable {X : Cx}
theorem op_mulS : OpR X (binaryOp .Mult) rMulS := by
 intro pins s σ H x y v u Q I rx ry h
 obtain ⟨a, n, rfl, rfl, ⟨h0, h1, h2⟩, hl, q⟩ := h
 obtain ⟨t, rfl⟩ := rx
 obtain ⟨t', rfl⟩ := ry
 have hr : (decide (n < -(2 ^ 63 : Int)) || decide (n ≥ 2 ^ 63)) = false := by
  rw [decide_eq_false (by omega), decide_eq_false (by omega)]; rfl
 refine PySem.P.mul_str hr (fun k1 k2 hx => ?_) (fun k1 k2 => ?_) ?_
 ·have hp : (0 : Int) < n := by omega
  have : (a.length : Int) * n ≤ 2 ^ 63 - 1 := by
   have e1 : (a.length : Int) * n ≤ (a.length : Int) * 1000 := Int.mul_le_mul_of_nonneg_left h1 (by omega)
   omega
  have := (Int.le_ediv_iff_mul_le hp).mpr this
  omega
 ·have : a.length * n.toNat ≤ 1000 * 1000 := Nat.mul_le_mul h2 (by omega)
  show decide _ = false
  rw [sizeLine_eq]
  exact decide_eq_false (by omega)
 ·unfold repS at q hl
  by_cases c1 : n < 1
  ·rw [if_pos c1] at q hl ⊢
   exact ⟨hl, ⟨.str _, H, I.tok _, ⟨_, rfl⟩, q⟩⟩
  ·rw [if_neg c1] at q hl ⊢
   by_cases c2 : (n == 1 || a.length == 0) = true
   ·rw [if_pos c2] at q ⊢
    exact ⟨.str _, H, I, ⟨_, rfl⟩, q⟩
   ·rw [if_neg c2] at q hl ⊢
    exact ⟨hl, ⟨.str _, H, I.tok _, ⟨_, rfl⟩, q⟩⟩
end
end L2
namespace G
open PySem L2 PySem.Spec PyProof.Rows HT
section
variable {ι : Type} {M : MI} {xr : Str → Option Value} {K : PySem.W.Frag} {X : ι → Cx} {W : WX} {N : List Str} {mg : Str → Option Value}
noncomputable def dMulS : D → D → Option R := fun a b => match a, b with
 | .str x, .int k => if (0 ≤ k ∧ k ≤ 1000 ∧ x.length ≤ 1000) ∧ (repS x k).length ≤ lim then some (.d (.str (repS x k))) else none
 | _, _ => none
theorem op2_mulS : Op2 K rMulS dMulS := by
 intro F H x y a b Q s ha hb h
 unfold dMulS at h
 split at h
 ·rename_i z k
  by_cases c : (0 ≤ k ∧ k ≤ 1000 ∧ z.length ≤ 1000) ∧ (repS z k).length ≤ lim
  ·rw [if_pos c] at h
   exact ⟨z, k, ha.str, hb.int, c.1, limLe c.2, h _ (.str _)⟩
  ·rw [if_neg c] at h; exact h.elim
 ·exact h.elim
theorem de_mulS {a b : Expr} {f f' : Sm M S} {pos : Pos} (ha : DE M xr K X W a f) (hb : DE M xr K X W b f') : DE M xr K X W (.BinOp a .Mult b pos) (eBin dMulS f f') := de_bin (fun j => op_mulS) op2_mulS ha hb
noncomputable def strsL : List D → Option (List Str)
 | [] => some []
 | .str x :: r => (strsL r).map (x :: ·)
 | _ :: _ => none
theorem DaAll.strs {K : PySem.W.Frag} {F : Hp} : ∀ {vs : List V} {ds : List D} {ys : List Str}, DaAll K F vs ds → strsL ds = some ys → vs = ys.map V.str
 | _, _, _, .nil, e => by cases e; rfl
 | _, _, ys, .cons (d := d) q r, e => by
  cases d with
  | str x =>
   unfold strsL at e
   obtain ⟨zs, ez, rfl⟩ := Option.map_eq_some_iff.mp e
   cases q
   rw [List.map_cons, DaAll.strs r ez]
  | _ => cases e
noncomputable def dJoin (a : Str) : D → Option R := fun x => match x with
 | .lst xs => (match strsL xs with
  | some ys => if (ys.map (·.length)).sum + ys.length * a.length ≤ lim then some (.d (.str (Txt.join a ys))) else none
  | none => none)
 | .tup xs => (match strsL xs with
  | some ys => if (ys.map (·.length)).sum + ys.length * a.length ≤ lim then some (.d (.str (Txt.join a ys))) else none
  | none => none)
 | _ => none
theorem lim16 {n : Nat} (h : n ≤ lim) : n ≤ 16777216 := Nat.le_trans h (by decide)
noncomputable def rJoinK (K : PySem.W.Frag) : V → List V → Hp → VK → Prop := fun x xs H Q => ∃ a p, ∃ ys : List Str, x = .str a ∧ xs = [.ref p] ∧ (SqL K H p (ys.map V.str) ∨ SqT K H p (ys.map V.str)) ∧ (ys.map (·.length)).sum + ys.length * a.length ≤ 16777216 ∧ Q (.str (Txt.join a ys)) H
theorem pe_joinK {X : Cx} {a : Str} {e : Expr} {t : TE} {j p1 apos pos} (he : PE X e t) (hs : starEach [e] X.env = [(false, eval e X.env)])
  (hbase : attributeBase (.Constant (.str a) j p1) "join" X.env (eval (.Constant (.str a) j p1) X.env) = eval (.Constant (.str a) j p1) X.env) (hline : (apos.endLine == pos.line) = true) :
  PE X (.Call (.Attribute (.Constant (.str a) j p1) "join" apos) [e] [] pos) (tM1 (rJoinK X.K) (tC (.str a)) t) := pe_join pe_str he hs hbase hline
theorem de_join {a : Str} {e : Expr} {f : Sm M S} {j p1 apos pos} (p : Pl K X N mg) (he : DE M xr K X W e f) (hs : ∀ q, starEach [e] (X q).env = [(false, eval e (X q).env)] := by intro _; rfl)
  (hbase : ∀ q, attributeBase (.Constant (.str a) j p1) "join" (X q).env (eval (.Constant (.str a) j p1) (X q).env) = eval (.Constant (.str a) j p1) (X q).env := by intro _; rfl) (hline : (apos.endLine == pos.line) = true := by rfl) :
  DE M xr K X W (.Call (.Attribute (.Constant (.str a) j p1) "join" apos) [e] [] pos) (eUn (dJoin a) f) := by
 obtain ⟨t, pt, ct⟩ := he
 refine ⟨tM1 (rJoinK K) (tC (.str a)) t, fun q => by rw [← p.k q]; exact pe_joinK (pt q) (hs q) (hbase q) hline, fun G σ H F z Q hK hx ok hh => ?_⟩
 refine ⟨⟨a, rfl⟩, ?_⟩
 refine cmp_opd ct G σ H F z _ hK hx ok (hit_bind hh fun s z1 v H1 F1 _ sm1 ok1 e1 h1 => ?_)
 have q := fin_hit ok1 h1
 cases er : rd z1 s with
 | none => rw [er] at q; exact q.elim
 | some y =>
  rw [er, Option.bind_some] at q
  have rv := EO.rv ok1 e1 er
  cases y with
  | lst xs =>
   simp only [dJoin] at q
   cases es : strsL xs with
   | none => rw [es] at q; exact q.elim
   | some ys =>
    simp only [es] at q
    by_cases hl : (ys.map (·.length)).sum + ys.length * a.length ≤ lim
    ·rw [if_pos hl] at q
     obtain ⟨b, vs, rfl, h2, h3⟩ := rv.lst ok1.sub
     have := h3.strs es
     subst this
     exact ⟨a, b, ys, rfl, rfl, .inl (by rw [← hK]; exact SqL.of h2), lim16 hl, q _ (.str _)⟩
    ·rw [if_neg hl] at q; exact q.elim
  | tup xs =>
   simp only [dJoin] at q
   cases es : strsL xs with
   | none => rw [es] at q; exact q.elim
   | some ys =>
    simp only [es] at q
    by_cases hl : (ys.map (·.length)).sum + ys.length * a.length ≤ lim
    ·rw [if_pos hl] at q
     obtain ⟨b, vs, rfl, h2, h3⟩ := rv.tup ok1.sub
     have := h3.strs es
     subst this
     exact ⟨a, b, ys, rfl, rfl, .inr (by rw [← hK]; exact h2), lim16 hl, q _ (.str _)⟩
    ·rw [if_neg hl] at q; exact q.elim
  | _ => exact q.elim
noncomputable def fIntS : List D → Option R := fun as => match as with
 | [.str a] => if a.length ≤ 640 then (PySem.intText? a).map fun n => .d (.int n) else none
 | _ => none
noncomputable def rIntS : List V → Hp → VK → Prop := fun xs H Q => ∃ a n, xs = [.str a] ∧ PySem.intText? a = some n ∧ a.length ≤ 640 ∧ Q (.int n) H
theorem opn_intS : OpN K rIntS fIntS := by
 intro F H xs as Q s hp h
 unfold fIntS at h
 split at h
 ·rename_i a
  obtain ⟨x, rfl, r⟩ := p1 hp
  by_cases hl : a.length ≤ 640
  ·rw [if_pos hl] at h
   cases e : PySem.intText? a with
   | none => rw [e] at h; exact h.elim
   | some n =>
    rw [e] at h
    exact ⟨a, n, by rw [r.str], e, hl, h _ (.int _)⟩
  ·rw [if_neg hl] at h; exact h.elim
 ·exact h.elim
theorem fb_intS : Fb K X "int" fIntS := .ty "int" rIntS (fun j => call_int_str) opn_intS PyProof.Rows.boot_int (by decide) (by decide)
end
section
variable {ι : Type} {xr : Str → Option Value} {K : PySem.W.Frag} {X : ι → Cx} {W : WX} {N : List Str} {mg : Str → Option Value}
noncomputable def eExtO (f g : Sm MX S) (z : Z MX.T) : Rs S (Z MX.T) := (opd f z).bind fun s z1 => match listAt z1 s with
 | none => .bad
 | some _ => (opd g z1).bind fun s' z2 => match listAt z2 s, rd z2 s' with
  | some (n, xs), some (.lst ys) => if xs.length + ys.length ≤ lim then .ok (.d .non) { z2 with m := z2.m.set n (.lst (xs ++ ys)) } else .bad
  | _, _ => .bad
theorem de_extendO {o e : Expr} {apos cpos : Pos} {f g : Sm MX S} (p : Pl K X N mg) (ho : DE MX xr K X W o f) (h : DE MX xr K X W e g)
  (hbase : ∀ j, attributeBase o "extend" (X j).env (eval o (X j).env) = eval o (X j).env := by intro _; rfl)
  (hfew : ∀ j, ((backTo cpos (starEach [e] (X j).env)).all (fun x => !x.1) && (backToKw cpos (keywordEach [] (X j).env)).all (fun x => x.1.isSome) && decide (([e] : List Expr).length + ([] : List Keyword).length + (if ([] : List Keyword).isEmpty then 0 else 1) < 31)) = true := by intro _; rfl)
  (hline : (apos.endLine == cpos.line) = true := by rfl) (hs : ∀ j, starEach [e] (X j).env = (false, eval e (X j).env) :: starEach [] (X j).env := by intro _; rfl) (hplain : ∀ j, (backTo cpos (starEach [] (X j).env)).any (·.1) = false := by intro _; rfl) :
  DE MX xr K X W (.Call (.Attribute o "extend" apos) [e] [] cpos) (eExtO f g) := by
 obtain ⟨t1, p1, c1⟩ := ho
 obtain ⟨t, p2, c⟩ := h
 refine ⟨tBM K "list" rExtend t1 (tCons t tNil), fun j => ?_, fun G σ H F z Q hGK hx ok hh => ?_⟩
 ·rw [← p.k j]
  exact pe_bm PySem.F.plainAttrs_list PySem.F.slot_list_extend PySem.F.type_list_extend mt_extend (p1 j) (pa_cons (p2 j) pa_nil (hs j)) (hbase j) (hfew j) hline (hs j) (hplain j)
 ·refine cmp_opd c1 G σ H F z _ hGK hx ok (hit_bind hh fun s z1 v H1 F1 _ sm1 ok1 ev h1 => ?_)
  cases e0 : listAt z1 s with
  | none => simp only [e0] at h1; exact h1.elim
  | some q =>
   obtain ⟨n0, ys⟩ := q
   simp only [e0] at h1
   obtain ⟨a, vs, rfl, _, _, ha, _⟩ := listAt_rv ok1 ev e0
   refine ⟨tyV_own ha, ?_⟩
   refine cmp_opd c G σ H1 F1 z1 _ hGK hx ok1 (hit_bind h1 fun s' z2 w H2 F2 _ sm2 ok2 ew h2 => ?_)
   cases e1 : listAt z2 s with
   | none => simp only [e1] at h2; exact h2.elim
   | some q =>
    obtain ⟨n, xs⟩ := q
    cases e2 : rd z2 s' with
    | none => simp only [e1, e2] at h2; exact h2.elim
    | some y =>
     cases y with
     | lst zs =>
      simp only [e1, e2] at h2
      by_cases hl : xs.length + zs.length ≤ lim
      ·rw [if_pos hl] at h2
       obtain ⟨b, ws, eb, hF, em, hb, hdw⟩ := listAt_rv ok2 (EO.mono sm2 ev) e1
       cases eb
       obtain ⟨c2, us, rfl, hc2, hdu⟩ := (EO.rv ok2 ew e2).lst ok2.sub
       refine ⟨a, c2, ws, us, rfl, rfl, hb, hc2, by rw [hdw.length, hdu.length]; exact Nat.le_trans hl (Nat.le_of_lt lim_line), ?_⟩
       exact h2 .non _ F2 (Same.refl _) (ok2.putO hF ⟨_, upd_same, hdw.append hdu⟩) Da.non
      ·rw [if_neg hl] at h2; exact h2.elim
     | _ => simp only [e1, e2] at h2; exact h2.elim
noncomputable def ePopO (f : Sm MX S) (z : Z MX.T) : Rs S (Z MX.T) := (opd f z).bind fun s z1 => match listAt z1 s with
 | none => .bad
 | some (n, xs) => (match xs[xs.length - 1]? with
  | some y => .ok (.d y) { z1 with m := z1.m.set n (.lst xs.dropLast) }
  | none => .bad)
theorem de_popO {o : Expr} {apos cpos : Pos} {f : Sm MX S} (p : Pl K X N mg) (ho : DE MX xr K X W o f)
  (hbase : ∀ j, attributeBase o "pop" (X j).env (eval o (X j).env) = eval o (X j).env := by intro _; rfl) (hline : (apos.endLine == cpos.line) = true := by rfl) :
  DE MX xr K X W (.Call (.Attribute o "pop" apos) [] [] cpos) (ePopO f) := by
 obtain ⟨t1, p1, c1⟩ := ho
 refine ⟨tBM0 K "list" rPop t1, fun j => ?_, fun G σ H F z Q hGK hx ok hh => ?_⟩
 ·rw [← p.k j]
  exact pe_bm0 PySem.F.plainAttrs_list PySem.F.slot_list_pop PySem.F.type_list_pop mt_pop (p1 j) (hbase j) hline
 ·refine cmp_opd c1 G σ H F z _ hGK hx ok (hit_bind hh fun s z1 v H1 F1 _ sm1 ok1 ev h1 => ?_)
  cases e0 : listAt z1 s with
  | none => simp only [e0] at h1; exact h1.elim
  | some q =>
   obtain ⟨n, xs⟩ := q
   simp only [e0] at h1
   obtain ⟨a, vs, rfl, hF, em, ha, hda⟩ := listAt_rv ok1 ev e0
   cases e1 : xs[xs.length - 1]? with
   | none => simp only [e1] at h1; exact h1.elim
   | some y =>
    simp only [e1] at h1
    obtain ⟨v, hv1, hv2⟩ := hda.get e1
    refine ⟨tyV_own ha, a, vs, v, rfl, rfl, ha, by rw [hda.length]; exact hv1, ?_⟩
    exact h1 v _ F1 (Same.refl _) (ok1.putO hF ⟨_, upd_same, hda.dropLast⟩) hv2
noncomputable def eSlO (g : D → Option Int → Option Int → Option R) (f : Sm MX S) (lo hi : Sm MX (Option Int)) (z : Z MX.T) : Rs S (Z MX.T) := (opd f z).bind fun s z1 => (lo z1).bind fun a z2 => (hi z2).bind fun b z3 => fin ((rdO z3 s).bind fun x => g x a b) z3
theorem de_slO {e : Expr} {lo hi : Option Expr} {f : Sm MX S} {fl fh : Sm MX (Option Int)} {p2 pos : Pos} (p : Pl K X N mg) (h : DE MX xr K X W e f) (hl : DO MX xr K X W lo fl) (hh : DO MX xr K X W hi fh) :
  DE MX xr K X W (.Subscript e (.Slice lo hi none p2) pos) (eSlO dSl f fl fh) := by
 obtain ⟨t, pt, c⟩ := h
 obtain ⟨tl, pl, cl⟩ := hl
 obtain ⟨th, ph, ch⟩ := hh
 refine ⟨_, fun j => pe_slice (slAll (X := X j)) (pt j) (pl j) (ph j) |> fun q => (by rw [p.k j] at q; exact q), fun G σ H F z Q hK hx ok hh => ?_⟩
 refine cmp_opd c G σ H F z _ hK hx ok (hit_bind hh fun s z1 v H1 F1 _ sm1 ok1 e1 h1 => ?_)
 refine cl G σ H1 F1 z1 _ hK hx ok1 (hit_bind h1 fun a z2 a' H2 F2 _ sm2 ok2 e2 h2 => ?_)
 refine ch G σ H2 F2 z2 _ hK hx ok2 (hit_bind h2 fun b z3 b' H3 F3 _ sm3 ok3 e3 h3 => ?_)
 cases (show a' = a from e2)
 cases (show b' = b from e3)
 have q := fin_hit ok3 h3
 cases er : rdO z3 s with
 | none => rw [er] at q; exact q.elim
 | some x =>
  rw [er] at q
  rw [hK] at q
  exact ops_sl F3 H3 v x a b Q ok3.sub (by rw [← hK]; exact EO.rvO ok3 (EO.mono sm3 (EO.mono sm2 e1)) er) q
section
variable {G : Gx} {σ : L2.St} {H F : Hp} {z : Z (List MO)}
theorem Ok.adopt (ok : Ok MX G σ H F z) {p : Addr} {vs : List V} {xs : List D} (hp : H p = some (.lst vs)) (hF : F p = none) (hP : G.P p = none) (hO : ¬ Owned σ z p) (da : DaAll G.K F vs xs) : Ok MX G σ H (upd F p (tag z.m.length)) { z with m := z.m ++ [.lst xs] } where
 sub := fun b u q n => by
  by_cases e : b = p
  ·subst e
   rw [upd_same] at q
   exact (n _ (Option.some.inj q).symm).elim
  ·rw [upd_ne e] at q
   exact ok.sub b u q n
 len := ok.len
 slot := fun i s e => by
  obtain ⟨v, h1, h2⟩ := ok.slot i s e
  refine ⟨v, h1, ?_⟩
  have sm := same_upd (o := tag z.m.length) hF
  cases s with
  | d x => exact Da.mono sm h2
  | l ys =>
   obtain ⟨a, ws, rfl, h3, h4, h5, h6, h7⟩ := h2
   have nb : a ≠ p := fun q => hO ⟨i, ys, e, by rw [← q]; exact h1⟩
   exact ⟨a, ws, rfl, h3, h4.mono sm, (upd_ne nb).trans h5, h6, h7⟩
  | v _ => exact h2
  | m j => exact h2
 dist := ok.dist
 mach := by
  obtain ⟨h0, h1, h2, h3⟩ := ok.mach
  have sm := same_upd (o := tag z.m.length) hF
  have old : ∀ a n, upd F p (tag z.m.length) a = some (tag n) → (a = p ∧ n = z.m.length) ∨ (a ≠ p ∧ F a = some (tag n) ∧ n < z.m.length) := fun a n e => by
   by_cases q : a = p
   ·subst q
    rw [upd_same] at e
    exact .inl ⟨rfl, (tag_inj (Option.some.inj e)).symm⟩
   ·rw [upd_ne q] at e
    obtain ⟨k, hk, ek⟩ := h2 a _ e
    rw [tag_inj (show tag n = tag k from ek)]
    exact .inr ⟨q, by rw [← tag_inj (show tag n = tag k from ek)]; exact e, hk⟩
  refine ⟨h0, fun n u e => ?_, fun a ps e => ?_, fun a b n e1 e2 => ?_⟩
  ·have e' : (z.m ++ [MO.lst xs])[n]? = some u := e
   by_cases q : n < z.m.length
   ·rw [List.getElem?_append_left q] at e'
    obtain ⟨a, ha, hu⟩ := h1 n u e'
    have nb := ne_of_none ha hF
    exact ⟨a, (upd_ne nb).trans ha, hu.mono sm rfl⟩
   ·have en : n = z.m.length := by
     have := (List.getElem?_eq_some_iff.mp e').1
     rw [List.length_append, List.length_singleton] at this
     omega
    subst en
    rw [List.getElem?_append_right (Nat.le_refl _), Nat.sub_self] at e'
    cases e'
    exact ⟨p, upd_same, vs, hp, da.mono sm⟩
  ·by_cases q : a = p
   ·subst q
    rw [upd_same] at e
    exact ⟨z.m.length, by show _ < (z.m ++ [MO.lst xs]).length; rw [List.length_append, List.length_singleton]; omega, (Option.some.inj e).symm⟩
   ·rw [upd_ne q] at e
    obtain ⟨k, hk, ek⟩ := h2 a ps e
    exact ⟨k, by show _ < (z.m ++ [MO.lst xs]).length; rw [List.length_append]; omega, ek⟩
  ·rcases old a n e1 with ⟨rfl, en⟩ | ⟨_, q1, ln⟩
   ·rcases old b n e2 with ⟨rfl, _⟩ | ⟨_, _, ln⟩
    ·rfl
    ·omega
   ·rcases old b n e2 with ⟨rfl, en⟩ | ⟨_, q2, _⟩
    ·omega
    ·exact h3 a b n q1 q2
 msF := fun a ha => by rw [ok.noms] at ha; cases ha
 msP := fun a ha => by rw [ok.noms] at ha; cases ha
 msH := fun a ha => by rw [ok.noms] at ha; cases ha
 fr := fun b u q => by
  obtain ⟨h1, h2⟩ := ok.fr b u q
  have nb : b ≠ p := fun e => by rw [e, hP] at q; cases q
  exact ⟨h1, (upd_ne nb).trans h2⟩
 tg := fun a ps e => by
  by_cases q : a = p
  ·subst q
   exact ⟨(by rw [hp]; intro y; cases y), hP⟩
  ·rw [upd_ne q] at e
   exact ok.tg a ps e
end
noncomputable def eSto (f : Sm MX S) (z : Z MX.T) : Rs S (Z MX.T) := (f z).bind fun s z1 => match s with
 | .l xs => .ok (.d (.o z1.m.length)) { z1 with m := z1.m ++ [.lst xs] }
 | _ => .bad
theorem de_sto {e : Expr} {f : Sm MX S} (h : DE MX xr K X W e f) : DE MX xr K X W e (eSto f) := by
 obtain ⟨t, p, c⟩ := h
 refine ⟨t, p, fun G σ H F z Q hK hx ok hh => ?_⟩
 refine c G σ H F z _ hK hx ok (hit_bind hh fun s z1 v H1 F1 _ sm1 ok1 ev h1 => ?_)
 cases s with
 | l xs =>
  obtain ⟨a, vs, rfl, h2, h3, h4, h5, h6, h7⟩ := ev
  exact h1 (.ref a) H1 _ (same_upd h4) (ok1.adopt h2 h4 h5 h7 h3) (Da.o upd_same)
 | _ => exact h1.elim
end
end G
namespace L
open PySem L2 G
noncomputable def topS (i : Nat) : Stmt := PySem.Challenge.pw_groundroom_k27_statements_told.main.body.getD i (.Pass ⟨0, 0, 0, 0⟩)
noncomputable abbrev s_called_text : Stmt := topS 6
noncomputable abbrev s_term_text : Stmt := topS 7
noncomputable abbrev s_is_not : Stmt := topS 8
noncomputable abbrev s_rank_of : Stmt := topS 9
noncomputable abbrev s_side_text : Stmt := topS 10
noncomputable abbrev s_statement_text : Stmt := topS 11
noncomputable abbrev s_joined : Stmt := topS 17
noncomputable abbrev s_is_called : Stmt := topS 32
noncomputable abbrev s_number_of : Stmt := topS 33
noncomputable abbrev s_run_at : Stmt := topS 34
noncomputable abbrev s_run_word : Stmt := topS 35
noncomputable abbrev s_words_of : Stmt := topS 36
noncomputable abbrev s_reader_of : Stmt := topS 45
noncomputable abbrev s_small_one : Stmt := topS 46
noncomputable abbrev s_read_term : Stmt := topS 47
noncomputable abbrev s_read_statement : Stmt := topS 48
noncomputable abbrev s__law_cell : Stmt := topS 51
noncomputable abbrev s__law_name : Stmt := topS 52
noncomputable abbrev s__law_term : Stmt := topS 53
noncomputable abbrev s__law_statement : Stmt := topS 54
noncomputable abbrev s__law_called : Stmt := topS 55
noncomputable abbrev s__law_term_text : Stmt := topS 56
noncomputable abbrev s__law_rank : Stmt := topS 57
noncomputable abbrev s__law_side : Stmt := topS 58
noncomputable abbrev s__law_text : Stmt := topS 59
noncomputable abbrev s__law_size : Stmt := topS 60
noncomputable abbrev s_law : Stmt := topS 61
noncomputable abbrev s_Reader_work : Stmt := methS (topS 44) 9
noncomputable abbrev s_Reader_do_term : Stmt := methS (topS 23) 0
noncomputable abbrev s_Reader_do_variable : Stmt := methS (topS 23) 1
noncomputable abbrev s_Reader_do_args : Stmt := methS (topS 23) 2
noncomputable abbrev s_Reader_do_more : Stmt := methS (topS 23) 3
noncomputable abbrev s_Reader_do_call : Stmt := methS (topS 23) 4
noncomputable abbrev s_Reader_do_rel : Stmt := methS (topS 23) 5
noncomputable abbrev s_Reader_do_same : Stmt := methS (topS 23) 6
noncomputable abbrev s_Reader_do_statement : Stmt := methS (topS 23) 7
noncomputable abbrev s_Reader_do_bound : Stmt := methS (topS 23) 8
noncomputable abbrev s_Reader_do_level : Stmt := methS (topS 23) 9
noncomputable abbrev s_Reader_do_rest : Stmt := methS (topS 23) 10
noncomputable abbrev s_Reader_do_not : Stmt := methS (topS 23) 11
noncomputable abbrev s_Reader_work_plain : Stmt := methS (topS 23) 13
noncomputable abbrev s_Reader_work_made : Stmt := methS (topS 23) 14
noncomputable abbrev s_Reader_run : Stmt := methS (topS 23) 15
noncomputable abbrev s_Reader___init__ : Stmt := methS (topS 18) 0
noncomputable abbrev s_Reader_now : Stmt := methS (topS 18) 1
noncomputable abbrev s_Reader_is_mark : Stmt := methS (topS 18) 3
noncomputable abbrev s_Reader_is_told : Stmt := methS (topS 18) 4
noncomputable abbrev s_Reader_go_on : Stmt := methS (topS 18) 5
noncomputable abbrev s_Reader_need_word : Stmt := methS (topS 18) 6
noncomputable abbrev s_Reader_need_kind : Stmt := methS (topS 18) 7
noncomputable abbrev s_Reader_plan : Stmt := methS (topS 18) 8
noncomputable abbrev s_Reader_pop_many : Stmt := methS (topS 18) 9
noncomputable abbrev s_Reader_make : Stmt := methS (topS 18) 10
noncomputable abbrev s_Reader_make_call : Stmt := methS (topS 18) 11
noncomputable abbrev s_Reader_make_bound : Stmt := methS (topS 18) 12
noncomputable abbrev s_Reader_make_not : Stmt := methS (topS 18) 13
inductive Fn where
  | called_text
  | term_text
  | is_not
  | rank_of
  | side_text
  | statement_text
  | joined
  | is_called
  | number_of
  | run_at
  | run_word
  | words_of
  | reader_of
  | small_one
  | read_term
  | read_statement
  | _law_cell
  | _law_name
  | _law_term
  | _law_statement
  | _law_called
  | _law_term_text
  | _law_rank
  | _law_side
  | _law_text
  | _law_size
  | Reader_work
  | Reader_do_term
  | Reader_do_variable
  | Reader_do_args
  | Reader_do_more
  | Reader_do_call
  | Reader_do_rel
  | Reader_do_same
  | Reader_do_statement
  | Reader_do_bound
  | Reader_do_level
  | Reader_do_rest
  | Reader_do_not
  | Reader_work_plain
  | Reader_work_made
  | Reader_run
  | Reader___init__
  | Reader_now
  | Reader_is_mark
  | Reader_is_told
  | Reader_go_on
  | Reader_need_word
  | Reader_need_kind
  | Reader_plan
  | Reader_pop_many
  | Reader_make
  | Reader_make_call
  | Reader_make_bound
  | Reader_make_not
noncomputable def c_FIGURES : D := (.str "0123456789")
noncomputable def c_FORMS : D := (.tup [(.str "held"), (.str "use"), (.str "pair"), (.str "first"), (.str "second"), (.str "either"), (.str "other"), (.str "cases"), (.str "take"), (.str "give"), (.str "void"), (.str "twice"), (.str "each"), (.str "at"), (.str "open"), (.str "alike"), (.str "swap"), (.str "members"), (.str "unlike"), (.str "fold"), (.str "unfold")])
noncomputable def c_KINDS : D := (.tup [(.str "if"), (.str "or"), (.str "and")])
noncomputable def c_MARKS_words : D := (.str "()[],.:=&|~")
noncomputable def c_MOST_DEEP : D := (.int 40)
noncomputable def c_MOST_FIGURES : D := (.int 30)
noncomputable def c_MOST_LETTERS : D := (.int 10)
noncomputable def c_MOST_PARTS : D := (.int 400)
noncomputable def c_MOST_RANK : D := (.int 5)
noncomputable def c_MOST_SIGNS : D := (.int 20000)
noncomputable def c_NOT_LEVEL : D := (.int 3)
noncomputable def c_NOT_RANK : D := (.int 4)
noncomputable def c_NO_stack : D := (.tup [(.str "no")])
noncomputable def c_NO_writing : D := (.tup [(.str "no")])
noncomputable def c_SIGNS : D := (.tup [(.str "->"), (.str "|"), (.str "&")])
noncomputable def c_SMALL : D := (.str "abcdefghijklmnopqrstuvwxyz")
noncomputable def c_TOLD : D := (.tup [(.str "no"), (.str "same"), (.str "all"), (.str "some"), (.str "sort"), (.str "func"), (.str "rel"), (.str "mean"), (.str "taken"), (.str "shown"), (.str "by")])
noncomputable def t_MARKS_writing : List (Str × D) := [("if", D.str " -> "), ("or", D.str " | "), ("and", D.str " & ")]
noncomputable def t_RANKS : List (Str × D) := [("all", D.int 0), ("some", D.int 0), ("if", D.int 1), ("or", D.int 2), ("and", D.int 3)]
noncomputable abbrev lawLevel : Nat := 200
noncomputable abbrev whileN : Nat := 1000000000
noncomputable def m_called_text (call : Fn → List S → (List MO) → Rs S (List MO)) : Sm MX Out :=
  (sSeq (sIf (tOf (eBin (dEq0 false) (eVar 1) (eTup aNil))) (sRet (eVar 0)) sNil)
  (sRet (eBin dAdd (eBin dAdd (eBin dAdd (eVar 0) (eC (.str "("))) (eUn (dJoin ", ") (eLc (iAnyM (eVar 1)) (kName 3) (fun z => .ok true z) (eCall (call .term_text) (aCons (escf (eVar 3)) (aCons (escf (eVar 2)) aNil))) [3]))) (eC (.str ")")))))
noncomputable def m_term_text (call : Fn → List S → (List MO) → Rs S (List MO)) : Sm MX Out :=
  (sSeq (sIf (tOf (eBin dEq (eBin dIx (eVar 0) (eC (.int 0))) (eC (.str "var")))) (sRet (eBin dAdd (eC (.str "X")) (eFn fStr (aCons (opd (eBin dSub (eBin dSub (eVar 1) (eC (.int 1))) (eBin dIx (eVar 0) (eC (.int 1))))) aNil)))) sNil)
  (sRet (eCall (call .called_text) (aCons (escf (eBin dIx (eVar 0) (eC (.int 1)))) (aCons (escf (eBin dIx (eVar 0) (eC (.int 2)))) (aCons (escf (eVar 1)) aNil))))))
noncomputable def m_is_not (call : Fn → List S → (List MO) → Rs S (List MO)) : Sm MX Out :=
  (sRet (eAndM (eBin dEq (eBin dIx (eVar 0) (eC (.int 0))) (eC (.str "if"))) (eBin dEq (eBin dIx (eVar 0) (eC (.int 2))) (eC c_NO_writing))))
noncomputable def m_rank_of (call : Fn → List S → (List MO) → Rs S (List MO)) : Sm MX Out :=
  (sRet (eIf (tTru dTru (eCall (call .is_not) (aCons (escf (eVar 0)) aNil))) (eC c_NOT_RANK) (eKGet t_RANKS (eBin dIx (eVar 0) (eC (.int 0))) (eC c_MOST_RANK))))
noncomputable def m_side_text (call : Fn → List S → (List MO) → Rs S (List MO)) : Sm MX Out :=
  (sSeq (sSet 3 (eCall (call .statement_text) (aCons (escf (eVar 0)) (aCons (escf (eVar 2)) aNil))))
  (sRet (eIf (tOf (eBin dLt (eCall (call .rank_of) (aCons (escf (eVar 0)) aNil)) (eVar 1))) (eBin dAdd (eBin dAdd (eC (.str "(")) (eVar 3)) (eC (.str ")"))) (eVar 3))))
noncomputable def m_statement_text (call : Fn → List S → (List MO) → Rs S (List MO)) : Sm MX Out :=
  (sSeq (sIf (tOf (eBin dIn (eBin dIx (eVar 0) (eC (.int 0))) (eTup (aCons (escf (eC (.str "all"))) (aCons (escf (eC (.str "some"))) aNil))))) (sRet (eBin dAdd (eBin dAdd (eBin dAdd (eBin dAdd (eBin dAdd (eBin dAdd (eBin dIx (eVar 0) (eC (.int 0))) (eC (.str " X"))) (eFn fStr (aCons (opd (eVar 1)) aNil))) (eC (.str ":"))) (eBin dIx (eVar 0) (eC (.int 1)))) (eC (.str ". "))) (eCall (call .statement_text) (aCons (escf (eBin dIx (eVar 0) (eC (.int 2)))) (aCons (escf (eBin dAdd (eVar 1) (eC (.int 1)))) aNil))))) sNil)
  (sSeq (sIf (tTru dTru (eCall (call .is_not) (aCons (escf (eVar 0)) aNil))) (sRet (eBin dAdd (eC (.str "~")) (eCall (call .side_text) (aCons (escf (eBin dIx (eVar 0) (eC (.int 1)))) (aCons (escf (eC c_NOT_RANK)) (aCons (escf (eVar 1)) aNil)))))) sNil)
  (sSeq (sIf (tOf (eBin dEq (eBin dIx (eVar 0) (eC (.int 0))) (eC (.str "rel")))) (sRet (eCall (call .called_text) (aCons (escf (eBin dIx (eVar 0) (eC (.int 1)))) (aCons (escf (eBin dIx (eVar 0) (eC (.int 2)))) (aCons (escf (eVar 1)) aNil))))) sNil)
  (sSeq (sIf (tOf (eBin dEq (eBin dIx (eVar 0) (eC (.int 0))) (eC (.str "same")))) (sRet (eBin dAdd (eBin dAdd (eCall (call .term_text) (aCons (escf (eBin dIx (eVar 0) (eC (.int 1)))) (aCons (escf (eVar 1)) aNil))) (eC (.str " = "))) (eCall (call .term_text) (aCons (escf (eBin dIx (eVar 0) (eC (.int 2)))) (aCons (escf (eVar 1)) aNil))))) sNil)
  (sSeq (sIf (tOf (eBin dEq (eVar 0) (eC c_NO_writing))) (sRet (eC (.str "no"))) sNil)
  (sSeq (sSet 2 (eKIx t_RANKS (eBin dIx (eVar 0) (eC (.int 0)))))
  (sSeq (sSet 3 (eCall (call .side_text) (aCons (escf (eBin dIx (eVar 0) (eC (.int 1)))) (aCons (escf (eBin dAdd (eVar 2) (eFn fInt (aCons (opd (eBin dEq (eBin dIx (eVar 0) (eC (.int 0))) (eC (.str "if")))) aNil)))) (aCons (escf (eVar 1)) aNil)))))
  (sRet (eBin dAdd (eBin dAdd (eVar 3) (eKIx t_MARKS_writing (eBin dIx (eVar 0) (eC (.int 0))))) (eCall (call .side_text) (aCons (escf (eBin dIx (eVar 0) (eC (.int 2)))) (aCons (escf (eBin dAdd (eVar 2) (eFn fInt (aCons (opd (eBin dNe (eBin dIx (eVar 0) (eC (.int 0))) (eC (.str "if")))) aNil)))) (aCons (escf (eVar 1)) aNil)))))))))))))
noncomputable def m_joined (call : Fn → List S → (List MO) → Rs S (List MO)) : Sm MX Out :=
  (sRet (eTup (aCons (escf (eVar 0)) (aCons (escf (eBin dAdd (eC (.int 1)) (eFn fSum (aCons (opd (eLc (iAnyM (eVar 1)) (kName 2) (fun z => .ok true z) (eBin dIx (eVar 2) (eC (.int 1))) [2])) aNil)))) (aCons (escf (eBin dAdd (eC (.int 1)) (eFn fMax (aCons (opd (eBin dAdd (eLst (aCons (escf (eC (.int 0))) aNil)) (eLc (iAnyM (eVar 1)) (kName 2) (fun z => .ok true z) (eBin dIx (eVar 2) (eC (.int 2))) [2]))) aNil)))) aNil)))))
noncomputable def m_is_called (call : Fn → List S → (List MO) → Rs S (List MO)) : Sm MX Out :=
  (sSeq (sIf (tOrM (tNotM (tOf (eChain dLe dLe (eC (.int 1)) (eFn fLen (aCons (opd (eVar 0)) aNil)) (eC c_MOST_LETTERS)))) (tOrM (tOf (eBin dNotIn (eBin dIx (eVar 0) (eC (.int 0))) (eC c_SMALL))) (tOrM (tOf (eBin dIn (eVar 0) (eC c_TOLD))) (tOf (eBin dIn (eVar 0) (eC c_FORMS)))))) (sRet (eC (.bl false))) sNil)
  (sRet (eFn fAll (aCons (opd (eLc (iAnyM (eVar 0)) (kName 1) (fun z => .ok true z) (eBin dIn (eVar 1) (eBin dAdd (eC c_SMALL) (eC c_FIGURES))) [1])) aNil))))
noncomputable def m_number_of (call : Fn → List S → (List MO) → Rs S (List MO)) : Sm MX Out :=
  (sSeq (sIf (tOrM (tNotM (tOf (eChain dLe dLe (eC (.int 1)) (eFn fLen (aCons (opd (eVar 0)) aNil)) (eC c_MOST_FIGURES)))) (tAndM (tOf (eBin dEq (eBin dIx (eVar 0) (eC (.int 0))) (eC (.str "0")))) (tOf (eBin dNe (eVar 0) (eC (.str "0")))))) (sRet (eC .non)) sNil)
  (sRet (eIf (tTru dTru (eFn fAll (aCons (opd (eLc (iAnyM (eVar 0)) (kName 1) (fun z => .ok true z) (eBin dIn (eVar 1) (eC c_FIGURES)) [1])) aNil))) (eFn fIntS (aCons (opd (eVar 0)) aNil)) (eC .non))))
noncomputable def m_run_at (call : Fn → List S → (List MO) → Rs S (List MO)) : Sm MX Out :=
  (sSeq (sWhile (tAndM (tOf (eBin dLt (eVar 1) (eFn fLen (aCons (opd (eVar 0)) aNil)))) (tOf (eBin dIn (eBin dIx (eVar 0) (eVar 1)) (eBin dAdd (eBin dAdd (eC c_SMALL) (eC c_FIGURES)) (eC (.str "X")))))) (sSet 1 (eBin dAdd (eVar 1) (eC (.int 1)))) whileN)
  (sRet (eVar 1)))
noncomputable def m_run_word (call : Fn → List S → (List MO) → Rs S (List MO)) : Sm MX Out :=
  (sSeq (sIf (tOrM (tOf (eBin dIn (eVar 0) (eC c_TOLD))) (tOf (eBin dIn (eVar 0) (eC c_FORMS)))) (sRet (eTup (aCons (escf (eC (.str "told"))) (aCons (escf (eVar 0)) aNil)))) sNil)
  (sSeq (sIf (tTru dTru (eCall (call .is_called) (aCons (escf (eVar 0)) aNil))) (sRet (eTup (aCons (escf (eC (.str "name"))) (aCons (escf (eVar 0)) aNil)))) sNil)
  (sSeq (sIf (tOf (eBin dIsNot (eCall (call .number_of) (aCons (escf (eVar 0)) aNil)) (eC .non))) (sRet (eTup (aCons (escf (eC (.str "number"))) (aCons (escf (eCall (call .number_of) (aCons (escf (eVar 0)) aNil))) aNil)))) sNil)
  (sSeq (sIf (tAndM (tOf (eBin dEq (eBin dIx (eVar 0) (eC (.int 0))) (eC (.str "X")))) (tOf (eBin dIsNot (eCall (call .number_of) (aCons (escf (eSl dSl (eVar 0) (oInt (eC (.int 1))) (fun z => .ok none z))) aNil)) (eC .non)))) (sRet (eTup (aCons (escf (eC (.str "var"))) (aCons (escf (eCall (call .number_of) (aCons (escf (eSl dSl (eVar 0) (oInt (eC (.int 1))) (fun z => .ok none z))) aNil))) aNil)))) sNil)
  (sRet (eC .non))))))
noncomputable def m_words_of (call : Fn → List S → (List MO) → Rs S (List MO)) : Sm MX Out :=
  (sSeq (sSet 1 (eLst aNil))
  (sSeq (sSet 2 (eC (.int 0)))
  (sSeq (sWhile (tOf (eBin dLt (eVar 2) (eFn fLen (aCons (opd (eVar 0)) aNil)))) (sSeq (sSet 3 (eCall (call .run_at) (aCons (escf (eVar 0)) (aCons (escf (eVar 2)) aNil))))
  (sSeq (sIf (tOf (eBin dGt (eVar 3) (eVar 2))) (sSeq (sSet 4 (eCall (call .run_word) (aCons (escf (eSl dSl (eVar 0) (oInt (eVar 2)) (oInt (eVar 3)))) aNil)))
  (sExpr (eApp 1 (eIf (tOf (eBin dIs (eVar 4) (eC .non))) (eTup (aCons (escf (eC (.str "none"))) (aCons (escf (eC (.str ""))) (aCons (escf (eVar 2)) aNil)))) (eBin dAdd (eVar 4) (eTup (aCons (escf (eVar 2)) aNil))))))) (sIf (tOf (eBin dEq (eSl dSl (eVar 0) (oInt (eVar 2)) (oInt (eBin dAdd (eVar 2) (eC (.int 2))))) (eC (.str "->")))) (sSeq (sSet 3 (eBin dAdd (eVar 2) (eC (.int 2))))
  (sExpr (eApp 1 (eTup (aCons (escf (eC (.str "mark"))) (aCons (escf (eC (.str "->"))) (aCons (escf (eVar 2)) aNil))))))) (sIf (tOf (eBin dIn (eBin dIx (eVar 0) (eVar 2)) (eC c_MARKS_words))) (sSeq (sSet 3 (eBin dAdd (eVar 2) (eC (.int 1))))
  (sExpr (eApp 1 (eTup (aCons (escf (eC (.str "mark"))) (aCons (escf (eBin dIx (eVar 0) (eVar 2))) (aCons (escf (eVar 2)) aNil))))))) (sIf (tOf (eBin dEq (eBin dIx (eVar 0) (eVar 2)) (eC (.str " ")))) (sSet 3 (eBin dAdd (eVar 2) (eC (.int 1)))) (sExpr (eApp 1 (eTup (aCons (escf (eC (.str "none"))) (aCons (escf (eC (.str ""))) (aCons (escf (eVar 2)) aNil))))))))))
  (sSeq (sIf (tAndM (tOf (eBin (dEq0 true) (eVar 1) (eLst aNil))) (tOf (eBin dEq (eBin dIx (eBin dIx (eVar 1) (eUn dNeg (eC (.int 1)))) (eC (.int 0))) (eC (.str "none"))))) (sRet (eVar 1)) sNil)
  (sSet 2 (eVar 3))))) whileN)
  (sRet (eVar 1)))))
noncomputable def m_reader_of (call callI : Fn → List S → (List MO) → Rs S (List MO)) : Sm MX Out :=
  (sSeq (sIf (tOrM (tNotM (tTru dTru (eUn (dIsiN "str") (eVar 0)))) (tOf (eBin dGt (eFn fLen (aCons (opd (eVar 0)) aNil)) (eVar 2)))) sBad sNil)
  (sRet (eMake "Reader" (callI .Reader___init__) (aCons (escf (eCall (call .words_of) (aCons (escf (eVar 0)) aNil))) (aCons (escf (eFn fLen (aCons (opd (eVar 0)) aNil))) (aCons (escf (eVar 1)) aNil))))))
noncomputable def m_small_one (call : Fn → List S → (List MO) → Rs S (List MO)) : Sm MX Out :=
  (sSeq (sAsg (eCall (call .Reader_run) (aMeth "Reader" "run" (eCall (call .reader_of) (aCons (escf (eVar 0)) (aCons (escf (eVar 1)) (aCons (escf (eC c_MOST_SIGNS)) aNil)))) (aCons (escf (eLst (aCons (escf (eTup (aCons (escf (eVar 2)) aNil))) aNil))) aNil))) (kTup 3 (ksCons (kName 3) (ksCons (kName 4) (ksCons (kName 5) ksNil)))))
  (sSeq (sIf (tOrM (tOf (eBin dGt (eVar 4) (eC c_MOST_PARTS))) (tOf (eBin dGt (eVar 5) (eC c_MOST_DEEP)))) sBad sNil)
  (sRet (eVar 3))))
noncomputable def m_read_term (call : Fn → List S → (List MO) → Rs S (List MO)) : Sm MX Out :=
  (sRet (eCall (call .small_one) (aCons (escf (eVar 0)) (aCons (escf (eVar 1)) (aCons (escf (eC (.str "term"))) aNil)))))
noncomputable def m_read_statement (call : Fn → List S → (List MO) → Rs S (List MO)) : Sm MX Out :=
  (sRet (eCall (call .small_one) (aCons (escf (eVar 0)) (aCons (escf (eVar 1)) (aCons (escf (eC (.str "statement"))) aNil)))))
noncomputable def m__law_cell (call : Fn → List S → (List MO) → Rs S (List MO)) : Sm MX Out :=
  (sSeq (sLPutM (eBin dAdd (eIxO (eVar 1) (eC (.int 0))) (eC (.int 1))) (eVar 1) (eC (.int 0)))
  (sSeq (sSet 2 (eIxO (eVar 1) (eC (.int 0))))
  (sSeq (sSet 3 (eBin dAdd (eBin dMul (eBin dMul (eC (.int 31)) (eVar 2)) (eVar 2)) (eBin dMul (eC (.int 7919)) (eVar 2))))
  (sSeq (sIf (tAndM (tOf (eBin dGt (eFn fLen (aCons (opd (eVar 0)) aNil)) (eC (.int 0)))) (tAndM (tOf (eBin dGe (eBin dIx (eVar 0) (eBin dMod (eVar 2) (eFn fLen (aCons (opd (eVar 0)) aNil)))) (eBin dPow (eC (.int 10)) (eC (.int 18))))) (tOf (eBin dLt (eBin dFdiv (eVar 2) (eFn fLen (aCons (opd (eVar 0)) aNil))) (eC (.int 60)))))) (sSeq (sSet 4 (eBin dIx (eVar 0) (eBin dMod (eVar 2) (eFn fLen (aCons (opd (eVar 0)) aNil)))))
  (sSeq (sFor (iRg1M (aCons (opd (eBin dFdiv (eVar 2) (eFn fLen (aCons (opd (eVar 0)) aNil)))) aNil)) (kName 5) (sSet 4 (eBin dFdiv (eVar 4) (eC (.int 306783379)))))
  (sIf (tOf (eBin dGt (eVar 4) (eC (.int 0)))) (sRet (eBin dMod (eVar 4) (eC (.int 306783379)))) sNil))) sNil)
  (sSeq (sIf (tOf (eBin dGt (eFn fLen (aCons (opd (eVar 0)) aNil)) (eC (.int 0)))) (sSet 3 (eBin dAdd (eVar 3) (eBin dMul (eBin dIx (eVar 0) (eBin dMod (eVar 2) (eFn fLen (aCons (opd (eVar 0)) aNil)))) (eBin dAdd (eC (.int 1)) (eBin dFdiv (eVar 2) (eFn fLen (aCons (opd (eVar 0)) aNil))))))) sNil)
  (sRet (eBin dFdiv (eBin dMod (eBin dMul (eVar 3) (eC (.int 48271))) (eC (.int 2147483647))) (eC (.int 7)))))))))
noncomputable def m__law_name (call : Fn → List S → (List MO) → Rs S (List MO)) : Sm MX Out :=
  (sRet (eBin dIx (eLst (aCons (escf (eC (.str "a"))) (aCons (escf (eC (.str "f"))) (aCons (escf (eC (.str "p"))) (aCons (escf (eC (.str "thing"))) (aCons (escf (eC (.str "x1"))) (aCons (escf (eC (.str "q"))) (aCons (escf (eC (.str "longname10"))) (aCons (escf (eC (.str "r2d2"))) (aCons (escf (eC (.str "ab"))) (aCons (escf (eC (.str "z"))) aNil))))))))))) (eBin dMod (eVar 0) (eC (.int 10)))))
noncomputable def m__law_term (call : Fn → List S → (List MO) → Rs S (List MO)) : Sm MX Out :=
  (sSeq (sSet 4 (eCall (call ._law_cell) (aCons (escf (eVar 0)) (aCons (escf (eVar 1)) aNil))))
  (sSeq (sIf (tAndM (tOf (eBin dGt (eVar 3) (eC (.int 0)))) (tOf (eBin dGt (eBin dMod (eVar 4) (eC (.int 3))) (eC (.int 0))))) (sRet (eTup (aCons (escf (eC (.str "var"))) (aCons (escf (eBin dMod (eBin dFdiv (eVar 4) (eC (.int 3))) (eVar 3))) aNil)))) sNil)
  (sSeq (sIf (tOrM (tOf (eBin dLt (eVar 2) (eC (.int 2)))) (tOf (eBin dEq (eBin dMod (eBin dFdiv (eVar 4) (eC (.int 3))) (eC (.int 3))) (eC (.int 0))))) (sRet (eTup (aCons (escf (eC (.str "call"))) (aCons (escf (eCall (call ._law_name) (aCons (escf (eBin dFdiv (eVar 4) (eC (.int 9)))) aNil))) (aCons (escf (eTup aNil)) aNil))))) sNil)
  (sSeq (sSet 5 (eLc (iRg1M (aCons (opd (eBin dAdd (eC (.int 1)) (eBin dMod (eBin dFdiv (eVar 4) (eC (.int 9))) (eC (.int 3))))) aNil)) (kName 6) (fun z => .ok true z) (eCall (call ._law_term) (aCons (escf (eVar 0)) (aCons (escf (eVar 1)) (aCons (escf (eBin dSub (eVar 2) (eC (.int 1)))) (aCons (escf (eVar 3)) aNil))))) [6]))
  (sRet (eTup (aCons (escf (eC (.str "call"))) (aCons (escf (eCall (call ._law_name) (aCons (escf (eBin dFdiv (eVar 4) (eC (.int 27)))) aNil))) (aCons (escf (eFn fTuple (aCons (opd (eVar 5)) aNil))) aNil)))))))))
noncomputable def m__law_statement (call : Fn → List S → (List MO) → Rs S (List MO)) : Sm MX Out :=
  (sSeq (sSet 4 (eCall (call ._law_cell) (aCons (escf (eVar 0)) (aCons (escf (eVar 1)) aNil))))
  (sSeq (sSet 5 (eBin dMod (eVar 4) (eC (.int 11))))
  (sSeq (sIf (tOrM (tOf (eBin dLt (eVar 2) (eC (.int 2)))) (tOf (eBin dGt (eVar 5) (eC (.int 6))))) (sSeq (sIf (tOf (eBin dEq (eBin dMod (eBin dFdiv (eVar 4) (eC (.int 11))) (eC (.int 4))) (eC (.int 0)))) (sRet (eTup (aCons (escf (eC (.str "no"))) aNil))) sNil)
  (sSeq (sIf (tOf (eBin dEq (eBin dMod (eBin dFdiv (eVar 4) (eC (.int 11))) (eC (.int 4))) (eC (.int 1)))) (sRet (eTup (aCons (escf (eC (.str "same"))) (aCons (escf (eCall (call ._law_term) (aCons (escf (eVar 0)) (aCons (escf (eVar 1)) (aCons (escf (eC (.int 3))) (aCons (escf (eVar 3)) aNil)))))) (aCons (escf (eCall (call ._law_term) (aCons (escf (eVar 0)) (aCons (escf (eVar 1)) (aCons (escf (eC (.int 2))) (aCons (escf (eVar 3)) aNil)))))) aNil))))) sNil)
  (sSeq (sSet 6 (eLc (iRg1M (aCons (opd (eBin dMod (eBin dFdiv (eVar 4) (eC (.int 44))) (eC (.int 4)))) aNil)) (kName 8) (fun z => .ok true z) (eCall (call ._law_term) (aCons (escf (eVar 0)) (aCons (escf (eVar 1)) (aCons (escf (eC (.int 3))) (aCons (escf (eVar 3)) aNil))))) [8]))
  (sRet (eTup (aCons (escf (eC (.str "rel"))) (aCons (escf (eCall (call ._law_name) (aCons (escf (eBin dFdiv (eVar 4) (eC (.int 176)))) aNil))) (aCons (escf (eFn fTuple (aCons (opd (eVar 6)) aNil))) aNil)))))))) sNil)
  (sSeq (sIf (tOf (eBin dLt (eVar 5) (eC (.int 2)))) (sRet (eTup (aCons (escf (eBin dIx (eLst (aCons (escf (eC (.str "all"))) (aCons (escf (eC (.str "some"))) aNil))) (eVar 5))) (aCons (escf (eCall (call ._law_name) (aCons (escf (eBin dFdiv (eVar 4) (eC (.int 11)))) aNil))) (aCons (escf (eCall (call ._law_statement) (aCons (escf (eVar 0)) (aCons (escf (eVar 1)) (aCons (escf (eBin dSub (eVar 2) (eC (.int 1)))) (aCons (escf (eBin dAdd (eVar 3) (eC (.int 1)))) aNil)))))) aNil))))) sNil)
  (sSeq (sSet 7 (eCall (call ._law_statement) (aCons (escf (eVar 0)) (aCons (escf (eVar 1)) (aCons (escf (eBin dSub (eVar 2) (eC (.int 1)))) (aCons (escf (eVar 3)) aNil))))))
  (sSeq (sIf (tOf (eBin dEq (eVar 5) (eC (.int 2)))) (sRet (eTup (aCons (escf (eC (.str "if"))) (aCons (escf (eVar 7)) (aCons (escf (eTup (aCons (escf (eC (.str "no"))) aNil))) aNil))))) sNil)
  (sRet (eTup (aCons (escf (eBin dIx (eLst (aCons (escf (eC (.str "and"))) (aCons (escf (eC (.str "or"))) (aCons (escf (eC (.str "if"))) (aCons (escf (eC (.str "if"))) aNil))))) (eBin dSub (eVar 5) (eC (.int 3))))) (aCons (escf (eVar 7)) (aCons (escf (eCall (call ._law_statement) (aCons (escf (eVar 0)) (aCons (escf (eVar 1)) (aCons (escf (eBin dSub (eVar 2) (eC (.int 1)))) (aCons (escf (eVar 3)) aNil)))))) aNil)))))))))))
noncomputable def m__law_called (call : Fn → List S → (List MO) → Rs S (List MO)) : Sm MX Out :=
  (sSeq (sIf (tOf (eBin (dEq0 false) (eVar 1) (eTup aNil))) (sRet (eVar 0)) sNil)
  (sRet (eBin dAdd (eBin dAdd (eBin dAdd (eVar 0) (eC (.str "("))) (eUn (dJoin ", ") (eLc (iAnyM (eVar 1)) (kName 3) (fun z => .ok true z) (eCall (call ._law_term_text) (aCons (escf (eVar 3)) (aCons (escf (eVar 2)) aNil))) [3]))) (eC (.str ")")))))
noncomputable def m__law_term_text (call : Fn → List S → (List MO) → Rs S (List MO)) : Sm MX Out :=
  (sSeq (sIf (tOf (eBin dEq (eBin dIx (eVar 0) (eC (.int 0))) (eC (.str "var")))) (sRet (eBin dAdd (eC (.str "X")) (eFn fStr (aCons (opd (eBin dSub (eBin dSub (eVar 1) (eC (.int 1))) (eBin dIx (eVar 0) (eC (.int 1))))) aNil)))) sNil)
  (sRet (eCall (call ._law_called) (aCons (escf (eBin dIx (eVar 0) (eC (.int 1)))) (aCons (escf (eBin dIx (eVar 0) (eC (.int 2)))) (aCons (escf (eVar 1)) aNil))))))
noncomputable def m__law_rank (call : Fn → List S → (List MO) → Rs S (List MO)) : Sm MX Out :=
  (sSeq (sIf (tAndM (tOf (eBin dEq (eBin dIx (eVar 0) (eC (.int 0))) (eC (.str "if")))) (tOf (eBin dEq (eBin dIx (eVar 0) (eC (.int 2))) (eTup (aCons (escf (eC (.str "no"))) aNil))))) (sRet (eC (.int 4))) sNil)
  (sRet (eDGet2 (eDispG [("all", (eC (.int 0))), ("some", (eC (.int 0))), ("if", (eC (.int 1))), ("or", (eC (.int 2))), ("and", (eC (.int 3)))]) (eBin dIx (eVar 0) (eC (.int 0))) (eC (.int 5)))))
noncomputable def m__law_side (call : Fn → List S → (List MO) → Rs S (List MO)) : Sm MX Out :=
  (sSeq (sSet 4 (eCall (call ._law_text) (aCons (escf (eVar 0)) (aCons (escf (eVar 2)) (aCons (escf (eVar 3)) aNil)))))
  (sSeq (sSet 5 (eIf (tOf (eBinO (dEq0 true) (eVar 3) (eLst aNil))) (ePopO (eVar 3)) (eC (.int 0))))
  (sSeq (sIf (tOrM (tOf (eBin dLt (eCall (call ._law_rank) (aCons (escf (eVar 0)) aNil)) (eVar 1))) (tOf (eBin dEq (eBin dMod (eVar 5) (eC (.int 7))) (eC (.int 1))))) (sRet (eBin dAdd (eBin dAdd (eC (.str "(")) (eVar 4)) (eC (.str ")")))) sNil)
  (sRet (eVar 4)))))
noncomputable def m__law_text (call : Fn → List S → (List MO) → Rs S (List MO)) : Sm MX Out :=
  (sSeq (sSet 3 (eBin dMulS (eC (.str " ")) (eBin dAdd (eC (.int 1)) (eIf (tOf (eBinO (dEq0 true) (eVar 2) (eLst aNil))) (eBin dFdiv (eBin dMod (ePopO (eVar 2)) (eC (.int 5))) (eC (.int 4))) (eC (.int 0))))))
  (sSeq (sSet 4 (eCall (call ._law_rank) (aCons (escf (eVar 0)) aNil)))
  (sSeq (sIf (tOf (eBin dEq (eVar 4) (eC (.int 0)))) (sRet (eBin dAdd (eBin dAdd (eBin dAdd (eBin dAdd (eBin dAdd (eBin dAdd (eBin dAdd (eBin dAdd (eBin dIx (eVar 0) (eC (.int 0))) (eVar 3)) (eC (.str "X"))) (eFn fStr (aCons (opd (eVar 1)) aNil))) (eC (.str ":"))) (eBin dIx (eVar 0) (eC (.int 1)))) (eC (.str "."))) (eVar 3)) (eCall (call ._law_side) (aCons (escf (eBin dIx (eVar 0) (eC (.int 2)))) (aCons (escf (eC (.int 0))) (aCons (escf (eBin dAdd (eVar 1) (eC (.int 1)))) (aCons (escf (eVar 2)) aNil))))))) sNil)
  (sSeq (sIf (tOf (eBin dEq (eVar 4) (eC (.int 4)))) (sRet (eBin dAdd (eC (.str "~")) (eCall (call ._law_side) (aCons (escf (eBin dIx (eVar 0) (eC (.int 1)))) (aCons (escf (eC (.int 4))) (aCons (escf (eVar 1)) (aCons (escf (eVar 2)) aNil))))))) sNil)
  (sSeq (sIf (tOf (eBin dEq (eBin dIx (eVar 0) (eC (.int 0))) (eC (.str "no")))) (sRet (eC (.str "no"))) sNil)
  (sSeq (sIf (tOf (eBin dEq (eBin dIx (eVar 0) (eC (.int 0))) (eC (.str "rel")))) (sRet (eCall (call ._law_called) (aCons (escf (eBin dIx (eVar 0) (eC (.int 1)))) (aCons (escf (eBin dIx (eVar 0) (eC (.int 2)))) (aCons (escf (eVar 1)) aNil))))) sNil)
  (sSeq (sIf (tOf (eBin dEq (eBin dIx (eVar 0) (eC (.int 0))) (eC (.str "same")))) (sRet (eBin dAdd (eBin dAdd (eBin dAdd (eBin dAdd (eCall (call ._law_term_text) (aCons (escf (eBin dIx (eVar 0) (eC (.int 1)))) (aCons (escf (eVar 1)) aNil))) (eVar 3)) (eC (.str "="))) (eVar 3)) (eCall (call ._law_term_text) (aCons (escf (eBin dIx (eVar 0) (eC (.int 2)))) (aCons (escf (eVar 1)) aNil))))) sNil)
  (sSeq (sSet 5 (eCall (call ._law_side) (aCons (escf (eBin dIx (eVar 0) (eC (.int 1)))) (aCons (escf (eBin dAdd (eVar 4) (eFn fInt (aCons (opd (eBin dEq (eVar 4) (eC (.int 1)))) aNil)))) (aCons (escf (eVar 1)) (aCons (escf (eVar 2)) aNil))))))
  (sSeq (sSet 6 (eDIx (eDisp [("if", "->"), ("or", "|"), ("and", "&")]) (eBin dIx (eVar 0) (eC (.int 0)))))
  (sRet (eBin dAdd (eBin dAdd (eBin dAdd (eBin dAdd (eVar 5) (eVar 3)) (eVar 6)) (eVar 3)) (eCall (call ._law_side) (aCons (escf (eBin dIx (eVar 0) (eC (.int 2)))) (aCons (escf (eBin dAdd (eVar 4) (eFn fInt (aCons (opd (eBin dGt (eVar 4) (eC (.int 1)))) aNil)))) (aCons (escf (eVar 1)) (aCons (escf (eVar 2)) aNil))))))))))))))))
noncomputable def m__law_size (call : Fn → List S → (List MO) → Rs S (List MO)) : Sm MX Out :=
  (sSeq (sIf (tNotM (tTru dTru (eUn (dIsiN "tuple") (eVar 0)))) (sRet (eC (.int 0))) sNil)
  (sSeq (sSet 1 (eFn fInt (aCons (opd (eAndM (eBin (dEq0 true) (eVar 0) (eTup aNil)) (eUn (dIsiN "str") (eBin dIx (eVar 0) (eC (.int 0)))))) aNil)))
  (sRet (eBin dAdd (eVar 1) (eFn fSum (aCons (opd (eLc (iAnyM (eSl dSl (eVar 0) (oInt (eBin dSub (eC (.int 1)) (eFn fInt (aCons (opd (eBin dEq (eVar 1) (eC (.int 0)))) aNil)))) (fun z => .ok none z))) (kName 2) (fun z => .ok true z) (eCall (call ._law_size) (aCons (escf (eVar 2)) aNil)) [2])) aNil))))))
noncomputable def m_Reader_work (call : Fn → List S → (List MO) → Rs S (List MO)) : Sm MX Out :=
  (sIf (tOf (eBin dEq (eBin dIx (eVar 1) (eC (.int 0))) (eC (.str "ground")))) (sExpr eBad) (sIf (tOf (eBin dEq (eBin dIx (eVar 1) (eC (.int 0))) (eC (.str "piece")))) (sExpr eBad) (sIf (tOf (eBin dEq (eBin dIx (eVar 1) (eC (.int 0))) (eC (.str "small")))) (sExpr eBad) (sIf (tOf (eBin dEq (eBin dIx (eVar 1) (eC (.int 0))) (eC (.str "members")))) (sExpr eBad) (sIf (tOf (eBin dEq (eBin dIx (eVar 1) (eC (.int 0))) (eC (.str "less")))) (sFldM ["Reader"] "many" (eBin dSub (eFld ["Reader"] "many" (eVar 0)) (eC (.int 1))) (eVar 0)) (sIf (tOf (eBin dEq (eBin dIx (eVar 1) (eC (.int 0))) (eC (.str "ended")))) (sExpr eBad) (sExpr (eCall (call .Reader_work_plain) (aMeth "Reader" "work_plain" (eVar 0) (aCons (escf (eVar 1)) aNil))))))))))
noncomputable def m_Reader_do_term (call : Fn → List S → (List MO) → Rs S (List MO)) : Sm MX Out :=
  (sIf (tOf (eBin dEq (eBin dIx (eCall (call .Reader_now) (aMeth "Reader" "now" (eVar 0) aNil)) (eC (.int 0))) (eC (.str "var")))) (sExpr (eCall (call .Reader_do_variable) (aMeth "Reader" "do_variable" (eVar 0) aNil))) (sSeq (sSet 1 (eCall (call .Reader_need_kind) (aMeth "Reader" "need_kind" (eVar 0) (aCons (escf (eC (.str "name"))) aNil))))
  (sExpr (eCall (call .Reader_plan) (aMeth "Reader" "plan" (eVar 0) (aCons (escf (eLst (aCons (escf (eTup (aCons (escf (eC (.str "args"))) (aCons (escf (eC (.int 0))) aNil)))) (aCons (escf (eTup (aCons (escf (eC (.str "call"))) (aCons (escf (eVar 1)) aNil)))) aNil)))) aNil))))))
noncomputable def m_Reader_do_variable (call : Fn → List S → (List MO) → Rs S (List MO)) : Sm MX Out :=
  (sSeq (sIf (tOrM (tOf (eBin dNe (eBin dIx (eCall (call .Reader_now) (aMeth "Reader" "now" (eVar 0) aNil)) (eC (.int 0))) (eC (.str "var")))) (tOf (eBin dGe (eBin dIx (eCall (call .Reader_now) (aMeth "Reader" "now" (eVar 0) aNil)) (eC (.int 1))) (eFld ["Reader"] "many" (eVar 0))))) (sExpr eBad) sNil)
  (sExpr (eAppO (eFld ["Reader"] "made" (eVar 0)) (eTup (aCons (escf (eTup (aCons (escf (eC (.str "var"))) (aCons (escf (eBin dSub (eBin dSub (eFld ["Reader"] "many" (eVar 0)) (eC (.int 1))) (eCall (call .Reader_go_on) (aMeth "Reader" "go_on" (eVar 0) aNil)))) aNil)))) (aCons (escf (eC (.int 1))) (aCons (escf (eC (.int 1))) aNil)))))))
noncomputable def m_Reader_do_args (call : Fn → List S → (List MO) → Rs S (List MO)) : Sm MX Out :=
  (sSeq (sIf (tNotM (tTru dTru (eCall (call .Reader_is_mark) (aMeth "Reader" "is_mark" (eVar 0) (aCons (escf (eC (.str "("))) aNil))))) (sSeq (sExpr (eAppO (eFld ["Reader"] "made" (eVar 0)) (eC (.int 0))))
  (fun z => .ok (.rt (.d .non)) z)) sNil)
  (sSeq (sFldM ["Reader"] "at" (eBin dAdd (eFld ["Reader"] "at" (eVar 0)) (eC (.int 1))) (eVar 0))
  (sExpr (eCall (call .Reader_plan) (aMeth "Reader" "plan" (eVar 0) (aCons (escf (eLst (aCons (escf (eTup (aCons (escf (eC (.str "term"))) aNil))) (aCons (escf (eTup (aCons (escf (eC (.str "more"))) (aCons (escf (eC (.int 1))) aNil)))) aNil)))) aNil))))))
noncomputable def m_Reader_do_more (call : Fn → List S → (List MO) → Rs S (List MO)) : Sm MX Out :=
  (sIf (tTru dTru (eCall (call .Reader_is_mark) (aMeth "Reader" "is_mark" (eVar 0) (aCons (escf (eC (.str ","))) aNil)))) (sSeq (sFldM ["Reader"] "at" (eBin dAdd (eFld ["Reader"] "at" (eVar 0)) (eC (.int 1))) (eVar 0))
  (sExpr (eCall (call .Reader_plan) (aMeth "Reader" "plan" (eVar 0) (aCons (escf (eLst (aCons (escf (eTup (aCons (escf (eC (.str "term"))) aNil))) (aCons (escf (eTup (aCons (escf (eC (.str "more"))) (aCons (escf (eBin dAdd (eVar 1) (eC (.int 1)))) aNil)))) aNil)))) aNil))))) (sSeq (sExpr (eCall (call .Reader_need_word) (aMeth "Reader" "need_word" (eVar 0) (aCons (escf (eC (.str "mark"))) (aCons (escf (eC (.str ")"))) aNil)))))
  (sExpr (eAppO (eFld ["Reader"] "made" (eVar 0)) (eVar 1)))))
noncomputable def m_Reader_do_call (call : Fn → List S → (List MO) → Rs S (List MO)) : Sm MX Out :=
  (sExpr (eCall (call .Reader_make_call) (aMeth "Reader" "make_call" (eVar 0) (aCons (escf (eC (.str "call"))) (aCons (escf (eVar 1)) (aCons (escf (ePopO (eFld ["Reader"] "made" (eVar 0)))) aNil))))))
noncomputable def m_Reader_do_rel (call : Fn → List S → (List MO) → Rs S (List MO)) : Sm MX Out :=
  (sSeq (sSet 2 (ePopO (eFld ["Reader"] "made" (eVar 0))))
  (sIf (tTru dTru (eCall (call .Reader_is_mark) (aMeth "Reader" "is_mark" (eVar 0) (aCons (escf (eC (.str "="))) aNil)))) (sSeq (sExpr (eCall (call .Reader_make_call) (aMeth "Reader" "make_call" (eVar 0) (aCons (escf (eC (.str "call"))) (aCons (escf (eVar 1)) (aCons (escf (eVar 2)) aNil))))))
  (sExpr (eCall (call .Reader_do_same) (aMeth "Reader" "do_same" (eVar 0) aNil)))) (sExpr (eCall (call .Reader_make_call) (aMeth "Reader" "make_call" (eVar 0) (aCons (escf (eC (.str "rel"))) (aCons (escf (eVar 1)) (aCons (escf (eVar 2)) aNil))))))))
noncomputable def m_Reader_do_same (call : Fn → List S → (List MO) → Rs S (List MO)) : Sm MX Out :=
  (sSeq (sExpr (eCall (call .Reader_need_word) (aMeth "Reader" "need_word" (eVar 0) (aCons (escf (eC (.str "mark"))) (aCons (escf (eC (.str "="))) aNil)))))
  (sExpr (eCall (call .Reader_plan) (aMeth "Reader" "plan" (eVar 0) (aCons (escf (eLst (aCons (escf (eTup (aCons (escf (eC (.str "term"))) aNil))) (aCons (escf (eTup (aCons (escf (eC (.str "make"))) (aCons (escf (eC (.str "same"))) (aCons (escf (eC (.int 2))) aNil))))) aNil)))) aNil)))))
noncomputable def m_Reader_do_statement (call : Fn → List S → (List MO) → Rs S (List MO)) : Sm MX Out :=
  (sIf (tOrM (tTru dTru (eCall (call .Reader_is_told) (aMeth "Reader" "is_told" (eVar 0) (aCons (escf (eC (.str "all"))) aNil)))) (tTru dTru (eCall (call .Reader_is_told) (aMeth "Reader" "is_told" (eVar 0) (aCons (escf (eC (.str "some"))) aNil))))) (sExpr (eCall (call .Reader_do_bound) (aMeth "Reader" "do_bound" (eVar 0) (aCons (escf (eCall (call .Reader_go_on) (aMeth "Reader" "go_on" (eVar 0) aNil))) aNil)))) (sExpr (eCall (call .Reader_do_level) (aMeth "Reader" "do_level" (eVar 0) (aCons (escf (eC (.int 0))) aNil)))))
noncomputable def m_Reader_do_bound (call : Fn → List S → (List MO) → Rs S (List MO)) : Sm MX Out :=
  (sSeq (sIf (tOf (eBin dNe (eSl dSl (eCall (call .Reader_now) (aMeth "Reader" "now" (eVar 0) aNil)) (fun z => .ok none z) (oInt (eC (.int 2)))) (eTup (aCons (escf (eC (.str "var"))) (aCons (escf (eFld ["Reader"] "many" (eVar 0))) aNil))))) (sExpr eBad) sNil)
  (sSeq (sFldM ["Reader"] "at" (eBin dAdd (eFld ["Reader"] "at" (eVar 0)) (eC (.int 1))) (eVar 0))
  (sSeq (sExpr (eCall (call .Reader_need_word) (aMeth "Reader" "need_word" (eVar 0) (aCons (escf (eC (.str "mark"))) (aCons (escf (eC (.str ":"))) aNil)))))
  (sSeq (sSet 2 (eCall (call .Reader_need_kind) (aMeth "Reader" "need_kind" (eVar 0) (aCons (escf (eC (.str "name"))) aNil))))
  (sSeq (sExpr (eCall (call .Reader_need_word) (aMeth "Reader" "need_word" (eVar 0) (aCons (escf (eC (.str "mark"))) (aCons (escf (eC (.str "."))) aNil)))))
  (sSeq (sFldM ["Reader"] "many" (eBin dAdd (eFld ["Reader"] "many" (eVar 0)) (eC (.int 1))) (eVar 0))
  (sExpr (eCall (call .Reader_plan) (aMeth "Reader" "plan" (eVar 0) (aCons (escf (eLst (aCons (escf (eTup (aCons (escf (eC (.str "statement"))) aNil))) (aCons (escf (eTup (aCons (escf (eC (.str "bound"))) (aCons (escf (eVar 1)) (aCons (escf (eVar 2)) aNil))))) aNil)))) aNil))))))))))
noncomputable def m_Reader_do_level (call : Fn → List S → (List MO) → Rs S (List MO)) : Sm MX Out :=
  (sIf (tOf (eBin dEq (eVar 1) (eC c_NOT_LEVEL))) (sExpr (eCall (call .Reader_do_not) (aMeth "Reader" "do_not" (eVar 0) aNil))) (sExpr (eCall (call .Reader_plan) (aMeth "Reader" "plan" (eVar 0) (aCons (escf (eLst (aCons (escf (eTup (aCons (escf (eC (.str "level"))) (aCons (escf (eBin dAdd (eVar 1) (eC (.int 1)))) aNil)))) (aCons (escf (eTup (aCons (escf (eC (.str "rest"))) (aCons (escf (eVar 1)) aNil)))) aNil)))) aNil)))))
noncomputable def m_Reader_do_rest (call : Fn → List S → (List MO) → Rs S (List MO)) : Sm MX Out :=
  (sSeq (sIf (tNotM (tTru dTru (eCall (call .Reader_is_mark) (aMeth "Reader" "is_mark" (eVar 0) (aCons (escf (eBin dIx (eC c_SIGNS) (eVar 1))) aNil))))) (fun z => .ok (.rt (.d .non)) z) sNil)
  (sSeq (sFldM ["Reader"] "at" (eBin dAdd (eFld ["Reader"] "at" (eVar 0)) (eC (.int 1))) (eVar 0))
  (sIf (tOf (eBin dEq (eVar 1) (eC (.int 0)))) (sExpr (eCall (call .Reader_plan) (aMeth "Reader" "plan" (eVar 0) (aCons (escf (eLst (aCons (escf (eTup (aCons (escf (eC (.str "level"))) (aCons (escf (eC (.int 0))) aNil)))) (aCons (escf (eTup (aCons (escf (eC (.str "make"))) (aCons (escf (eC (.str "if"))) (aCons (escf (eC (.int 2))) aNil))))) aNil)))) aNil)))) (sExpr (eCall (call .Reader_plan) (aMeth "Reader" "plan" (eVar 0) (aCons (escf (eLst (aCons (escf (eTup (aCons (escf (eC (.str "level"))) (aCons (escf (eBin dAdd (eVar 1) (eC (.int 1)))) aNil)))) (aCons (escf (eTup (aCons (escf (eC (.str "make"))) (aCons (escf (eBin dIx (eC c_KINDS) (eVar 1))) (aCons (escf (eC (.int 2))) aNil))))) (aCons (escf (eTup (aCons (escf (eC (.str "rest"))) (aCons (escf (eVar 1)) aNil)))) aNil))))) aNil)))))))
noncomputable def m_Reader_do_not (call : Fn → List S → (List MO) → Rs S (List MO)) : Sm MX Out :=
  (sIf (tTru dTru (eCall (call .Reader_is_mark) (aMeth "Reader" "is_mark" (eVar 0) (aCons (escf (eC (.str "~"))) aNil)))) (sSeq (sFldM ["Reader"] "at" (eBin dAdd (eFld ["Reader"] "at" (eVar 0)) (eC (.int 1))) (eVar 0))
  (sExpr (eCall (call .Reader_plan) (aMeth "Reader" "plan" (eVar 0) (aCons (escf (eLst (aCons (escf (eTup (aCons (escf (eC (.str "level"))) (aCons (escf (eC c_NOT_LEVEL)) aNil)))) (aCons (escf (eTup (aCons (escf (eC (.str "make_not"))) aNil))) aNil)))) aNil))))) (sIf (tTru dTru (eCall (call .Reader_is_mark) (aMeth "Reader" "is_mark" (eVar 0) (aCons (escf (eC (.str "("))) aNil)))) (sSeq (sFldM ["Reader"] "at" (eBin dAdd (eFld ["Reader"] "at" (eVar 0)) (eC (.int 1))) (eVar 0))
  (sExpr (eCall (call .Reader_plan) (aMeth "Reader" "plan" (eVar 0) (aCons (escf (eLst (aCons (escf (eTup (aCons (escf (eC (.str "statement"))) aNil))) (aCons (escf (eTup (aCons (escf (eC (.str "take"))) (aCons (escf (eC (.str "mark"))) (aCons (escf (eC (.str ")"))) aNil))))) aNil)))) aNil))))) (sIf (tTru dTru (eCall (call .Reader_is_told) (aMeth "Reader" "is_told" (eVar 0) (aCons (escf (eC (.str "no"))) aNil)))) (sSeq (sFldM ["Reader"] "at" (eBin dAdd (eFld ["Reader"] "at" (eVar 0)) (eC (.int 1))) (eVar 0))
  (sExpr (eAppO (eFld ["Reader"] "made" (eVar 0)) (eTup (aCons (escf (eTup (aCons (escf (eC (.str "no"))) aNil))) (aCons (escf (eC (.int 1))) (aCons (escf (eC (.int 1))) aNil))))))) (sIf (tOf (eBin dEq (eBin dIx (eCall (call .Reader_now) (aMeth "Reader" "now" (eVar 0) aNil)) (eC (.int 0))) (eC (.str "var")))) (sSeq (sExpr (eCall (call .Reader_do_variable) (aMeth "Reader" "do_variable" (eVar 0) aNil)))
  (sExpr (eCall (call .Reader_do_same) (aMeth "Reader" "do_same" (eVar 0) aNil)))) (sSeq (sSet 1 (eCall (call .Reader_need_kind) (aMeth "Reader" "need_kind" (eVar 0) (aCons (escf (eC (.str "name"))) aNil))))
  (sExpr (eCall (call .Reader_plan) (aMeth "Reader" "plan" (eVar 0) (aCons (escf (eLst (aCons (escf (eTup (aCons (escf (eC (.str "args"))) (aCons (escf (eC (.int 0))) aNil)))) (aCons (escf (eTup (aCons (escf (eC (.str "rel"))) (aCons (escf (eVar 1)) aNil)))) aNil)))) aNil)))))))))
noncomputable def m_Reader_work_plain (call : Fn → List S → (List MO) → Rs S (List MO)) : Sm MX Out :=
  (sSeq (sSet 2 (eBin dIx (eVar 1) (eC (.int 0))))
  (sIf (tOf (eBin dEq (eVar 2) (eC (.str "term")))) (sExpr (eCall (call .Reader_do_term) (aMeth "Reader" "do_term" (eVar 0) aNil))) (sIf (tOf (eBin dEq (eVar 2) (eC (.str "args")))) (sExpr (eCall (call .Reader_do_args) (aMeth "Reader" "do_args" (eVar 0) aNil))) (sIf (tOf (eBin dEq (eVar 2) (eC (.str "more")))) (sExpr (eCall (call .Reader_do_more) (aMeth "Reader" "do_more" (eVar 0) (aCons (escf (eBin dIx (eVar 1) (eC (.int 1)))) aNil)))) (sIf (tOf (eBin dEq (eVar 2) (eC (.str "call")))) (sExpr (eCall (call .Reader_do_call) (aMeth "Reader" "do_call" (eVar 0) (aCons (escf (eBin dIx (eVar 1) (eC (.int 1)))) aNil)))) (sIf (tOf (eBin dEq (eVar 2) (eC (.str "rel")))) (sExpr (eCall (call .Reader_do_rel) (aMeth "Reader" "do_rel" (eVar 0) (aCons (escf (eBin dIx (eVar 1) (eC (.int 1)))) aNil)))) (sIf (tOf (eBin dEq (eVar 2) (eC (.str "statement")))) (sExpr (eCall (call .Reader_do_statement) (aMeth "Reader" "do_statement" (eVar 0) aNil))) (sIf (tOf (eBin dEq (eVar 2) (eC (.str "level")))) (sExpr (eCall (call .Reader_do_level) (aMeth "Reader" "do_level" (eVar 0) (aCons (escf (eBin dIx (eVar 1) (eC (.int 1)))) aNil)))) (sIf (tOf (eBin dEq (eVar 2) (eC (.str "rest")))) (sExpr (eCall (call .Reader_do_rest) (aMeth "Reader" "do_rest" (eVar 0) (aCons (escf (eBin dIx (eVar 1) (eC (.int 1)))) aNil)))) (sExpr (eCall (call .Reader_work_made) (aMeth "Reader" "work_made" (eVar 0) (aCons (escf (eVar 1)) aNil)))))))))))))
noncomputable def m_Reader_work_made (call : Fn → List S → (List MO) → Rs S (List MO)) : Sm MX Out :=
  (sIf (tOf (eBin dEq (eBin dIx (eVar 1) (eC (.int 0))) (eC (.str "make")))) (sExpr (eCall (call .Reader_make) (aMeth "Reader" "make" (eVar 0) (aCons (escf (eBin dIx (eVar 1) (eC (.int 1)))) (aCons (escf (eBin dIx (eVar 1) (eC (.int 2)))) aNil))))) (sIf (tOf (eBin dEq (eBin dIx (eVar 1) (eC (.int 0))) (eC (.str "make_not")))) (sExpr (eCall (call .Reader_make_not) (aMeth "Reader" "make_not" (eVar 0) aNil))) (sIf (tOf (eBin dEq (eBin dIx (eVar 1) (eC (.int 0))) (eC (.str "bound")))) (sExpr (eCall (call .Reader_make_bound) (aMeth "Reader" "make_bound" (eVar 0) (aCons (escf (eBin dIx (eVar 1) (eC (.int 1)))) (aCons (escf (eBin dIx (eVar 1) (eC (.int 2)))) aNil))))) (sExpr (eCall (call .Reader_need_word) (aMeth "Reader" "need_word" (eVar 0) (aCons (escf (eBin dIx (eVar 1) (eC (.int 1)))) (aCons (escf (eBin dIx (eVar 1) (eC (.int 2)))) aNil))))))))
noncomputable def m_Reader_run (call : Fn → List S → (List MO) → Rs S (List MO)) : Sm MX Out :=
  (sSeq (sExpr (eCall (call .Reader_plan) (aMeth "Reader" "plan" (eVar 0) (aCons (escf (eVar 1)) aNil))))
  (sSeq (sWhile (tOf (eBinO (dEq0 true) (eFld ["Reader"] "todo" (eVar 0)) (eLst aNil))) (sExpr (eCall (call .Reader_work) (aMeth "Reader" "work" (eVar 0) (aCons (escf (ePopO (eFld ["Reader"] "todo" (eVar 0)))) aNil)))) whileN)
  (sSeq (sIf (tOf (eBin dLt (eFld ["Reader"] "at" (eVar 0)) (eFn fLen (aCons (opd (eFld ["Reader"] "words" (eVar 0))) aNil)))) (sExpr eBad) sNil)
  (sRet (ePopO (eFld ["Reader"] "made" (eVar 0)))))))
noncomputable def m_Reader___init__ (call : Fn → List S → (List MO) → Rs S (List MO)) : Sm MX Out :=
  (sSeq (sFldM ["Reader"] "words" (eVar 1) (eVar 0))
  (sSeq (sFldM ["Reader"] "at" (eC (.int 0)) (eVar 0))
  (sSeq (sFldM ["Reader"] "length" (eVar 2) (eVar 0))
  (sSeq (sFldM ["Reader"] "todo" (eNewL aNil) (eVar 0))
  (sSeq (sFldM ["Reader"] "made" (eNewL aNil) (eVar 0))
  (sFldM ["Reader"] "many" (eVar 3) (eVar 0)))))))
noncomputable def m_Reader_now (call : Fn → List S → (List MO) → Rs S (List MO)) : Sm MX Out :=
  (sRet (eIf (tOf (eBin dLt (eFld ["Reader"] "at" (eVar 0)) (eFn fLen (aCons (opd (eFld ["Reader"] "words" (eVar 0))) aNil)))) (eBin dIx (eFld ["Reader"] "words" (eVar 0)) (eFld ["Reader"] "at" (eVar 0))) (eTup (aCons (escf (eC (.str "end"))) (aCons (escf (eC (.str ""))) (aCons (escf (eFld ["Reader"] "length" (eVar 0))) aNil))))))
noncomputable def m_Reader_is_mark (call : Fn → List S → (List MO) → Rs S (List MO)) : Sm MX Out :=
  (sRet (eBin dEq (eSl dSl (eCall (call .Reader_now) (aMeth "Reader" "now" (eVar 0) aNil)) (fun z => .ok none z) (oInt (eC (.int 2)))) (eTup (aCons (escf (eC (.str "mark"))) (aCons (escf (eVar 1)) aNil)))))
noncomputable def m_Reader_is_told (call : Fn → List S → (List MO) → Rs S (List MO)) : Sm MX Out :=
  (sRet (eBin dEq (eSl dSl (eCall (call .Reader_now) (aMeth "Reader" "now" (eVar 0) aNil)) (fun z => .ok none z) (oInt (eC (.int 2)))) (eTup (aCons (escf (eC (.str "told"))) (aCons (escf (eVar 1)) aNil)))))
noncomputable def m_Reader_go_on (call : Fn → List S → (List MO) → Rs S (List MO)) : Sm MX Out :=
  (sSeq (sFldM ["Reader"] "at" (eBin dAdd (eFld ["Reader"] "at" (eVar 0)) (eC (.int 1))) (eVar 0))
  (sRet (eBin dIx (eBin dIx (eFld ["Reader"] "words" (eVar 0)) (eBin dSub (eFld ["Reader"] "at" (eVar 0)) (eC (.int 1)))) (eC (.int 1)))))
noncomputable def m_Reader_need_word (call : Fn → List S → (List MO) → Rs S (List MO)) : Sm MX Out :=
  (sSeq (sIf (tOf (eBin dNe (eSl dSl (eCall (call .Reader_now) (aMeth "Reader" "now" (eVar 0) aNil)) (fun z => .ok none z) (oInt (eC (.int 2)))) (eTup (aCons (escf (eVar 1)) (aCons (escf (eVar 2)) aNil))))) (sExpr eBad) sNil)
  (sFldM ["Reader"] "at" (eBin dAdd (eFld ["Reader"] "at" (eVar 0)) (eC (.int 1))) (eVar 0)))
noncomputable def m_Reader_need_kind (call : Fn → List S → (List MO) → Rs S (List MO)) : Sm MX Out :=
  (sSeq (sIf (tOf (eBin dNe (eBin dIx (eCall (call .Reader_now) (aMeth "Reader" "now" (eVar 0) aNil)) (eC (.int 0))) (eVar 1))) (sExpr eBad) sNil)
  (sRet (eCall (call .Reader_go_on) (aMeth "Reader" "go_on" (eVar 0) aNil))))
noncomputable def m_Reader_plan (call : Fn → List S → (List MO) → Rs S (List MO)) : Sm MX Out :=
  (sExpr (eExtO (eFld ["Reader"] "todo" (eVar 0)) (eUn dRev (eVar 1))))
noncomputable def m_Reader_pop_many (call : Fn → List S → (List MO) → Rs S (List MO)) : Sm MX Out :=
  (sSeq (sSet 2 (eBin dSub (eFnO fLen (aCons (opd (eFld ["Reader"] "made" (eVar 0))) aNil)) (eVar 1)))
  (sSeq (sSet 3 (eSlO dSl (eFld ["Reader"] "made" (eVar 0)) (oInt (eVar 2)) (fun z => .ok none z)))
  (sSeq (sFldM ["Reader"] "made" (eSto (eSlO dSl (eFld ["Reader"] "made" (eVar 0)) (fun z => .ok none z) (oInt (eVar 2)))) (eVar 0))
  (sRet (eVar 3)))))
noncomputable def m_Reader_make (call : Fn → List S → (List MO) → Rs S (List MO)) : Sm MX Out :=
  (sSeq (sSet 3 (eCall (call .Reader_pop_many) (aMeth "Reader" "pop_many" (eVar 0) (aCons (escf (eVar 2)) aNil))))
  (sExpr (eAppO (eFld ["Reader"] "made" (eVar 0)) (eCall (call .joined) (aCons (escf (eBin dAdd (eTup (aCons (escf (eVar 1)) aNil)) (eFn fTuple (aCons (opd (eLc (iAnyM (eVar 3)) (kName 4) (fun z => .ok true z) (eBin dIx (eVar 4) (eC (.int 0))) [4])) aNil)))) (aCons (escf (eVar 3)) aNil))))))
noncomputable def m_Reader_make_call (call : Fn → List S → (List MO) → Rs S (List MO)) : Sm MX Out :=
  (sSeq (sSet 4 (eCall (call .Reader_pop_many) (aMeth "Reader" "pop_many" (eVar 0) (aCons (escf (eVar 3)) aNil))))
  (sExpr (eAppO (eFld ["Reader"] "made" (eVar 0)) (eCall (call .joined) (aCons (escf (eTup (aCons (escf (eVar 1)) (aCons (escf (eVar 2)) (aCons (escf (eFn fTuple (aCons (opd (eLc (iAnyM (eVar 4)) (kName 5) (fun z => .ok true z) (eBin dIx (eVar 5) (eC (.int 0))) [5])) aNil))) aNil))))) (aCons (escf (eVar 4)) aNil))))))
noncomputable def m_Reader_make_bound (call : Fn → List S → (List MO) → Rs S (List MO)) : Sm MX Out :=
  (sSeq (sFldM ["Reader"] "many" (eBin dSub (eFld ["Reader"] "many" (eVar 0)) (eC (.int 1))) (eVar 0))
  (sSeq (sSet 3 (eCall (call .Reader_pop_many) (aMeth "Reader" "pop_many" (eVar 0) (aCons (escf (eC (.int 1))) aNil))))
  (sExpr (eAppO (eFld ["Reader"] "made" (eVar 0)) (eCall (call .joined) (aCons (escf (eTup (aCons (escf (eVar 1)) (aCons (escf (eVar 2)) (aCons (escf (eBin dIx (eBin dIx (eVar 3) (eC (.int 0))) (eC (.int 0)))) aNil))))) (aCons (escf (eVar 3)) aNil)))))))
noncomputable def m_Reader_make_not (call : Fn → List S → (List MO) → Rs S (List MO)) : Sm MX Out :=
  (sSeq (sSet 1 (eCall (call .Reader_pop_many) (aMeth "Reader" "pop_many" (eVar 0) (aCons (escf (eC (.int 1))) aNil))))
  (sExpr (eAppO (eFld ["Reader"] "made" (eVar 0)) (eCall (call .joined) (aCons (escf (eTup (aCons (escf (eC (.str "if"))) (aCons (escf (eBin dIx (eBin dIx (eVar 1) (eC (.int 0))) (eC (.int 0)))) (aCons (escf (eC c_NO_stack)) aNil))))) (aCons (escf (eBin dAdd (eVar 1) (eLst (aCons (escf (eTup (aCons (escf (eC c_NO_stack)) (aCons (escf (eC (.int 1))) (aCons (escf (eC (.int 1))) aNil))))) aNil)))) aNil))))))
noncomputable def m_law (call : Fn → List S → (List MO) → Rs S (List MO)) : Sm MX Out :=
  (sSeq (sSet 1 (eNewL (aCons (escf (eC (.int 0))) aNil)))
  (sSeq (sFor (iRg1M (aCons (opd (eBin dAdd (eC (.int 2)) (eBin dFdiv (eFn fLen (aCons (opd (eVar 0)) aNil)) (eC (.int 6))))) aNil)) (kName 2) (sSeq (sSet 3 (eCall (call ._law_cell) (aCons (escf (eVar 0)) (aCons (escf (eVar 1)) aNil))))
  (sSeq (sSet 4 (eBin dMod (eVar 3) (eC (.int 4))))
  (sSeq (sSet 5 (eCall (call ._law_term) (aCons (escf (eVar 0)) (aCons (escf (eVar 1)) (aCons (escf (eBin dAdd (eC (.int 1)) (eBin dMod (eBin dFdiv (eVar 3) (eC (.int 4))) (eC (.int 4))))) (aCons (escf (eVar 4)) aNil))))))
  (sSeq (sSet 6 (eCall (call ._law_statement) (aCons (escf (eVar 0)) (aCons (escf (eVar 1)) (aCons (escf (eBin dAdd (eC (.int 1)) (eBin dMod (eBin dFdiv (eVar 3) (eC (.int 16))) (eC (.int 6))))) (aCons (escf (eVar 4)) aNil))))))
  (sSeq (sIf (tOrM (tOf (eBin dGt (eCall (call ._law_size) (aCons (escf (eVar 6)) aNil)) (eC (.int 400)))) (tOf (eBin dGt (eCall (call ._law_size) (aCons (escf (eVar 5)) aNil)) (eC (.int 400))))) (fun z => .ok .ct z) sNil)
  (sSeq (sFor (iRg1M (aCons (opd (eC (.int 2))) aNil)) (kName 7) (sSeq (sIf (tOf (eBin dNe (eCall (call .term_text) (aCons (escf (eVar 5)) (aCons (escf (eVar 4)) aNil))) (eCall (call ._law_term_text) (aCons (escf (eVar 5)) (aCons (escf (eVar 4)) aNil))))) (sRet (eC (.bl false))) sNil)
  (sIf (tOf (eBin dNe (eCall (call .statement_text) (aCons (escf (eVar 6)) (aCons (escf (eVar 4)) aNil))) (eCall (call ._law_text) (aCons (escf (eVar 6)) (aCons (escf (eVar 4)) (aCons (escf (eNewL aNil)) aNil)))))) (sRet (eC (.bl false))) sNil)))
  (sSeq (sSet 8 (eCall (call ._law_text) (aCons (escf (eVar 6)) (aCons (escf (eVar 4)) (aCons (escf (eSto (eLc (iRg1M (aCons (opd (eC (.int 40))) aNil)) (kName 10) (fun z => .ok true z) (eCall (call ._law_cell) (aCons (escf (eVar 0)) (aCons (escf (eVar 1)) aNil))) [10]))) aNil)))))
  (sSeq (sFor (iAnyM (eTup (aCons (escf (eCall (call .statement_text) (aCons (escf (eVar 6)) (aCons (escf (eVar 4)) aNil)))) (aCons (escf (eVar 8)) aNil)))) (kName 9) (sIf (tOf (eBin dNe (eFn fReprE (aCons (opd (eCall (call .read_statement) (aCons (escf (eVar 9)) (aCons (escf (eVar 4)) aNil)))) aNil)) (eFn fReprE (aCons (opd (eVar 6)) aNil)))) (sRet (eC (.bl false))) sNil))
  (sIf (tOf (eBin dNe (eFn fReprE (aCons (opd (eCall (call .read_term) (aCons (escf (eCall (call .term_text) (aCons (escf (eVar 5)) (aCons (escf (eVar 4)) aNil)))) (aCons (escf (eVar 4)) aNil)))) aNil)) (eFn fReprE (aCons (opd (eVar 5)) aNil)))) (sRet (eC (.bl false))) sNil))))))))))
  (sRet (eC (.bl true)))))
noncomputable def stepM (call callI : Fn → List S → (List MO) → Rs S (List MO)) : Fn → List S → (List MO) → Rs S (List MO)
 | .called_text => fnM 4 (m_called_text call)
 | .term_text => fnM 2 (m_term_text call)
 | .is_not => fnM 1 (m_is_not call)
 | .rank_of => fnM 1 (m_rank_of call)
 | .side_text => fnM 4 (m_side_text call)
 | .statement_text => fnM 4 (m_statement_text call)
 | .joined => fnM 3 (m_joined call)
 | .is_called => fnM 2 (m_is_called call)
 | .number_of => fnM 2 (m_number_of call)
 | .run_at => fnM 2 (m_run_at call)
 | .run_word => fnM 1 (m_run_word call)
 | .words_of => fnM 5 (m_words_of call)
 | .reader_of => fnM 3 (m_reader_of call callI)
 | .small_one => fnM 6 (m_small_one call)
 | .read_term => fnM 2 (m_read_term call)
 | .read_statement => fnM 2 (m_read_statement call)
 | ._law_cell => fnM 6 (m__law_cell call)
 | ._law_name => fnM 1 (m__law_name call)
 | ._law_term => fnM 7 (m__law_term call)
 | ._law_statement => fnM 9 (m__law_statement call)
 | ._law_called => fnM 4 (m__law_called call)
 | ._law_term_text => fnM 2 (m__law_term_text call)
 | ._law_rank => fnM 1 (m__law_rank call)
 | ._law_side => fnM 6 (m__law_side call)
 | ._law_text => fnM 7 (m__law_text call)
 | ._law_size => fnM 3 (m__law_size call)
 | .Reader_work => fnM 2 (m_Reader_work call)
 | .Reader_do_term => fnM 2 (m_Reader_do_term call)
 | .Reader_do_variable => fnM 1 (m_Reader_do_variable call)
 | .Reader_do_args => fnM 1 (m_Reader_do_args call)
 | .Reader_do_more => fnM 2 (m_Reader_do_more call)
 | .Reader_do_call => fnM 2 (m_Reader_do_call call)
 | .Reader_do_rel => fnM 3 (m_Reader_do_rel call)
 | .Reader_do_same => fnM 1 (m_Reader_do_same call)
 | .Reader_do_statement => fnM 1 (m_Reader_do_statement call)
 | .Reader_do_bound => fnM 3 (m_Reader_do_bound call)
 | .Reader_do_level => fnM 2 (m_Reader_do_level call)
 | .Reader_do_rest => fnM 2 (m_Reader_do_rest call)
 | .Reader_do_not => fnM 2 (m_Reader_do_not call)
 | .Reader_work_plain => fnM 3 (m_Reader_work_plain call)
 | .Reader_work_made => fnM 2 (m_Reader_work_made call)
 | .Reader_run => fnM 2 (m_Reader_run call)
 | .Reader___init__ => fnM 4 (m_Reader___init__ call)
 | .Reader_now => fnM 1 (m_Reader_now call)
 | .Reader_is_mark => fnM 2 (m_Reader_is_mark call)
 | .Reader_is_told => fnM 2 (m_Reader_is_told call)
 | .Reader_go_on => fnM 1 (m_Reader_go_on call)
 | .Reader_need_word => fnM 3 (m_Reader_need_word call)
 | .Reader_need_kind => fnM 2 (m_Reader_need_kind call)
 | .Reader_plan => fnM 2 (m_Reader_plan call)
 | .Reader_pop_many => fnM 4 (m_Reader_pop_many call)
 | .Reader_make => fnM 5 (m_Reader_make call)
 | .Reader_make_call => fnM 6 (m_Reader_make_call call)
 | .Reader_make_bound => fnM 4 (m_Reader_make_bound call)
 | .Reader_make_not => fnM 2 (m_Reader_make_not call)
noncomputable def mirP : Nat → (Fn → List S → (List MO) → Rs S (List MO)) × (Fn → List S → (List MO) → Rs S (List MO))
 | 0 => (fun _ _ _ => .bad, fun _ _ _ => .bad)
 | n + 1 => (stepM (mirP n).1 (mirP n).2, (mirP n).1)
noncomputable def mir (n : Nat) : Fn → List S → (List MO) → Rs S (List MO) := (mirP n).1
noncomputable def mirI (n : Nat) : Fn → List S → (List MO) → Rs S (List MO) := (mirP n).2
theorem sc_called_text : FnScope ["name", "args", "many", "one"] ["name", "args", "many"] (defScope s_called_text) := ⟨rfl, rfl, rfl, by decide +kernel, rfl, by decide +kernel, by decide +kernel⟩
theorem sc_term_text : FnScope ["term", "many"] ["term", "many"] (defScope s_term_text) := ⟨rfl, rfl, rfl, by decide +kernel, rfl, by decide +kernel, by decide +kernel⟩
theorem sc_is_not : FnScope ["a"] ["a"] (defScope s_is_not) := ⟨rfl, rfl, rfl, by decide +kernel, rfl, by decide +kernel, by decide +kernel⟩
theorem sc_rank_of : FnScope ["a"] ["a"] (defScope s_rank_of) := ⟨rfl, rfl, rfl, by decide +kernel, rfl, by decide +kernel, by decide +kernel⟩
theorem sc_side_text : FnScope ["a", "least", "many", "text"] ["a", "least", "many"] (defScope s_side_text) := ⟨rfl, rfl, rfl, by decide +kernel, rfl, by decide +kernel, by decide +kernel⟩
theorem sc_statement_text : FnScope ["a", "many", "own", "left"] ["a", "many"] (defScope s_statement_text) := ⟨rfl, rfl, rfl, by decide +kernel, rfl, by decide +kernel, by decide +kernel⟩
theorem sc_joined : FnScope ["thing", "parts", "one"] ["thing", "parts"] (defScope s_joined) := ⟨rfl, rfl, rfl, by decide +kernel, rfl, by decide +kernel, by decide +kernel⟩
theorem sc_is_called : FnScope ["word", "sign"] ["word"] (defScope s_is_called) := ⟨rfl, rfl, rfl, by decide +kernel, rfl, by decide +kernel, by decide +kernel⟩
theorem sc_number_of : FnScope ["word", "sign"] ["word"] (defScope s_number_of) := ⟨rfl, rfl, rfl, by decide +kernel, rfl, by decide +kernel, by decide +kernel⟩
theorem sc_run_at : FnScope ["text", "at"] ["text", "at"] (defScope s_run_at) := ⟨rfl, rfl, rfl, by decide +kernel, rfl, by decide +kernel, by decide +kernel⟩
theorem sc_run_word : FnScope ["run"] ["run"] (defScope s_run_word) := ⟨rfl, rfl, rfl, by decide +kernel, rfl, by decide +kernel, by decide +kernel⟩
theorem sc_words_of : FnScope ["text", "found", "at", "behind", "word"] ["text"] (defScope s_words_of) := ⟨rfl, rfl, rfl, by decide +kernel, rfl, by decide +kernel, by decide +kernel⟩
theorem sc_reader_of : FnScope ["text", "many", "most"] ["text", "many", "most"] (defScope s_reader_of) := ⟨rfl, rfl, rfl, by decide +kernel, rfl, by decide +kernel, by decide +kernel⟩
theorem sc_small_one : FnScope ["text", "many", "task", "thing", "parts", "deep"] ["text", "many", "task"] (defScope s_small_one) := ⟨rfl, rfl, rfl, by decide +kernel, rfl, by decide +kernel, by decide +kernel⟩
theorem sc_read_term : FnScope ["text", "many"] ["text", "many"] (defScope s_read_term) := ⟨rfl, rfl, rfl, by decide +kernel, rfl, by decide +kernel, by decide +kernel⟩
theorem sc_read_statement : FnScope ["text", "many"] ["text", "many"] (defScope s_read_statement) := ⟨rfl, rfl, rfl, by decide +kernel, rfl, by decide +kernel, by decide +kernel⟩
theorem sc__law_cell : FnScope ["_law_cells", "_law_spot", "_law_k", "_law_base", "_law_own", "_law_turn"] ["_law_cells", "_law_spot"] (defScope s__law_cell) := ⟨rfl, rfl, rfl, by decide +kernel, rfl, by decide +kernel, by decide +kernel⟩
theorem sc__law_name : FnScope ["_law_n"] ["_law_n"] (defScope s__law_name) := ⟨rfl, rfl, rfl, by decide +kernel, rfl, by decide +kernel, by decide +kernel⟩
theorem sc__law_term : FnScope ["_law_cells", "_law_spot", "_law_deep", "_law_many", "_law_n", "_law_args", "_law_k"] ["_law_cells", "_law_spot", "_law_deep", "_law_many"] (defScope s__law_term) := ⟨rfl, rfl, rfl, by decide +kernel, rfl, by decide +kernel, by decide +kernel⟩
theorem sc__law_statement : FnScope ["_law_cells", "_law_spot", "_law_deep", "_law_many", "_law_n", "_law_kind", "_law_args", "_law_one", "_law_k"] ["_law_cells", "_law_spot", "_law_deep", "_law_many"] (defScope s__law_statement) := ⟨rfl, rfl, rfl, by decide +kernel, rfl, by decide +kernel, by decide +kernel⟩
theorem sc__law_called : FnScope ["_law_name_here", "_law_args", "_law_many", "_law_one"] ["_law_name_here", "_law_args", "_law_many"] (defScope s__law_called) := ⟨rfl, rfl, rfl, by decide +kernel, rfl, by decide +kernel, by decide +kernel⟩
theorem sc__law_term_text : FnScope ["_law_term_here", "_law_many"] ["_law_term_here", "_law_many"] (defScope s__law_term_text) := ⟨rfl, rfl, rfl, by decide +kernel, rfl, by decide +kernel, by decide +kernel⟩
theorem sc__law_rank : FnScope ["_law_a"] ["_law_a"] (defScope s__law_rank) := ⟨rfl, rfl, rfl, by decide +kernel, rfl, by decide +kernel, by decide +kernel⟩
theorem sc__law_side : FnScope ["_law_a", "_law_least", "_law_many", "_law_more", "_law_text_here", "_law_n"] ["_law_a", "_law_least", "_law_many", "_law_more"] (defScope s__law_side) := ⟨rfl, rfl, rfl, by decide +kernel, rfl, by decide +kernel, by decide +kernel⟩
theorem sc__law_text : FnScope ["_law_a", "_law_many", "_law_more", "_law_gap", "_law_own", "_law_left", "_law_mark"] ["_law_a", "_law_many", "_law_more"] (defScope s__law_text) := ⟨rfl, rfl, rfl, by decide +kernel, rfl, by decide +kernel, by decide +kernel⟩
theorem sc__law_size : FnScope ["_law_a", "_law_own", "_law_one"] ["_law_a"] (defScope s__law_size) := ⟨rfl, rfl, rfl, by decide +kernel, rfl, by decide +kernel, by decide +kernel⟩
theorem sc_Reader_work : FnScope ["self", "task"] ["self", "task"] (defScope s_Reader_work) := ⟨rfl, rfl, rfl, by decide +kernel, rfl, by decide +kernel, by decide +kernel⟩
theorem sc_Reader_do_term : FnScope ["self", "name"] ["self"] (defScope s_Reader_do_term) := ⟨rfl, rfl, rfl, by decide +kernel, rfl, by decide +kernel, by decide +kernel⟩
theorem sc_Reader_do_variable : FnScope ["self"] ["self"] (defScope s_Reader_do_variable) := ⟨rfl, rfl, rfl, by decide +kernel, rfl, by decide +kernel, by decide +kernel⟩
theorem sc_Reader_do_args : FnScope ["self"] ["self"] (defScope s_Reader_do_args) := ⟨rfl, rfl, rfl, by decide +kernel, rfl, by decide +kernel, by decide +kernel⟩
theorem sc_Reader_do_more : FnScope ["self", "count"] ["self", "count"] (defScope s_Reader_do_more) := ⟨rfl, rfl, rfl, by decide +kernel, rfl, by decide +kernel, by decide +kernel⟩
theorem sc_Reader_do_call : FnScope ["self", "name"] ["self", "name"] (defScope s_Reader_do_call) := ⟨rfl, rfl, rfl, by decide +kernel, rfl, by decide +kernel, by decide +kernel⟩
theorem sc_Reader_do_rel : FnScope ["self", "name", "count"] ["self", "name"] (defScope s_Reader_do_rel) := ⟨rfl, rfl, rfl, by decide +kernel, rfl, by decide +kernel, by decide +kernel⟩
theorem sc_Reader_do_same : FnScope ["self"] ["self"] (defScope s_Reader_do_same) := ⟨rfl, rfl, rfl, by decide +kernel, rfl, by decide +kernel, by decide +kernel⟩
theorem sc_Reader_do_statement : FnScope ["self"] ["self"] (defScope s_Reader_do_statement) := ⟨rfl, rfl, rfl, by decide +kernel, rfl, by decide +kernel, by decide +kernel⟩
theorem sc_Reader_do_bound : FnScope ["self", "word", "sort"] ["self", "word"] (defScope s_Reader_do_bound) := ⟨rfl, rfl, rfl, by decide +kernel, rfl, by decide +kernel, by decide +kernel⟩
theorem sc_Reader_do_level : FnScope ["self", "at"] ["self", "at"] (defScope s_Reader_do_level) := ⟨rfl, rfl, rfl, by decide +kernel, rfl, by decide +kernel, by decide +kernel⟩
theorem sc_Reader_do_rest : FnScope ["self", "at"] ["self", "at"] (defScope s_Reader_do_rest) := ⟨rfl, rfl, rfl, by decide +kernel, rfl, by decide +kernel, by decide +kernel⟩
theorem sc_Reader_do_not : FnScope ["self", "name"] ["self"] (defScope s_Reader_do_not) := ⟨rfl, rfl, rfl, by decide +kernel, rfl, by decide +kernel, by decide +kernel⟩
theorem sc_Reader_work_plain : FnScope ["self", "task", "word"] ["self", "task"] (defScope s_Reader_work_plain) := ⟨rfl, rfl, rfl, by decide +kernel, rfl, by decide +kernel, by decide +kernel⟩
theorem sc_Reader_work_made : FnScope ["self", "task"] ["self", "task"] (defScope s_Reader_work_made) := ⟨rfl, rfl, rfl, by decide +kernel, rfl, by decide +kernel, by decide +kernel⟩
theorem sc_Reader_run : FnScope ["self", "tasks"] ["self", "tasks"] (defScope s_Reader_run) := ⟨rfl, rfl, rfl, by decide +kernel, rfl, by decide +kernel, by decide +kernel⟩
theorem sc_Reader___init__ : FnScope ["self", "words", "length", "many"] ["self", "words", "length", "many"] (defScope s_Reader___init__) := ⟨rfl, rfl, rfl, by decide +kernel, rfl, by decide +kernel, by decide +kernel⟩
theorem sc_Reader_now : FnScope ["self"] ["self"] (defScope s_Reader_now) := ⟨rfl, rfl, rfl, by decide +kernel, rfl, by decide +kernel, by decide +kernel⟩
theorem sc_Reader_is_mark : FnScope ["self", "sign"] ["self", "sign"] (defScope s_Reader_is_mark) := ⟨rfl, rfl, rfl, by decide +kernel, rfl, by decide +kernel, by decide +kernel⟩
theorem sc_Reader_is_told : FnScope ["self", "word"] ["self", "word"] (defScope s_Reader_is_told) := ⟨rfl, rfl, rfl, by decide +kernel, rfl, by decide +kernel, by decide +kernel⟩
theorem sc_Reader_go_on : FnScope ["self"] ["self"] (defScope s_Reader_go_on) := ⟨rfl, rfl, rfl, by decide +kernel, rfl, by decide +kernel, by decide +kernel⟩
theorem sc_Reader_need_word : FnScope ["self", "kind", "word"] ["self", "kind", "word"] (defScope s_Reader_need_word) := ⟨rfl, rfl, rfl, by decide +kernel, rfl, by decide +kernel, by decide +kernel⟩
theorem sc_Reader_need_kind : FnScope ["self", "kind"] ["self", "kind"] (defScope s_Reader_need_kind) := ⟨rfl, rfl, rfl, by decide +kernel, rfl, by decide +kernel, by decide +kernel⟩
theorem sc_Reader_plan : FnScope ["self", "tasks"] ["self", "tasks"] (defScope s_Reader_plan) := ⟨rfl, rfl, rfl, by decide +kernel, rfl, by decide +kernel, by decide +kernel⟩
theorem sc_Reader_pop_many : FnScope ["self", "count", "at", "found"] ["self", "count"] (defScope s_Reader_pop_many) := ⟨rfl, rfl, rfl, by decide +kernel, rfl, by decide +kernel, by decide +kernel⟩
theorem sc_Reader_make : FnScope ["self", "word", "count", "parts", "one"] ["self", "word", "count"] (defScope s_Reader_make) := ⟨rfl, rfl, rfl, by decide +kernel, rfl, by decide +kernel, by decide +kernel⟩
theorem sc_Reader_make_call : FnScope ["self", "word", "name", "count", "parts", "one"] ["self", "word", "name", "count"] (defScope s_Reader_make_call) := ⟨rfl, rfl, rfl, by decide +kernel, rfl, by decide +kernel, by decide +kernel⟩
theorem sc_Reader_make_bound : FnScope ["self", "word", "sort", "parts"] ["self", "word", "sort"] (defScope s_Reader_make_bound) := ⟨rfl, rfl, rfl, by decide +kernel, rfl, by decide +kernel, by decide +kernel⟩
theorem sc_Reader_make_not : FnScope ["self", "parts"] ["self"] (defScope s_Reader_make_not) := ⟨rfl, rfl, rfl, by decide +kernel, rfl, by decide +kernel, by decide +kernel⟩
theorem sc_law : FnScope ["_law_script", "_law_spot", "_law_k", "_law_n", "_law_many", "_law_term_here", "_law_a", "_law_turn", "_law_other", "_law_text_here", "_law_j"] ["_law_script"] (defScope s_law) := ⟨rfl, rfl, rfl, by decide +kernel, rfl, by decide +kernel, by decide +kernel⟩
structure Tt (K : PySem.W.Frag) (mg : Str → Option Value) (pr : Params) (C_Reader : Addr) : Prop where
  cl_Reader : ClF K "Reader" C_Reader
  na_Reader_at : NoAttr K C_Reader "at"
  na_Reader_length : NoAttr K C_Reader "length"
  na_Reader_made : NoAttr K C_Reader "made"
  na_Reader_many : NoAttr K C_Reader "many"
  na_Reader_todo : NoAttr K C_Reader "todo"
  na_Reader_words : NoAttr K C_Reader "words"
  called_text : FnIn K mg "called_text" s_called_text ["name", "args", "many"] []
  term_text : FnIn K mg "term_text" s_term_text ["term", "many"] []
  is_not : FnIn K mg "is_not" s_is_not ["a"] []
  rank_of : FnIn K mg "rank_of" s_rank_of ["a"] []
  side_text : FnIn K mg "side_text" s_side_text ["a", "least", "many"] []
  statement_text : FnIn K mg "statement_text" s_statement_text ["a", "many"] []
  joined : FnIn K mg "joined" s_joined ["thing", "parts"] []
  is_called : FnIn K mg "is_called" s_is_called ["word"] []
  number_of : FnIn K mg "number_of" s_number_of ["word"] []
  run_at : FnIn K mg "run_at" s_run_at ["text", "at"] []
  run_word : FnIn K mg "run_word" s_run_word ["run"] []
  words_of : FnIn K mg "words_of" s_words_of ["text"] []
  reader_of : FnIn K mg "reader_of" s_reader_of ["text", "many", "most"] []
  small_one : FnIn K mg "small_one" s_small_one ["text", "many", "task"] []
  read_term : FnIn K mg "read_term" s_read_term ["text", "many"] []
  read_statement : FnIn K mg "read_statement" s_read_statement ["text", "many"] []
  _law_cell : FnIn K mg "_law_cell" s__law_cell ["_law_cells", "_law_spot"] []
  _law_name : FnIn K mg "_law_name" s__law_name ["_law_n"] []
  _law_term : FnIn K mg "_law_term" s__law_term ["_law_cells", "_law_spot", "_law_deep", "_law_many"] []
  _law_statement : FnIn K mg "_law_statement" s__law_statement ["_law_cells", "_law_spot", "_law_deep", "_law_many"] []
  _law_called : FnIn K mg "_law_called" s__law_called ["_law_name_here", "_law_args", "_law_many"] []
  _law_term_text : FnIn K mg "_law_term_text" s__law_term_text ["_law_term_here", "_law_many"] []
  _law_rank : FnIn K mg "_law_rank" s__law_rank ["_law_a"] []
  _law_side : FnIn K mg "_law_side" s__law_side ["_law_a", "_law_least", "_law_many", "_law_more"] []
  _law_text : FnIn K mg "_law_text" s__law_text ["_law_a", "_law_many", "_law_more"] []
  _law_size : FnIn K mg "_law_size" s__law_size ["_law_a"] []
  Reader_work : MeIn K "Reader" "work" "Reader.work" s_Reader_work ["self", "task"]
  Reader_do_term : MeIn K "Reader" "do_term" "Parser.do_term" s_Reader_do_term ["self"]
  Reader_do_variable : MeIn K "Reader" "do_variable" "Parser.do_variable" s_Reader_do_variable ["self"]
  Reader_do_args : MeIn K "Reader" "do_args" "Parser.do_args" s_Reader_do_args ["self"]
  Reader_do_more : MeIn K "Reader" "do_more" "Parser.do_more" s_Reader_do_more ["self", "count"]
  Reader_do_call : MeIn K "Reader" "do_call" "Parser.do_call" s_Reader_do_call ["self", "name"]
  Reader_do_rel : MeIn K "Reader" "do_rel" "Parser.do_rel" s_Reader_do_rel ["self", "name"]
  Reader_do_same : MeIn K "Reader" "do_same" "Parser.do_same" s_Reader_do_same ["self"]
  Reader_do_statement : MeIn K "Reader" "do_statement" "Parser.do_statement" s_Reader_do_statement ["self"]
  Reader_do_bound : MeIn K "Reader" "do_bound" "Parser.do_bound" s_Reader_do_bound ["self", "word"]
  Reader_do_level : MeIn K "Reader" "do_level" "Parser.do_level" s_Reader_do_level ["self", "at"]
  Reader_do_rest : MeIn K "Reader" "do_rest" "Parser.do_rest" s_Reader_do_rest ["self", "at"]
  Reader_do_not : MeIn K "Reader" "do_not" "Parser.do_not" s_Reader_do_not ["self"]
  Reader_work_plain : MeIn K "Reader" "work_plain" "Parser.work_plain" s_Reader_work_plain ["self", "task"]
  Reader_work_made : MeIn K "Reader" "work_made" "Parser.work_made" s_Reader_work_made ["self", "task"]
  Reader_run : MeIn K "Reader" "run" "Parser.run" s_Reader_run ["self", "tasks"]
  mk_Reader : MkIn K mg "Reader" "Stack.__init__" s_Reader___init__ ["self", "words", "length", "many"]
  Reader_now : MeIn K "Reader" "now" "Stack.now" s_Reader_now ["self"]
  Reader_is_mark : MeIn K "Reader" "is_mark" "Stack.is_mark" s_Reader_is_mark ["self", "sign"]
  Reader_is_told : MeIn K "Reader" "is_told" "Stack.is_told" s_Reader_is_told ["self", "word"]
  Reader_go_on : MeIn K "Reader" "go_on" "Stack.go_on" s_Reader_go_on ["self"]
  Reader_need_word : MeIn K "Reader" "need_word" "Stack.need_word" s_Reader_need_word ["self", "kind", "word"]
  Reader_need_kind : MeIn K "Reader" "need_kind" "Stack.need_kind" s_Reader_need_kind ["self", "kind"]
  Reader_plan : MeIn K "Reader" "plan" "Stack.plan" s_Reader_plan ["self", "tasks"]
  Reader_pop_many : MeIn K "Reader" "pop_many" "Stack.pop_many" s_Reader_pop_many ["self", "count"]
  Reader_make : MeIn K "Reader" "make" "Stack.make" s_Reader_make ["self", "word", "count"]
  Reader_make_call : MeIn K "Reader" "make_call" "Stack.make_call" s_Reader_make_call ["self", "word", "name", "count"]
  Reader_make_bound : MeIn K "Reader" "make_bound" "Stack.make_bound" s_Reader_make_bound ["self", "word", "sort"]
  Reader_make_not : MeIn K "Reader" "make_not" "Stack.make_not" s_Reader_make_not ["self"]
  b_all : mg "all" = none
  b_int : mg "int" = none
  b_isinstance : mg "isinstance" = none
  b_len : mg "len" = none
  b_max : mg "max" = none
  b_range : mg "range" = none
  b_repr : mg "repr" = none
  b_str : mg "str" = none
  b_sum : mg "sum" = none
  b_tuple : mg "tuple" = none
  c_FIGURES : GlD K mg "FIGURES" c_FIGURES
  c_FORMS : GlD K mg "FORMS" c_FORMS
  c_KINDS : GlD K mg "KINDS" c_KINDS
  c_MARKS_words : GlD K mg "MARKS_words" c_MARKS_words
  c_MOST_DEEP : GlD K mg "MOST_DEEP" c_MOST_DEEP
  c_MOST_FIGURES : GlD K mg "MOST_FIGURES" c_MOST_FIGURES
  c_MOST_LETTERS : GlD K mg "MOST_LETTERS" c_MOST_LETTERS
  c_MOST_PARTS : GlD K mg "MOST_PARTS" c_MOST_PARTS
  c_MOST_RANK : GlD K mg "MOST_RANK" c_MOST_RANK
  c_MOST_SIGNS : GlD K mg "MOST_SIGNS" c_MOST_SIGNS
  c_NOT_LEVEL : GlD K mg "NOT_LEVEL" c_NOT_LEVEL
  c_NOT_RANK : GlD K mg "NOT_RANK" c_NOT_RANK
  c_NO_stack : GlD K mg "NO_stack" c_NO_stack
  c_NO_writing : GlD K mg "NO_writing" c_NO_writing
  c_SIGNS : GlD K mg "SIGNS" c_SIGNS
  c_SMALL : GlD K mg "SMALL" c_SMALL
  c_TOLD : GlD K mg "TOLD" c_TOLD
  k_MARKS_writing : KDD K pr mg "MARKS_writing" t_MARKS_writing
  k_RANKS : KDD K pr mg "RANKS" t_RANKS
structure Tx (P : Program) (w : World) (K : PySem.W.Frag) (mg : Str → Option Value) (base : Heap) (n : Nat) : Prop where
  sb : SysB base
  called_text : FnAt MX P w K mg base (xrK K) n "called_text" ["name", "args", "many"] [] (mir n .called_text)
  term_text : FnAt MX P w K mg base (xrK K) n "term_text" ["term", "many"] [] (mir n .term_text)
  is_not : FnAt MX P w K mg base (xrK K) n "is_not" ["a"] [] (mir n .is_not)
  rank_of : FnAt MX P w K mg base (xrK K) n "rank_of" ["a"] [] (mir n .rank_of)
  side_text : FnAt MX P w K mg base (xrK K) n "side_text" ["a", "least", "many"] [] (mir n .side_text)
  statement_text : FnAt MX P w K mg base (xrK K) n "statement_text" ["a", "many"] [] (mir n .statement_text)
  joined : FnAt MX P w K mg base (xrK K) n "joined" ["thing", "parts"] [] (mir n .joined)
  is_called : FnAt MX P w K mg base (xrK K) n "is_called" ["word"] [] (mir n .is_called)
  number_of : FnAt MX P w K mg base (xrK K) n "number_of" ["word"] [] (mir n .number_of)
  run_at : FnAt MX P w K mg base (xrK K) n "run_at" ["text", "at"] [] (mir n .run_at)
  run_word : FnAt MX P w K mg base (xrK K) n "run_word" ["run"] [] (mir n .run_word)
  words_of : FnAt MX P w K mg base (xrK K) n "words_of" ["text"] [] (mir n .words_of)
  reader_of : FnAt MX P w K mg base (xrK K) n "reader_of" ["text", "many", "most"] [] (mir n .reader_of)
  small_one : FnAt MX P w K mg base (xrK K) n "small_one" ["text", "many", "task"] [] (mir n .small_one)
  read_term : FnAt MX P w K mg base (xrK K) n "read_term" ["text", "many"] [] (mir n .read_term)
  read_statement : FnAt MX P w K mg base (xrK K) n "read_statement" ["text", "many"] [] (mir n .read_statement)
  _law_cell : FnAt MX P w K mg base (xrK K) n "_law_cell" ["_law_cells", "_law_spot"] [] (mir n ._law_cell)
  _law_name : FnAt MX P w K mg base (xrK K) n "_law_name" ["_law_n"] [] (mir n ._law_name)
  _law_term : FnAt MX P w K mg base (xrK K) n "_law_term" ["_law_cells", "_law_spot", "_law_deep", "_law_many"] [] (mir n ._law_term)
  _law_statement : FnAt MX P w K mg base (xrK K) n "_law_statement" ["_law_cells", "_law_spot", "_law_deep", "_law_many"] [] (mir n ._law_statement)
  _law_called : FnAt MX P w K mg base (xrK K) n "_law_called" ["_law_name_here", "_law_args", "_law_many"] [] (mir n ._law_called)
  _law_term_text : FnAt MX P w K mg base (xrK K) n "_law_term_text" ["_law_term_here", "_law_many"] [] (mir n ._law_term_text)
  _law_rank : FnAt MX P w K mg base (xrK K) n "_law_rank" ["_law_a"] [] (mir n ._law_rank)
  _law_side : FnAt MX P w K mg base (xrK K) n "_law_side" ["_law_a", "_law_least", "_law_many", "_law_more"] [] (mir n ._law_side)
  _law_text : FnAt MX P w K mg base (xrK K) n "_law_text" ["_law_a", "_law_many", "_law_more"] [] (mir n ._law_text)
  _law_size : FnAt MX P w K mg base (xrK K) n "_law_size" ["_law_a"] [] (mir n ._law_size)
  Reader_work : MeAt P w K mg base (xrK K) n "Reader" "work" ["self", "task"] (mir n .Reader_work)
  Reader_do_term : MeAt P w K mg base (xrK K) n "Reader" "do_term" ["self"] (mir n .Reader_do_term)
  Reader_do_variable : MeAt P w K mg base (xrK K) n "Reader" "do_variable" ["self"] (mir n .Reader_do_variable)
  Reader_do_args : MeAt P w K mg base (xrK K) n "Reader" "do_args" ["self"] (mir n .Reader_do_args)
  Reader_do_more : MeAt P w K mg base (xrK K) n "Reader" "do_more" ["self", "count"] (mir n .Reader_do_more)
  Reader_do_call : MeAt P w K mg base (xrK K) n "Reader" "do_call" ["self", "name"] (mir n .Reader_do_call)
  Reader_do_rel : MeAt P w K mg base (xrK K) n "Reader" "do_rel" ["self", "name"] (mir n .Reader_do_rel)
  Reader_do_same : MeAt P w K mg base (xrK K) n "Reader" "do_same" ["self"] (mir n .Reader_do_same)
  Reader_do_statement : MeAt P w K mg base (xrK K) n "Reader" "do_statement" ["self"] (mir n .Reader_do_statement)
  Reader_do_bound : MeAt P w K mg base (xrK K) n "Reader" "do_bound" ["self", "word"] (mir n .Reader_do_bound)
  Reader_do_level : MeAt P w K mg base (xrK K) n "Reader" "do_level" ["self", "at"] (mir n .Reader_do_level)
  Reader_do_rest : MeAt P w K mg base (xrK K) n "Reader" "do_rest" ["self", "at"] (mir n .Reader_do_rest)
  Reader_do_not : MeAt P w K mg base (xrK K) n "Reader" "do_not" ["self"] (mir n .Reader_do_not)
  Reader_work_plain : MeAt P w K mg base (xrK K) n "Reader" "work_plain" ["self", "task"] (mir n .Reader_work_plain)
  Reader_work_made : MeAt P w K mg base (xrK K) n "Reader" "work_made" ["self", "task"] (mir n .Reader_work_made)
  Reader_run : MeAt P w K mg base (xrK K) n "Reader" "run" ["self", "tasks"] (mir n .Reader_run)
  mk_Reader : MkAt P w K mg base (xrK K) n "Reader" ["self", "words", "length", "many"] (mirI n .Reader___init__)
  ini_Reader : MkAt P w K mg base (xrK K) (n + 1) "Reader" ["self", "words", "length", "many"] (mir n .Reader___init__)
  Reader_now : MeAt P w K mg base (xrK K) n "Reader" "now" ["self"] (mir n .Reader_now)
  Reader_is_mark : MeAt P w K mg base (xrK K) n "Reader" "is_mark" ["self", "sign"] (mir n .Reader_is_mark)
  Reader_is_told : MeAt P w K mg base (xrK K) n "Reader" "is_told" ["self", "word"] (mir n .Reader_is_told)
  Reader_go_on : MeAt P w K mg base (xrK K) n "Reader" "go_on" ["self"] (mir n .Reader_go_on)
  Reader_need_word : MeAt P w K mg base (xrK K) n "Reader" "need_word" ["self", "kind", "word"] (mir n .Reader_need_word)
  Reader_need_kind : MeAt P w K mg base (xrK K) n "Reader" "need_kind" ["self", "kind"] (mir n .Reader_need_kind)
  Reader_plan : MeAt P w K mg base (xrK K) n "Reader" "plan" ["self", "tasks"] (mir n .Reader_plan)
  Reader_pop_many : MeAt P w K mg base (xrK K) n "Reader" "pop_many" ["self", "count"] (mir n .Reader_pop_many)
  Reader_make : MeAt P w K mg base (xrK K) n "Reader" "make" ["self", "word", "count"] (mir n .Reader_make)
  Reader_make_call : MeAt P w K mg base (xrK K) n "Reader" "make_call" ["self", "word", "name", "count"] (mir n .Reader_make_call)
  Reader_make_bound : MeAt P w K mg base (xrK K) n "Reader" "make_bound" ["self", "word", "sort"] (mir n .Reader_make_bound)
  Reader_make_not : MeAt P w K mg base (xrK K) n "Reader" "make_not" ["self"] (mir n .Reader_make_not)
section
variable {P : Program} {w : World} {K : PySem.W.Frag} {mg : Str → Option Value} {base : Heap} {n : Nat} {C_Reader : Addr}
theorem d_called_text (T : Tt K mg w.params C_Reader) (H : Tx P w K mg base n) : FnAt MX P w K mg base (xrK K) (n + 1) "called_text" ["name", "args", "many"] [] (fnM 4 (m_called_text (mir n))) := by
 refine fnAt_succ T.called_text sc_called_text (fun f cdv A outer s Hp E hr hgu => ?_)
 have p := pc_def (P := P) (w := w) (K := K) (mg := mg) (base := base) (outer := outer) (H := Hp) (E := E) sc_called_text hr hgu
 exact (dss_cons (ds_if (Cp.dt (cp_eq0 p.toPl) (de_var 1) (de_tup da_nil) (nomark _)) (dss_one (ds_ret (de_var 0))) dss_nil)
  (dss_one (ds_ret (de_add p.toPl (de_add p.toPl (de_add p.toPl (de_var 0) de_str) (de_join p.toPl (de_lc (own := [("one", 3)]) p.c p.toPl.nds (fun _ => blkOk_by (N := ["name", "args", "many", "one"]) (sc := defScope s_called_text) (by decide +kernel)) (di_any p.toPl (de_var 1)) (dg_name (p.blk _).toPl.nds (fun _ => rfl) (fun _ => by first | exact Or.inl rfl | exact Or.inr rfl)) dts_nil (de_fn (p.blk _) H.term_text (da_es (de_var 3) (da_es (de_var 2) da_nil)) (len_cons (len_cons (fun _ _ _ h => len_nil h))))))) de_str))))
theorem d_term_text (T : Tt K mg w.params C_Reader) (H : Tx P w K mg base n) : FnAt MX P w K mg base (xrK K) (n + 1) "term_text" ["term", "many"] [] (fnM 2 (m_term_text (mir n))) := by
 refine fnAt_succ T.term_text sc_term_text (fun f cdv A outer s Hp E hr hgu => ?_)
 have p := pc_def (P := P) (w := w) (K := K) (mg := mg) (base := base) (outer := outer) (H := Hp) (E := E) sc_term_text hr hgu
 exact (dss_cons (ds_if (Cp.dt (cp_eq p.toPl) (de_ixA p.toPl (de_var 0) de_int) de_str (nomark _)) (dss_one (ds_ret (de_add p.toPl de_str (Fb.de fb_str p.toPl T.b_str (da_rd (de_sub (de_sub (de_var 1) de_int) (de_ixA p.toPl (de_var 0) de_int)) da_nil))))) dss_nil)
  (dss_one (ds_ret (de_fn p H.called_text (da_es (de_ixA p.toPl (de_var 0) de_int) (da_es (de_ixA p.toPl (de_var 0) de_int) (da_es (de_var 1) da_nil))) (len_cons (len_cons (len_cons (fun _ _ _ h => len_nil h))))))))
theorem d_is_not (T : Tt K mg w.params C_Reader) (H : Tx P w K mg base n) : FnAt MX P w K mg base (xrK K) (n + 1) "is_not" ["a"] [] (fnM 1 (m_is_not (mir n))) := by
 refine fnAt_succ T.is_not sc_is_not (fun f cdv A outer s Hp E hr hgu => ?_)
 have p := pc_def (P := P) (w := w) (K := K) (mg := mg) (base := base) (outer := outer) (H := Hp) (E := E) sc_is_not hr hgu
 exact (dss_one (ds_ret (de_and (Cp.de (cp_eq p.toPl) (de_ixA p.toPl (de_var 0) de_int) de_str (nomark _)) (de_one (Cp.de (cp_eq p.toPl) (de_ixA p.toPl (de_var 0) de_int) (de_const p.toPl T.c_NO_writing) (nomark _))))))
theorem d_rank_of (T : Tt K mg w.params C_Reader) (H : Tx P w K mg base n) : FnAt MX P w K mg base (xrK K) (n + 1) "rank_of" ["a"] [] (fnM 1 (m_rank_of (mir n))) := by
 refine fnAt_succ T.rank_of sc_rank_of (fun f cdv A outer s Hp E hr hgu => ?_)
 have p := pc_def (P := P) (w := w) (K := K) (mg := mg) (base := base) (outer := outer) (H := Hp) (E := E) sc_rank_of hr hgu
 exact (dss_one (ds_ret (de_if (dt_tru p.toPl (de_fn p H.is_not (da_es (de_var 0) da_nil) (len_cons (fun _ _ _ h => len_nil h)))) (de_const p.toPl T.c_NOT_RANK) (de_kget p.toPl p.pw T.k_RANKS (de_ixA p.toPl (de_var 0) de_int) (de_const p.toPl T.c_MOST_RANK) (fun _ => ⟨rfl, rfl, rfl, rfl⟩)))))
theorem d_side_text (T : Tt K mg w.params C_Reader) (H : Tx P w K mg base n) : FnAt MX P w K mg base (xrK K) (n + 1) "side_text" ["a", "least", "many"] [] (fnM 4 (m_side_text (mir n))) := by
 refine fnAt_succ T.side_text sc_side_text (fun f cdv A outer s Hp E hr hgu => ?_)
 have p := pc_def (P := P) (w := w) (K := K) (mg := mg) (base := base) (outer := outer) (H := Hp) (E := E) sc_side_text hr hgu
 exact (dss_cons (ds_set (i := 3) p.toPl.nds (fun _ => rfl) (fun _ => by first | exact Or.inl rfl | exact Or.inr rfl) (de_fn p H.statement_text (da_es (de_var 0) (da_es (de_var 2) da_nil)) (len_cons (len_cons (fun _ _ _ h => len_nil h)))))
  (dss_one (ds_ret (de_if (Cp.dt cp_lt (de_fn p H.rank_of (da_es (de_var 0) da_nil) (len_cons (fun _ _ _ h => len_nil h))) (de_var 1) (nomark _)) (de_add p.toPl (de_add p.toPl de_str (de_var 3)) de_str) (de_var 3)))))
theorem d_statement_text (T : Tt K mg w.params C_Reader) (H : Tx P w K mg base n) : FnAt MX P w K mg base (xrK K) (n + 1) "statement_text" ["a", "many"] [] (fnM 4 (m_statement_text (mir n))) := by
 refine fnAt_succ T.statement_text sc_statement_text (fun f cdv A outer s Hp E hr hgu => ?_)
 have p := pc_def (P := P) (w := w) (K := K) (mg := mg) (base := base) (outer := outer) (H := Hp) (E := E) sc_statement_text hr hgu
 exact (dss_cons (ds_if (Cp.dt (cp_in p.toPl) (de_ixA p.toPl (de_var 0) de_int) (de_tup (da_es de_str (da_es de_str da_nil))) rfl) (dss_one (ds_ret (de_add p.toPl (de_add p.toPl (de_add p.toPl (de_add p.toPl (de_add p.toPl (de_add p.toPl (de_ixA p.toPl (de_var 0) de_int) de_str) (Fb.de fb_str p.toPl T.b_str (da_rd (de_var 1) da_nil))) de_str) (de_ixA p.toPl (de_var 0) de_int)) de_str) (de_fn p H.statement_text (da_es (de_ixA p.toPl (de_var 0) de_int) (da_es (de_add p.toPl (de_var 1) de_int) da_nil)) (len_cons (len_cons (fun _ _ _ h => len_nil h))))))) dss_nil)
  (dss_cons (ds_if (dt_tru p.toPl (de_fn p H.is_not (da_es (de_var 0) da_nil) (len_cons (fun _ _ _ h => len_nil h)))) (dss_one (ds_ret (de_add p.toPl de_str (de_fn p H.side_text (da_es (de_ixA p.toPl (de_var 0) de_int) (da_es (de_const p.toPl T.c_NOT_RANK) (da_es (de_var 1) da_nil))) (len_cons (len_cons (len_cons (fun _ _ _ h => len_nil h)))))))) dss_nil)
  (dss_cons (ds_if (Cp.dt (cp_eq p.toPl) (de_ixA p.toPl (de_var 0) de_int) de_str (nomark _)) (dss_one (ds_ret (de_fn p H.called_text (da_es (de_ixA p.toPl (de_var 0) de_int) (da_es (de_ixA p.toPl (de_var 0) de_int) (da_es (de_var 1) da_nil))) (len_cons (len_cons (len_cons (fun _ _ _ h => len_nil h))))))) dss_nil)
  (dss_cons (ds_if (Cp.dt (cp_eq p.toPl) (de_ixA p.toPl (de_var 0) de_int) de_str (nomark _)) (dss_one (ds_ret (de_add p.toPl (de_add p.toPl (de_fn p H.term_text (da_es (de_ixA p.toPl (de_var 0) de_int) (da_es (de_var 1) da_nil)) (len_cons (len_cons (fun _ _ _ h => len_nil h)))) de_str) (de_fn p H.term_text (da_es (de_ixA p.toPl (de_var 0) de_int) (da_es (de_var 1) da_nil)) (len_cons (len_cons (fun _ _ _ h => len_nil h))))))) dss_nil)
  (dss_cons (ds_if (Cp.dt (cp_eq p.toPl) (de_var 0) (de_const p.toPl T.c_NO_writing) (nomark _)) (dss_one (ds_ret de_str)) dss_nil)
  (dss_cons (ds_set (i := 2) p.toPl.nds (fun _ => rfl) (fun _ => by first | exact Or.inl rfl | exact Or.inr rfl) (de_kix p.toPl p.pw T.k_RANKS (de_ixA p.toPl (de_var 0) de_int)))
  (dss_cons (ds_set (i := 3) p.toPl.nds (fun _ => rfl) (fun _ => by first | exact Or.inl rfl | exact Or.inr rfl) (de_fn p H.side_text (da_es (de_ixA p.toPl (de_var 0) de_int) (da_es (de_add p.toPl (de_var 2) (Fb.de fb_int p.toPl T.b_int (da_rd (Cp.de (cp_eq p.toPl) (de_ixA p.toPl (de_var 0) de_int) de_str (nomark _)) da_nil))) (da_es (de_var 1) da_nil))) (len_cons (len_cons (len_cons (fun _ _ _ h => len_nil h))))))
  (dss_one (ds_ret (de_add p.toPl (de_add p.toPl (de_var 3) (de_kix p.toPl p.pw T.k_MARKS_writing (de_ixA p.toPl (de_var 0) de_int))) (de_fn p H.side_text (da_es (de_ixA p.toPl (de_var 0) de_int) (da_es (de_add p.toPl (de_var 2) (Fb.de fb_int p.toPl T.b_int (da_rd (Cp.de (cp_ne p.toPl) (de_ixA p.toPl (de_var 0) de_int) de_str (nomark _)) da_nil))) (da_es (de_var 1) da_nil))) (len_cons (len_cons (len_cons (fun _ _ _ h => len_nil h)))))))))))))))
theorem d_joined (T : Tt K mg w.params C_Reader) (H : Tx P w K mg base n) : FnAt MX P w K mg base (xrK K) (n + 1) "joined" ["thing", "parts"] [] (fnM 3 (m_joined (mir n))) := by
 refine fnAt_succ T.joined sc_joined (fun f cdv A outer s Hp E hr hgu => ?_)
 have p := pc_def (P := P) (w := w) (K := K) (mg := mg) (base := base) (outer := outer) (H := Hp) (E := E) sc_joined hr hgu
 exact (dss_one (ds_ret (de_tup (da_es (de_var 0) (da_es (de_add p.toPl de_int (Fb.de (fb_sum p.toPl) p.toPl T.b_sum (da_rd (de_lc (own := [("one", 2)]) p.c p.toPl.nds (fun _ => blkOk_by (N := ["thing", "parts", "one"]) (sc := defScope s_joined) (by decide +kernel)) (di_any p.toPl (de_var 1)) (dg_name (p.blk _).toPl.nds (fun _ => rfl) (fun _ => by first | exact Or.inl rfl | exact Or.inr rfl)) dts_nil (de_ixA (p.blk _).toPl (de_var 2) de_int)) da_nil))) (da_es (de_add p.toPl de_int (Fb.de (fb_max p.toPl) p.toPl T.b_max (da_rd (de_add p.toPl (de_lst (da_es de_int da_nil)) (de_lc (own := [("one", 2)]) p.c p.toPl.nds (fun _ => blkOk_by (N := ["thing", "parts", "one"]) (sc := defScope s_joined) (by decide +kernel)) (di_any p.toPl (de_var 1)) (dg_name (p.blk _).toPl.nds (fun _ => rfl) (fun _ => by first | exact Or.inl rfl | exact Or.inr rfl)) dts_nil (de_ixA (p.blk _).toPl (de_var 2) de_int))) da_nil))) da_nil))))))
theorem d_is_called (T : Tt K mg w.params C_Reader) (H : Tx P w K mg base n) : FnAt MX P w K mg base (xrK K) (n + 1) "is_called" ["word"] [] (fnM 2 (m_is_called (mir n))) := by
 refine fnAt_succ T.is_called sc_is_called (fun f cdv A outer s Hp E hr hgu => ?_)
 have p := pc_def (P := P) (w := w) (K := K) (mg := mg) (base := base) (outer := outer) (H := Hp) (E := E) sc_is_called hr hgu
 exact (dss_cons (ds_if (dt_w (dw_or (dt_not (Cp.chainT cp_le cp_le de_int (Fb.de (fb_len p.toPl) p.toPl T.b_len (da_rd (de_var 0) da_nil)) (de_const p.toPl T.c_MOST_LETTERS))) (dw_or (Cp.dt (cp_notIn p.toPl) (de_ixA p.toPl (de_var 0) de_int) (de_const p.toPl T.c_SMALL) rfl) (dw_or (Cp.dt (cp_in p.toPl) (de_var 0) (de_const p.toPl T.c_TOLD) rfl) (dw_or1 (Cp.dt (cp_in p.toPl) (de_var 0) (de_const p.toPl T.c_FORMS) rfl)))))) (dss_one (ds_ret de_bl)) dss_nil)
  (dss_one (ds_ret (Fb.de (fb_all p.toPl) p.toPl T.b_all (da_rd (de_lc (own := [("sign", 1)]) p.c p.toPl.nds (fun _ => blkOk_by (N := ["word", "sign"]) (sc := defScope s_is_called) (by decide +kernel)) (di_any p.toPl (de_var 0)) (dg_name (p.blk _).toPl.nds (fun _ => rfl) (fun _ => by first | exact Or.inl rfl | exact Or.inr rfl)) dts_nil (Cp.de (cp_in (p.blk _).toPl) (de_var 1) (de_add (p.blk _).toPl (de_const (p.blk _).toPl T.c_SMALL) (de_const (p.blk _).toPl T.c_FIGURES)) rfl)) da_nil)))))
theorem d_number_of (T : Tt K mg w.params C_Reader) (H : Tx P w K mg base n) : FnAt MX P w K mg base (xrK K) (n + 1) "number_of" ["word"] [] (fnM 2 (m_number_of (mir n))) := by
 refine fnAt_succ T.number_of sc_number_of (fun f cdv A outer s Hp E hr hgu => ?_)
 have p := pc_def (P := P) (w := w) (K := K) (mg := mg) (base := base) (outer := outer) (H := Hp) (E := E) sc_number_of hr hgu
 exact (dss_cons (ds_if (dt_w (dw_or (dt_not (Cp.chainT cp_le cp_le de_int (Fb.de (fb_len p.toPl) p.toPl T.b_len (da_rd (de_var 0) da_nil)) (de_const p.toPl T.c_MOST_FIGURES))) (dw_or1 (dt_w (dw_and (Cp.dt (cp_eq p.toPl) (de_ixA p.toPl (de_var 0) de_int) de_str (nomark _)) (dw_and1 (Cp.dt (cp_ne p.toPl) (de_var 0) de_str (nomark _)))))))) (dss_one (ds_ret de_non)) dss_nil)
  (dss_one (ds_ret (de_if (dt_tru p.toPl (Fb.de (fb_all p.toPl) p.toPl T.b_all (da_rd (de_lc (own := [("sign", 1)]) p.c p.toPl.nds (fun _ => blkOk_by (N := ["word", "sign"]) (sc := defScope s_number_of) (by decide +kernel)) (di_any p.toPl (de_var 0)) (dg_name (p.blk _).toPl.nds (fun _ => rfl) (fun _ => by first | exact Or.inl rfl | exact Or.inr rfl)) dts_nil (Cp.de (cp_in (p.blk _).toPl) (de_var 1) (de_const (p.blk _).toPl T.c_FIGURES) rfl)) da_nil))) (Fb.de fb_intS p.toPl T.b_int (da_rd (de_var 0) da_nil)) de_non))))
theorem d_run_at (T : Tt K mg w.params C_Reader) (H : Tx P w K mg base n) : FnAt MX P w K mg base (xrK K) (n + 1) "run_at" ["text", "at"] [] (fnM 2 (m_run_at (mir n))) := by
 refine fnAt_succ T.run_at sc_run_at (fun f cdv A outer s Hp E hr hgu => ?_)
 have p := pc_def (P := P) (w := w) (K := K) (mg := mg) (base := base) (outer := outer) (H := Hp) (E := E) sc_run_at hr hgu
 exact (dss_cons (ds_while whileN own_def (dt_w (dw_and (Cp.dt cp_lt (de_var 1) (Fb.de (fb_len p.toPl) p.toPl T.b_len (da_rd (de_var 0) da_nil)) (nomark _)) (dw_and1 (Cp.dt (cp_in p.toPl) (de_ixA p.toPl (de_var 0) (de_var 1)) (de_add p.toPl (de_add p.toPl (de_const p.toPl T.c_SMALL) (de_const p.toPl T.c_FIGURES)) de_str) rfl)))) (dss_one (ds_set (i := 1) p.toPl.nds (fun _ => rfl) (fun _ => by first | exact Or.inl rfl | exact Or.inr rfl) (de_add p.toPl (de_var 1) de_int))))
  (dss_one (ds_ret (de_var 1))))
theorem d_run_word (T : Tt K mg w.params C_Reader) (H : Tx P w K mg base n) : FnAt MX P w K mg base (xrK K) (n + 1) "run_word" ["run"] [] (fnM 1 (m_run_word (mir n))) := by
 refine fnAt_succ T.run_word sc_run_word (fun f cdv A outer s Hp E hr hgu => ?_)
 have p := pc_def (P := P) (w := w) (K := K) (mg := mg) (base := base) (outer := outer) (H := Hp) (E := E) sc_run_word hr hgu
 exact (dss_cons (ds_if (dt_w (dw_or (Cp.dt (cp_in p.toPl) (de_var 0) (de_const p.toPl T.c_TOLD) rfl) (dw_or1 (Cp.dt (cp_in p.toPl) (de_var 0) (de_const p.toPl T.c_FORMS) rfl)))) (dss_one (ds_ret (de_tup (da_es de_str (da_es (de_var 0) da_nil))))) dss_nil)
  (dss_cons (ds_if (dt_tru p.toPl (de_fn p H.is_called (da_es (de_var 0) da_nil) (len_cons (fun _ _ _ h => len_nil h)))) (dss_one (ds_ret (de_tup (da_es de_str (da_es (de_var 0) da_nil))))) dss_nil)
  (dss_cons (ds_if (Cp.dt cp_isNot (de_fn p H.number_of (da_es (de_var 0) da_nil) (len_cons (fun _ _ _ h => len_nil h))) de_non (nomark _)) (dss_one (ds_ret (de_tup (da_es de_str (da_es (de_fn p H.number_of (da_es (de_var 0) da_nil) (len_cons (fun _ _ _ h => len_nil h))) da_nil))))) dss_nil)
  (dss_cons (ds_if (dt_w (dw_and (Cp.dt (cp_eq p.toPl) (de_ixA p.toPl (de_var 0) de_int) de_str (nomark _)) (dw_and1 (Cp.dt cp_isNot (de_fn p H.number_of (da_es (de_sl p.toPl (de_var 0) (do_some de_int) do_none) da_nil) (len_cons (fun _ _ _ h => len_nil h))) de_non (nomark _))))) (dss_one (ds_ret (de_tup (da_es de_str (da_es (de_fn p H.number_of (da_es (de_sl p.toPl (de_var 0) (do_some de_int) do_none) da_nil) (len_cons (fun _ _ _ h => len_nil h))) da_nil))))) dss_nil)
  (dss_one (ds_ret de_non))))))
theorem d_words_of (T : Tt K mg w.params C_Reader) (H : Tx P w K mg base n) : FnAt MX P w K mg base (xrK K) (n + 1) "words_of" ["text"] [] (fnM 5 (m_words_of (mir n))) := by
 refine fnAt_succ T.words_of sc_words_of (fun f cdv A outer s Hp E hr hgu => ?_)
 have p := pc_def (P := P) (w := w) (K := K) (mg := mg) (base := base) (outer := outer) (H := Hp) (E := E) sc_words_of hr hgu
 exact (dss_cons (ds_set (i := 1) p.toPl.nds (fun _ => rfl) (fun _ => by first | exact Or.inl rfl | exact Or.inr rfl) (de_lst da_nil))
  (dss_cons (ds_set (i := 2) p.toPl.nds (fun _ => rfl) (fun _ => by first | exact Or.inl rfl | exact Or.inr rfl) de_int)
  (dss_cons (ds_while whileN own_def (Cp.dt cp_lt (de_var 2) (Fb.de (fb_len p.toPl) p.toPl T.b_len (da_rd (de_var 0) da_nil)) (nomark _)) (dss_cons (ds_set (i := 3) p.toPl.nds (fun _ => rfl) (fun _ => by first | exact Or.inl rfl | exact Or.inr rfl) (de_fn p H.run_at (da_es (de_var 0) (da_es (de_var 2) da_nil)) (len_cons (len_cons (fun _ _ _ h => len_nil h)))))
  (dss_cons (ds_if (Cp.dt cp_gt (de_var 3) (de_var 2) (nomark _)) (dss_cons (ds_set (i := 4) p.toPl.nds (fun _ => rfl) (fun _ => by first | exact Or.inl rfl | exact Or.inr rfl) (de_fn p H.run_word (da_es (de_sl p.toPl (de_var 0) (do_some (de_var 2)) (do_some (de_var 3))) da_nil) (len_cons (fun _ _ _ h => len_nil h))))
  (dss_one (ds_expr (de_append (i := 1) p.k (fun _ => rfl) (fun _ => by first | exact Or.inl rfl | exact Or.inr (Or.inl rfl) | exact Or.inr (Or.inr rfl)) (by decide) (by decide) (de_if (Cp.dt cp_is (de_var 4) de_non (nomark _)) (de_tup (da_es de_str (da_es de_str (da_es (de_var 2) da_nil)))) (de_add p.toPl (de_var 4) (de_tup (da_es (de_var 2) da_nil)))))))) (dss_one (ds_if (Cp.dt (cp_eq p.toPl) (de_sl p.toPl (de_var 0) (do_some (de_var 2)) (do_some (de_add p.toPl (de_var 2) de_int))) de_str (nomark _)) (dss_cons (ds_set (i := 3) p.toPl.nds (fun _ => rfl) (fun _ => by first | exact Or.inl rfl | exact Or.inr rfl) (de_add p.toPl (de_var 2) de_int))
  (dss_one (ds_expr (de_append (i := 1) p.k (fun _ => rfl) (fun _ => by first | exact Or.inl rfl | exact Or.inr (Or.inl rfl) | exact Or.inr (Or.inr rfl)) (by decide) (by decide) (de_tup (da_es de_str (da_es de_str (da_es (de_var 2) da_nil)))))))) (dss_one (ds_if (Cp.dt (cp_in p.toPl) (de_ixA p.toPl (de_var 0) (de_var 2)) (de_const p.toPl T.c_MARKS_words) rfl) (dss_cons (ds_set (i := 3) p.toPl.nds (fun _ => rfl) (fun _ => by first | exact Or.inl rfl | exact Or.inr rfl) (de_add p.toPl (de_var 2) de_int))
  (dss_one (ds_expr (de_append (i := 1) p.k (fun _ => rfl) (fun _ => by first | exact Or.inl rfl | exact Or.inr (Or.inl rfl) | exact Or.inr (Or.inr rfl)) (by decide) (by decide) (de_tup (da_es de_str (da_es (de_ixA p.toPl (de_var 0) (de_var 2)) (da_es (de_var 2) da_nil)))))))) (dss_one (ds_if (Cp.dt (cp_eq p.toPl) (de_ixA p.toPl (de_var 0) (de_var 2)) de_str (nomark _)) (dss_one (ds_set (i := 3) p.toPl.nds (fun _ => rfl) (fun _ => by first | exact Or.inl rfl | exact Or.inr rfl) (de_add p.toPl (de_var 2) de_int))) (dss_one (ds_expr (de_append (i := 1) p.k (fun _ => rfl) (fun _ => by first | exact Or.inl rfl | exact Or.inr (Or.inl rfl) | exact Or.inr (Or.inr rfl)) (by decide) (by decide) (de_tup (da_es de_str (da_es de_str (da_es (de_var 2) da_nil))))))))))))))
  (dss_cons (ds_if (dt_w (dw_and (Cp.dt (cp_ne0 p.toPl) (de_var 1) (de_lst da_nil) (nomark _)) (dw_and1 (Cp.dt (cp_eq p.toPl) (de_ixA p.toPl (de_ixA p.toPl (de_var 1) (de_neg de_int)) de_int) de_str (nomark _))))) (dss_one (ds_ret (de_var 1))) dss_nil)
  (dss_one (ds_set (i := 2) p.toPl.nds (fun _ => rfl) (fun _ => by first | exact Or.inl rfl | exact Or.inr rfl) (de_var 3)))))))
  (dss_one (ds_ret (de_var 1))))))
theorem d_reader_of (T : Tt K mg w.params C_Reader) (H : Tx P w K mg base n) : FnAt MX P w K mg base (xrK K) (n + 1) "reader_of" ["text", "many", "most"] [] (fnM 3 (m_reader_of (mir n) (mirI n))) := by
 refine fnAt_succ T.reader_of sc_reader_of (fun f cdv A outer s Hp E hr hgu => ?_)
 have p := pc_def (P := P) (w := w) (K := K) (mg := mg) (base := base) (outer := outer) (H := Hp) (E := E) sc_reader_of hr hgu
 exact (dss_cons (ds_if (dt_w (dw_or (dt_not (dt_tru p.toPl (de_isi p.toPl T.b_isinstance T.b_str PyProof.Rows.boot_str (de_var 0)))) (dw_or1 (Cp.dt cp_gt (Fb.de (fb_len p.toPl) p.toPl T.b_len (da_rd (de_var 0) da_nil)) (de_var 2) (nomark _))))) (dss_one ds_bad) dss_nil)
  (dss_one (ds_ret (de_make p H.mk_Reader (da_es (de_fn p H.words_of (da_es (de_var 0) da_nil) (len_cons (fun _ _ _ h => len_nil h))) (da_es (Fb.de (fb_len p.toPl) p.toPl T.b_len (da_rd (de_var 0) da_nil)) (da_es (de_var 1) da_nil))) (fun z ss z1 h => congrArg (· + 1) ((len_cons (len_cons (len_cons (fun _ _ _ h => len_nil h)))) z ss z1 h))))))
theorem d_small_one (T : Tt K mg w.params C_Reader) (H : Tx P w K mg base n) : FnAt MX P w K mg base (xrK K) (n + 1) "small_one" ["text", "many", "task"] [] (fnM 6 (m_small_one (mir n))) := by
 refine fnAt_succ T.small_one sc_small_one (fun f cdv A outer s Hp E hr hgu => ?_)
 have p := pc_def (P := P) (w := w) (K := K) (mg := mg) (base := base) (outer := outer) (H := Hp) (E := E) sc_small_one hr hgu
 exact (dss_cons (ds_asg (de_meth p H.Reader_run (de_fn p H.reader_of (da_es (de_var 0) (da_es (de_var 1) (da_es (de_const p.toPl T.c_MOST_SIGNS) da_nil))) (len_cons (len_cons (len_cons (fun _ _ _ h => len_nil h))))) (da_es (de_lst (da_es (de_tup (da_es (de_var 2) da_nil)) da_nil)) da_nil) (len_cons (fun _ _ _ h => len_nil h))) (dg_tup p.k p.c (dgs_cons (dg_name p.toPl.nds (fun _ => rfl) (fun _ => by first | exact Or.inl rfl | exact Or.inr rfl)) (dgs_cons (dg_name p.toPl.nds (fun _ => rfl) (fun _ => by first | exact Or.inl rfl | exact Or.inr rfl)) (dgs_cons (dg_name p.toPl.nds (fun _ => rfl) (fun _ => by first | exact Or.inl rfl | exact Or.inr rfl)) dgs_nil)))))
  (dss_cons (ds_if (dt_w (dw_or (Cp.dt cp_gt (de_var 4) (de_const p.toPl T.c_MOST_PARTS) (nomark _)) (dw_or1 (Cp.dt cp_gt (de_var 5) (de_const p.toPl T.c_MOST_DEEP) (nomark _))))) (dss_one ds_bad) dss_nil)
  (dss_one (ds_ret (de_var 3)))))
theorem d_read_term (T : Tt K mg w.params C_Reader) (H : Tx P w K mg base n) : FnAt MX P w K mg base (xrK K) (n + 1) "read_term" ["text", "many"] [] (fnM 2 (m_read_term (mir n))) := by
 refine fnAt_succ T.read_term sc_read_term (fun f cdv A outer s Hp E hr hgu => ?_)
 have p := pc_def (P := P) (w := w) (K := K) (mg := mg) (base := base) (outer := outer) (H := Hp) (E := E) sc_read_term hr hgu
 exact (dss_one (ds_ret (de_fn p H.small_one (da_es (de_var 0) (da_es (de_var 1) (da_es de_str da_nil))) (len_cons (len_cons (len_cons (fun _ _ _ h => len_nil h)))))))
theorem d_read_statement (T : Tt K mg w.params C_Reader) (H : Tx P w K mg base n) : FnAt MX P w K mg base (xrK K) (n + 1) "read_statement" ["text", "many"] [] (fnM 2 (m_read_statement (mir n))) := by
 refine fnAt_succ T.read_statement sc_read_statement (fun f cdv A outer s Hp E hr hgu => ?_)
 have p := pc_def (P := P) (w := w) (K := K) (mg := mg) (base := base) (outer := outer) (H := Hp) (E := E) sc_read_statement hr hgu
 exact (dss_one (ds_ret (de_fn p H.small_one (da_es (de_var 0) (da_es (de_var 1) (da_es de_str da_nil))) (len_cons (len_cons (len_cons (fun _ _ _ h => len_nil h)))))))
theorem d__law_cell (T : Tt K mg w.params C_Reader) (H : Tx P w K mg base n) : FnAt MX P w K mg base (xrK K) (n + 1) "_law_cell" ["_law_cells", "_law_spot"] [] (fnM 6 (m__law_cell (mir n))) := by
 refine fnAt_succ T._law_cell sc__law_cell (fun f cdv A outer s Hp E hr hgu => ?_)
 have p := pc_def (P := P) (w := w) (K := K) (mg := mg) (base := base) (outer := outer) (H := Hp) (E := E) sc__law_cell hr hgu
 exact (dss_cons (ds_lput p.toPl (de_add p.toPl (de_ixO p.toPl (de_var 1) de_int) de_int) (de_var 1) de_int)
  (dss_cons (ds_set (i := 2) p.toPl.nds (fun _ => rfl) (fun _ => by first | exact Or.inl rfl | exact Or.inr rfl) (de_ixO p.toPl (de_var 1) de_int))
  (dss_cons (ds_set (i := 3) p.toPl.nds (fun _ => rfl) (fun _ => by first | exact Or.inl rfl | exact Or.inr rfl) (de_add p.toPl (de_mul (de_mul de_int (de_var 2)) (de_var 2)) (de_mul de_int (de_var 2))))
  (dss_cons (ds_if (dt_w (dw_and (Cp.dt cp_gt (Fb.de (fb_len p.toPl) p.toPl T.b_len (da_rd (de_var 0) da_nil)) de_int (nomark _)) (dw_and (Cp.dt cp_ge (de_ixA p.toPl (de_var 0) (de_mod (de_var 2) (Fb.de (fb_len p.toPl) p.toPl T.b_len (da_rd (de_var 0) da_nil)))) (de_pow de_int de_int) (nomark _)) (dw_and1 (Cp.dt cp_lt (de_fdiv (de_var 2) (Fb.de (fb_len p.toPl) p.toPl T.b_len (da_rd (de_var 0) da_nil))) de_int (nomark _)))))) (dss_cons (ds_set (i := 4) p.toPl.nds (fun _ => rfl) (fun _ => by first | exact Or.inl rfl | exact Or.inr rfl) (de_ixA p.toPl (de_var 0) (de_mod (de_var 2) (Fb.de (fb_len p.toPl) p.toPl T.b_len (da_rd (de_var 0) da_nil)))))
  (dss_cons (ds_for own_def p.c (di_range1 p.toPl T.b_range (da_rd (de_fdiv (de_var 2) (Fb.de (fb_len p.toPl) p.toPl T.b_len (da_rd (de_var 0) da_nil))) da_nil)) (dg_name p.toPl.nds (fun _ => rfl) (fun _ => by first | exact Or.inl rfl | exact Or.inr rfl)) (dss_one (ds_set (i := 4) p.toPl.nds (fun _ => rfl) (fun _ => by first | exact Or.inl rfl | exact Or.inr rfl) (de_fdiv (de_var 4) de_int))))
  (dss_one (ds_if (Cp.dt cp_gt (de_var 4) de_int (nomark _)) (dss_one (ds_ret (de_mod (de_var 4) de_int))) dss_nil)))) dss_nil)
  (dss_cons (ds_if (Cp.dt cp_gt (Fb.de (fb_len p.toPl) p.toPl T.b_len (da_rd (de_var 0) da_nil)) de_int (nomark _)) (dss_one (ds_set (i := 3) p.toPl.nds (fun _ => rfl) (fun _ => by first | exact Or.inl rfl | exact Or.inr rfl) (de_add p.toPl (de_var 3) (de_mul (de_ixA p.toPl (de_var 0) (de_mod (de_var 2) (Fb.de (fb_len p.toPl) p.toPl T.b_len (da_rd (de_var 0) da_nil)))) (de_add p.toPl de_int (de_fdiv (de_var 2) (Fb.de (fb_len p.toPl) p.toPl T.b_len (da_rd (de_var 0) da_nil)))))))) dss_nil)
  (dss_one (ds_ret (de_fdiv (de_mod (de_mul (de_var 3) de_int) de_int) de_int))))))))
theorem d__law_name (T : Tt K mg w.params C_Reader) (H : Tx P w K mg base n) : FnAt MX P w K mg base (xrK K) (n + 1) "_law_name" ["_law_n"] [] (fnM 1 (m__law_name (mir n))) := by
 refine fnAt_succ T._law_name sc__law_name (fun f cdv A outer s Hp E hr hgu => ?_)
 have p := pc_def (P := P) (w := w) (K := K) (mg := mg) (base := base) (outer := outer) (H := Hp) (E := E) sc__law_name hr hgu
 exact (dss_one (ds_ret (de_ixA p.toPl (de_lst (da_es de_str (da_es de_str (da_es de_str (da_es de_str (da_es de_str (da_es de_str (da_es de_str (da_es de_str (da_es de_str (da_es de_str da_nil))))))))))) (de_mod (de_var 0) de_int))))
theorem d__law_term (T : Tt K mg w.params C_Reader) (H : Tx P w K mg base n) : FnAt MX P w K mg base (xrK K) (n + 1) "_law_term" ["_law_cells", "_law_spot", "_law_deep", "_law_many"] [] (fnM 7 (m__law_term (mir n))) := by
 refine fnAt_succ T._law_term sc__law_term (fun f cdv A outer s Hp E hr hgu => ?_)
 have p := pc_def (P := P) (w := w) (K := K) (mg := mg) (base := base) (outer := outer) (H := Hp) (E := E) sc__law_term hr hgu
 exact (dss_cons (ds_set (i := 4) p.toPl.nds (fun _ => rfl) (fun _ => by first | exact Or.inl rfl | exact Or.inr rfl) (de_fn p H._law_cell (da_es (de_var 0) (da_es (de_var 1) da_nil)) (len_cons (len_cons (fun _ _ _ h => len_nil h)))))
  (dss_cons (ds_if (dt_w (dw_and (Cp.dt cp_gt (de_var 3) de_int (nomark _)) (dw_and1 (Cp.dt cp_gt (de_mod (de_var 4) de_int) de_int (nomark _))))) (dss_one (ds_ret (de_tup (da_es de_str (da_es (de_mod (de_fdiv (de_var 4) de_int) (de_var 3)) da_nil))))) dss_nil)
  (dss_cons (ds_if (dt_w (dw_or (Cp.dt cp_lt (de_var 2) de_int (nomark _)) (dw_or1 (Cp.dt (cp_eq p.toPl) (de_mod (de_fdiv (de_var 4) de_int) de_int) de_int (nomark _))))) (dss_one (ds_ret (de_tup (da_es de_str (da_es (de_fn p H._law_name (da_es (de_fdiv (de_var 4) de_int) da_nil) (len_cons (fun _ _ _ h => len_nil h))) (da_es (de_tup da_nil) da_nil)))))) dss_nil)
  (dss_cons (ds_setLc (i := 5) (own := [("_law_k", 6)]) p.c p.toPl.nds (fun _ => rfl) (fun _ => rfl) (fun _ => sw_true rfl rfl rfl (by decide +kernel)) (fun _ => blkOk_by (N := ["_law_cells", "_law_spot", "_law_deep", "_law_many", "_law_n", "_law_args", "_law_k"]) (sc := defScope s__law_term) (by decide +kernel)) (di_range1 p.toPl T.b_range (da_rd (de_add p.toPl de_int (de_mod (de_fdiv (de_var 4) de_int) de_int)) da_nil)) (dg_name (p.blk _).toPl.nds (fun _ => rfl) (fun _ => by first | exact Or.inl rfl | exact Or.inr rfl)) dts_nil (de_fn (p.blk _) H._law_term (da_es (de_var 0) (da_es (de_var 1) (da_es (de_sub (de_var 2) de_int) (da_es (de_var 3) da_nil)))) (len_cons (len_cons (len_cons (len_cons (fun _ _ _ h => len_nil h)))))))
  (dss_one (ds_ret (de_tup (da_es de_str (da_es (de_fn p H._law_name (da_es (de_fdiv (de_var 4) de_int) da_nil) (len_cons (fun _ _ _ h => len_nil h))) (da_es (Fb.de (fb_tuple p.toPl) p.toPl T.b_tuple (da_rd (de_var 5) da_nil)) da_nil))))))))))
theorem d__law_statement (T : Tt K mg w.params C_Reader) (H : Tx P w K mg base n) : FnAt MX P w K mg base (xrK K) (n + 1) "_law_statement" ["_law_cells", "_law_spot", "_law_deep", "_law_many"] [] (fnM 9 (m__law_statement (mir n))) := by
 refine fnAt_succ T._law_statement sc__law_statement (fun f cdv A outer s Hp E hr hgu => ?_)
 have p := pc_def (P := P) (w := w) (K := K) (mg := mg) (base := base) (outer := outer) (H := Hp) (E := E) sc__law_statement hr hgu
 exact (dss_cons (ds_set (i := 4) p.toPl.nds (fun _ => rfl) (fun _ => by first | exact Or.inl rfl | exact Or.inr rfl) (de_fn p H._law_cell (da_es (de_var 0) (da_es (de_var 1) da_nil)) (len_cons (len_cons (fun _ _ _ h => len_nil h)))))
  (dss_cons (ds_set (i := 5) p.toPl.nds (fun _ => rfl) (fun _ => by first | exact Or.inl rfl | exact Or.inr rfl) (de_mod (de_var 4) de_int))
  (dss_cons (ds_if (dt_w (dw_or (Cp.dt cp_lt (de_var 2) de_int (nomark _)) (dw_or1 (Cp.dt cp_gt (de_var 5) de_int (nomark _))))) (dss_cons (ds_if (Cp.dt (cp_eq p.toPl) (de_mod (de_fdiv (de_var 4) de_int) de_int) de_int (nomark _)) (dss_one (ds_ret (de_tup (da_es de_str da_nil)))) dss_nil)
  (dss_cons (ds_if (Cp.dt (cp_eq p.toPl) (de_mod (de_fdiv (de_var 4) de_int) de_int) de_int (nomark _)) (dss_one (ds_ret (de_tup (da_es de_str (da_es (de_fn p H._law_term (da_es (de_var 0) (da_es (de_var 1) (da_es de_int (da_es (de_var 3) da_nil)))) (len_cons (len_cons (len_cons (len_cons (fun _ _ _ h => len_nil h)))))) (da_es (de_fn p H._law_term (da_es (de_var 0) (da_es (de_var 1) (da_es de_int (da_es (de_var 3) da_nil)))) (len_cons (len_cons (len_cons (len_cons (fun _ _ _ h => len_nil h)))))) da_nil)))))) dss_nil)
  (dss_cons (ds_setLc (i := 6) (own := [("_law_k", 8)]) p.c p.toPl.nds (fun _ => rfl) (fun _ => rfl) (fun _ => sw_true rfl rfl rfl (by decide +kernel)) (fun _ => blkOk_by (N := ["_law_cells", "_law_spot", "_law_deep", "_law_many", "_law_n", "_law_kind", "_law_args", "_law_one", "_law_k"]) (sc := defScope s__law_statement) (by decide +kernel)) (di_range1 p.toPl T.b_range (da_rd (de_mod (de_fdiv (de_var 4) de_int) de_int) da_nil)) (dg_name (p.blk _).toPl.nds (fun _ => rfl) (fun _ => by first | exact Or.inl rfl | exact Or.inr rfl)) dts_nil (de_fn (p.blk _) H._law_term (da_es (de_var 0) (da_es (de_var 1) (da_es de_int (da_es (de_var 3) da_nil)))) (len_cons (len_cons (len_cons (len_cons (fun _ _ _ h => len_nil h)))))))
  (dss_one (ds_ret (de_tup (da_es de_str (da_es (de_fn p H._law_name (da_es (de_fdiv (de_var 4) de_int) da_nil) (len_cons (fun _ _ _ h => len_nil h))) (da_es (Fb.de (fb_tuple p.toPl) p.toPl T.b_tuple (da_rd (de_var 6) da_nil)) da_nil))))))))) dss_nil)
  (dss_cons (ds_if (Cp.dt cp_lt (de_var 5) de_int (nomark _)) (dss_one (ds_ret (de_tup (da_es (de_ixA p.toPl (de_lst (da_es de_str (da_es de_str da_nil))) (de_var 5)) (da_es (de_fn p H._law_name (da_es (de_fdiv (de_var 4) de_int) da_nil) (len_cons (fun _ _ _ h => len_nil h))) (da_es (de_fn p H._law_statement (da_es (de_var 0) (da_es (de_var 1) (da_es (de_sub (de_var 2) de_int) (da_es (de_add p.toPl (de_var 3) de_int) da_nil)))) (len_cons (len_cons (len_cons (len_cons (fun _ _ _ h => len_nil h)))))) da_nil)))))) dss_nil)
  (dss_cons (ds_set (i := 7) p.toPl.nds (fun _ => rfl) (fun _ => by first | exact Or.inl rfl | exact Or.inr rfl) (de_fn p H._law_statement (da_es (de_var 0) (da_es (de_var 1) (da_es (de_sub (de_var 2) de_int) (da_es (de_var 3) da_nil)))) (len_cons (len_cons (len_cons (len_cons (fun _ _ _ h => len_nil h)))))))
  (dss_cons (ds_if (Cp.dt (cp_eq p.toPl) (de_var 5) de_int (nomark _)) (dss_one (ds_ret (de_tup (da_es de_str (da_es (de_var 7) (da_es (de_tup (da_es de_str da_nil)) da_nil)))))) dss_nil)
  (dss_one (ds_ret (de_tup (da_es (de_ixA p.toPl (de_lst (da_es de_str (da_es de_str (da_es de_str (da_es de_str da_nil))))) (de_sub (de_var 5) de_int)) (da_es (de_var 7) (da_es (de_fn p H._law_statement (da_es (de_var 0) (da_es (de_var 1) (da_es (de_sub (de_var 2) de_int) (da_es (de_var 3) da_nil)))) (len_cons (len_cons (len_cons (len_cons (fun _ _ _ h => len_nil h)))))) da_nil))))))))))))
theorem d__law_called (T : Tt K mg w.params C_Reader) (H : Tx P w K mg base n) : FnAt MX P w K mg base (xrK K) (n + 1) "_law_called" ["_law_name_here", "_law_args", "_law_many"] [] (fnM 4 (m__law_called (mir n))) := by
 refine fnAt_succ T._law_called sc__law_called (fun f cdv A outer s Hp E hr hgu => ?_)
 have p := pc_def (P := P) (w := w) (K := K) (mg := mg) (base := base) (outer := outer) (H := Hp) (E := E) sc__law_called hr hgu
 exact (dss_cons (ds_if (Cp.dt (cp_eq0 p.toPl) (de_var 1) (de_tup da_nil) (nomark _)) (dss_one (ds_ret (de_var 0))) dss_nil)
  (dss_one (ds_ret (de_add p.toPl (de_add p.toPl (de_add p.toPl (de_var 0) de_str) (de_join p.toPl (de_lc (own := [("_law_one", 3)]) p.c p.toPl.nds (fun _ => blkOk_by (N := ["_law_name_here", "_law_args", "_law_many", "_law_one"]) (sc := defScope s__law_called) (by decide +kernel)) (di_any p.toPl (de_var 1)) (dg_name (p.blk _).toPl.nds (fun _ => rfl) (fun _ => by first | exact Or.inl rfl | exact Or.inr rfl)) dts_nil (de_fn (p.blk _) H._law_term_text (da_es (de_var 3) (da_es (de_var 2) da_nil)) (len_cons (len_cons (fun _ _ _ h => len_nil h))))))) de_str))))
theorem d__law_term_text (T : Tt K mg w.params C_Reader) (H : Tx P w K mg base n) : FnAt MX P w K mg base (xrK K) (n + 1) "_law_term_text" ["_law_term_here", "_law_many"] [] (fnM 2 (m__law_term_text (mir n))) := by
 refine fnAt_succ T._law_term_text sc__law_term_text (fun f cdv A outer s Hp E hr hgu => ?_)
 have p := pc_def (P := P) (w := w) (K := K) (mg := mg) (base := base) (outer := outer) (H := Hp) (E := E) sc__law_term_text hr hgu
 exact (dss_cons (ds_if (Cp.dt (cp_eq p.toPl) (de_ixA p.toPl (de_var 0) de_int) de_str (nomark _)) (dss_one (ds_ret (de_add p.toPl de_str (Fb.de fb_str p.toPl T.b_str (da_rd (de_sub (de_sub (de_var 1) de_int) (de_ixA p.toPl (de_var 0) de_int)) da_nil))))) dss_nil)
  (dss_one (ds_ret (de_fn p H._law_called (da_es (de_ixA p.toPl (de_var 0) de_int) (da_es (de_ixA p.toPl (de_var 0) de_int) (da_es (de_var 1) da_nil))) (len_cons (len_cons (len_cons (fun _ _ _ h => len_nil h))))))))
theorem d__law_rank (T : Tt K mg w.params C_Reader) (H : Tx P w K mg base n) : FnAt MX P w K mg base (xrK K) (n + 1) "_law_rank" ["_law_a"] [] (fnM 1 (m__law_rank (mir n))) := by
 refine fnAt_succ T._law_rank sc__law_rank (fun f cdv A outer s Hp E hr hgu => ?_)
 have p := pc_def (P := P) (w := w) (K := K) (mg := mg) (base := base) (outer := outer) (H := Hp) (E := E) sc__law_rank hr hgu
 exact (dss_cons (ds_if (dt_w (dw_and (Cp.dt (cp_eq p.toPl) (de_ixA p.toPl (de_var 0) de_int) de_str (nomark _)) (dw_and1 (Cp.dt (cp_eq p.toPl) (de_ixA p.toPl (de_var 0) de_int) (de_tup (da_es de_str da_nil)) (nomark _))))) (dss_one (ds_ret de_int)) dss_nil)
  (dss_one (ds_ret (de_dget2 p.toPl (de_dispG (dp_cons de_int (dp_cons de_int (dp_cons de_int (dp_cons de_int (dp_cons de_int dp_nil))))) rfl rfl (fun h => nomatch h) (by decide)) (de_ixA p.toPl (de_var 0) de_int) de_int (fun _ => ⟨rfl, rfl, rfl, rfl⟩)))))
theorem d__law_side (T : Tt K mg w.params C_Reader) (H : Tx P w K mg base n) : FnAt MX P w K mg base (xrK K) (n + 1) "_law_side" ["_law_a", "_law_least", "_law_many", "_law_more"] [] (fnM 6 (m__law_side (mir n))) := by
 refine fnAt_succ T._law_side sc__law_side (fun f cdv A outer s Hp E hr hgu => ?_)
 have p := pc_def (P := P) (w := w) (K := K) (mg := mg) (base := base) (outer := outer) (H := Hp) (E := E) sc__law_side hr hgu
 exact (dss_cons (ds_set (i := 4) p.toPl.nds (fun _ => rfl) (fun _ => by first | exact Or.inl rfl | exact Or.inr rfl) (de_fn p H._law_text (da_es (de_var 0) (da_es (de_var 2) (da_es (de_var 3) da_nil))) (len_cons (len_cons (len_cons (fun _ _ _ h => len_nil h))))))
  (dss_cons (ds_set (i := 5) p.toPl.nds (fun _ => rfl) (fun _ => by first | exact Or.inl rfl | exact Or.inr rfl) (de_if (Cp.dtO (cp_ne0 p.toPl) (de_var 3) (de_lst da_nil) (nomark _)) (de_popO p.toPl (de_var 3)) de_int))
  (dss_cons (ds_if (dt_w (dw_or (Cp.dt cp_lt (de_fn p H._law_rank (da_es (de_var 0) da_nil) (len_cons (fun _ _ _ h => len_nil h))) (de_var 1) (nomark _)) (dw_or1 (Cp.dt (cp_eq p.toPl) (de_mod (de_var 5) de_int) de_int (nomark _))))) (dss_one (ds_ret (de_add p.toPl (de_add p.toPl de_str (de_var 4)) de_str))) dss_nil)
  (dss_one (ds_ret (de_var 4))))))
theorem d__law_text (T : Tt K mg w.params C_Reader) (H : Tx P w K mg base n) : FnAt MX P w K mg base (xrK K) (n + 1) "_law_text" ["_law_a", "_law_many", "_law_more"] [] (fnM 7 (m__law_text (mir n))) := by
 refine fnAt_succ T._law_text sc__law_text (fun f cdv A outer s Hp E hr hgu => ?_)
 have p := pc_def (P := P) (w := w) (K := K) (mg := mg) (base := base) (outer := outer) (H := Hp) (E := E) sc__law_text hr hgu
 exact (dss_cons (ds_set (i := 3) p.toPl.nds (fun _ => rfl) (fun _ => by first | exact Or.inl rfl | exact Or.inr rfl) (de_mulS de_str (de_add p.toPl de_int (de_if (Cp.dtO (cp_ne0 p.toPl) (de_var 2) (de_lst da_nil) (nomark _)) (de_fdiv (de_mod (de_popO p.toPl (de_var 2)) de_int) de_int) de_int))))
  (dss_cons (ds_set (i := 4) p.toPl.nds (fun _ => rfl) (fun _ => by first | exact Or.inl rfl | exact Or.inr rfl) (de_fn p H._law_rank (da_es (de_var 0) da_nil) (len_cons (fun _ _ _ h => len_nil h))))
  (dss_cons (ds_if (Cp.dt (cp_eq p.toPl) (de_var 4) de_int (nomark _)) (dss_one (ds_ret (de_add p.toPl (de_add p.toPl (de_add p.toPl (de_add p.toPl (de_add p.toPl (de_add p.toPl (de_add p.toPl (de_add p.toPl (de_ixA p.toPl (de_var 0) de_int) (de_var 3)) de_str) (Fb.de fb_str p.toPl T.b_str (da_rd (de_var 1) da_nil))) de_str) (de_ixA p.toPl (de_var 0) de_int)) de_str) (de_var 3)) (de_fn p H._law_side (da_es (de_ixA p.toPl (de_var 0) de_int) (da_es de_int (da_es (de_add p.toPl (de_var 1) de_int) (da_es (de_var 2) da_nil)))) (len_cons (len_cons (len_cons (len_cons (fun _ _ _ h => len_nil h))))))))) dss_nil)
  (dss_cons (ds_if (Cp.dt (cp_eq p.toPl) (de_var 4) de_int (nomark _)) (dss_one (ds_ret (de_add p.toPl de_str (de_fn p H._law_side (da_es (de_ixA p.toPl (de_var 0) de_int) (da_es de_int (da_es (de_var 1) (da_es (de_var 2) da_nil)))) (len_cons (len_cons (len_cons (len_cons (fun _ _ _ h => len_nil h))))))))) dss_nil)
  (dss_cons (ds_if (Cp.dt (cp_eq p.toPl) (de_ixA p.toPl (de_var 0) de_int) de_str (nomark _)) (dss_one (ds_ret de_str)) dss_nil)
  (dss_cons (ds_if (Cp.dt (cp_eq p.toPl) (de_ixA p.toPl (de_var 0) de_int) de_str (nomark _)) (dss_one (ds_ret (de_fn p H._law_called (da_es (de_ixA p.toPl (de_var 0) de_int) (da_es (de_ixA p.toPl (de_var 0) de_int) (da_es (de_var 1) da_nil))) (len_cons (len_cons (len_cons (fun _ _ _ h => len_nil h))))))) dss_nil)
  (dss_cons (ds_if (Cp.dt (cp_eq p.toPl) (de_ixA p.toPl (de_var 0) de_int) de_str (nomark _)) (dss_one (ds_ret (de_add p.toPl (de_add p.toPl (de_add p.toPl (de_add p.toPl (de_fn p H._law_term_text (da_es (de_ixA p.toPl (de_var 0) de_int) (da_es (de_var 1) da_nil)) (len_cons (len_cons (fun _ _ _ h => len_nil h)))) (de_var 3)) de_str) (de_var 3)) (de_fn p H._law_term_text (da_es (de_ixA p.toPl (de_var 0) de_int) (da_es (de_var 1) da_nil)) (len_cons (len_cons (fun _ _ _ h => len_nil h))))))) dss_nil)
  (dss_cons (ds_set (i := 5) p.toPl.nds (fun _ => rfl) (fun _ => by first | exact Or.inl rfl | exact Or.inr rfl) (de_fn p H._law_side (da_es (de_ixA p.toPl (de_var 0) de_int) (da_es (de_add p.toPl (de_var 4) (Fb.de fb_int p.toPl T.b_int (da_rd (Cp.de (cp_eq p.toPl) (de_var 4) de_int (nomark _)) da_nil))) (da_es (de_var 1) (da_es (de_var 2) da_nil)))) (len_cons (len_cons (len_cons (len_cons (fun _ _ _ h => len_nil h)))))))
  (dss_cons (ds_set (i := 6) p.toPl.nds (fun _ => rfl) (fun _ => by first | exact Or.inl rfl | exact Or.inr rfl) (de_dix p.toPl (de_disp (ks_cons (ks_cons (ks_cons ks_nil))) rfl rfl (fun h => nomatch h) (by decide)) (de_ixA p.toPl (de_var 0) de_int)))
  (dss_one (ds_ret (de_add p.toPl (de_add p.toPl (de_add p.toPl (de_add p.toPl (de_var 5) (de_var 3)) (de_var 6)) (de_var 3)) (de_fn p H._law_side (da_es (de_ixA p.toPl (de_var 0) de_int) (da_es (de_add p.toPl (de_var 4) (Fb.de fb_int p.toPl T.b_int (da_rd (Cp.de cp_gt (de_var 4) de_int (nomark _)) da_nil))) (da_es (de_var 1) (da_es (de_var 2) da_nil)))) (len_cons (len_cons (len_cons (len_cons (fun _ _ _ h => len_nil h))))))))))))))))))
theorem d__law_size (T : Tt K mg w.params C_Reader) (H : Tx P w K mg base n) : FnAt MX P w K mg base (xrK K) (n + 1) "_law_size" ["_law_a"] [] (fnM 3 (m__law_size (mir n))) := by
 refine fnAt_succ T._law_size sc__law_size (fun f cdv A outer s Hp E hr hgu => ?_)
 have p := pc_def (P := P) (w := w) (K := K) (mg := mg) (base := base) (outer := outer) (H := Hp) (E := E) sc__law_size hr hgu
 exact (dss_cons (ds_if (dt_not (dt_tru p.toPl (de_isi p.toPl T.b_isinstance T.b_tuple PyProof.Rows.boot_tuple (de_var 0)))) (dss_one (ds_ret de_int)) dss_nil)
  (dss_cons (ds_set (i := 1) p.toPl.nds (fun _ => rfl) (fun _ => by first | exact Or.inl rfl | exact Or.inr rfl) (Fb.de fb_int p.toPl T.b_int (da_rd (de_and (Cp.de (cp_ne0 p.toPl) (de_var 0) (de_tup da_nil) (nomark _)) (de_one (de_isi p.toPl T.b_isinstance T.b_str PyProof.Rows.boot_str (de_ixA p.toPl (de_var 0) de_int)))) da_nil)))
  (dss_one (ds_ret (de_add p.toPl (de_var 1) (Fb.de (fb_sum p.toPl) p.toPl T.b_sum (da_rd (de_lc (own := [("_law_one", 2)]) p.c p.toPl.nds (fun _ => blkOk_by (N := ["_law_a", "_law_own", "_law_one"]) (sc := defScope s__law_size) (by decide +kernel)) (di_any p.toPl (de_sl p.toPl (de_var 0) (do_some (de_sub de_int (Fb.de fb_int p.toPl T.b_int (da_rd (Cp.de (cp_eq p.toPl) (de_var 1) de_int (nomark _)) da_nil)))) do_none)) (dg_name (p.blk _).toPl.nds (fun _ => rfl) (fun _ => by first | exact Or.inl rfl | exact Or.inr rfl)) dts_nil (de_fn (p.blk _) H._law_size (da_es (de_var 2) da_nil) (len_cons (fun _ _ _ h => len_nil h)))) da_nil)))))))
theorem d_Reader_work (T : Tt K mg w.params C_Reader) (H : Tx P w K mg base n) : MeAt P w K mg base (xrK K) (n + 1) "Reader" "work" ["self", "task"] (fnM 2 (m_Reader_work (mir n))) := by
 refine meAt_succ T.Reader_work sc_Reader_work (fun f cdv A outer s Hp E hr hgu => ?_)
 have p := pc_def (P := P) (w := w) (K := K) (mg := mg) (base := base) (outer := outer) (H := Hp) (E := E) sc_Reader_work hr hgu
 exact (dss_one (ds_if (Cp.dt (cp_eq p.toPl) (de_ixA p.toPl (de_var 1) de_int) de_str (nomark _)) (dss_one (ds_expr de_bad)) (dss_one (ds_if (Cp.dt (cp_eq p.toPl) (de_ixA p.toPl (de_var 1) de_int) de_str (nomark _)) (dss_one (ds_expr de_bad)) (dss_one (ds_if (Cp.dt (cp_eq p.toPl) (de_ixA p.toPl (de_var 1) de_int) de_str (nomark _)) (dss_one (ds_expr de_bad)) (dss_one (ds_if (Cp.dt (cp_eq p.toPl) (de_ixA p.toPl (de_var 1) de_int) de_str (nomark _)) (dss_one (ds_expr de_bad)) (dss_one (ds_if (Cp.dt (cp_eq p.toPl) (de_ixA p.toPl (de_var 1) de_int) de_str (nomark _)) (dss_one (ds_fld p.toPl (cls1 T.cl_Reader T.na_Reader_many) (de_sub (de_fld p.toPl (cls1 T.cl_Reader T.na_Reader_many) (de_var 0)) de_int) (de_var 0))) (dss_one (ds_if (Cp.dt (cp_eq p.toPl) (de_ixA p.toPl (de_var 1) de_int) de_str (nomark _)) (dss_one (ds_expr de_bad)) (dss_one (ds_expr (de_meth p H.Reader_work_plain (de_var 0) (da_es (de_var 1) da_nil) (len_cons (fun _ _ _ h => len_nil h)))))))))))))))))
theorem d_Reader_do_term (T : Tt K mg w.params C_Reader) (H : Tx P w K mg base n) : MeAt P w K mg base (xrK K) (n + 1) "Reader" "do_term" ["self"] (fnM 2 (m_Reader_do_term (mir n))) := by
 refine meAt_succ T.Reader_do_term sc_Reader_do_term (fun f cdv A outer s Hp E hr hgu => ?_)
 have p := pc_def (P := P) (w := w) (K := K) (mg := mg) (base := base) (outer := outer) (H := Hp) (E := E) sc_Reader_do_term hr hgu
 exact (dss_one (ds_if (Cp.dt (cp_eq p.toPl) (de_ixA p.toPl (de_meth0 p H.Reader_now (de_var 0)) de_int) de_str (nomark _)) (dss_one (ds_expr (de_meth0 p H.Reader_do_variable (de_var 0)))) (dss_cons (ds_set (i := 1) p.toPl.nds (fun _ => rfl) (fun _ => by first | exact Or.inl rfl | exact Or.inr rfl) (de_meth p H.Reader_need_kind (de_var 0) (da_es de_str da_nil) (len_cons (fun _ _ _ h => len_nil h))))
  (dss_one (ds_expr (de_meth p H.Reader_plan (de_var 0) (da_es (de_lst (da_es (de_tup (da_es de_str (da_es de_int da_nil))) (da_es (de_tup (da_es de_str (da_es (de_var 1) da_nil))) da_nil))) da_nil) (len_cons (fun _ _ _ h => len_nil h))))))))
theorem d_Reader_do_variable (T : Tt K mg w.params C_Reader) (H : Tx P w K mg base n) : MeAt P w K mg base (xrK K) (n + 1) "Reader" "do_variable" ["self"] (fnM 1 (m_Reader_do_variable (mir n))) := by
 refine meAt_succ T.Reader_do_variable sc_Reader_do_variable (fun f cdv A outer s Hp E hr hgu => ?_)
 have p := pc_def (P := P) (w := w) (K := K) (mg := mg) (base := base) (outer := outer) (H := Hp) (E := E) sc_Reader_do_variable hr hgu
 exact (dss_cons (ds_if (dt_w (dw_or (Cp.dt (cp_ne p.toPl) (de_ixA p.toPl (de_meth0 p H.Reader_now (de_var 0)) de_int) de_str (nomark _)) (dw_or1 (Cp.dt cp_ge (de_ixA p.toPl (de_meth0 p H.Reader_now (de_var 0)) de_int) (de_fld p.toPl (cls1 T.cl_Reader T.na_Reader_many) (de_var 0)) (nomark _))))) (dss_one (ds_expr de_bad)) dss_nil)
  (dss_one (ds_expr (de_appendO p.toPl (de_fld p.toPl (cls1 T.cl_Reader T.na_Reader_made) (de_var 0)) (de_tup (da_es (de_tup (da_es de_str (da_es (de_sub (de_sub (de_fld p.toPl (cls1 T.cl_Reader T.na_Reader_many) (de_var 0)) de_int) (de_meth0 p H.Reader_go_on (de_var 0))) da_nil))) (da_es de_int (da_es de_int da_nil))))))))
theorem d_Reader_do_args (T : Tt K mg w.params C_Reader) (H : Tx P w K mg base n) : MeAt P w K mg base (xrK K) (n + 1) "Reader" "do_args" ["self"] (fnM 1 (m_Reader_do_args (mir n))) := by
 refine meAt_succ T.Reader_do_args sc_Reader_do_args (fun f cdv A outer s Hp E hr hgu => ?_)
 have p := pc_def (P := P) (w := w) (K := K) (mg := mg) (base := base) (outer := outer) (H := Hp) (E := E) sc_Reader_do_args hr hgu
 exact (dss_cons (ds_if (dt_not (dt_tru p.toPl (de_meth p H.Reader_is_mark (de_var 0) (da_es de_str da_nil) (len_cons (fun _ _ _ h => len_nil h))))) (dss_cons (ds_expr (de_appendO p.toPl (de_fld p.toPl (cls1 T.cl_Reader T.na_Reader_made) (de_var 0)) de_int))
  (dss_one ds_retN)) dss_nil)
  (dss_cons (ds_fld p.toPl (cls1 T.cl_Reader T.na_Reader_at) (de_add p.toPl (de_fld p.toPl (cls1 T.cl_Reader T.na_Reader_at) (de_var 0)) de_int) (de_var 0))
  (dss_one (ds_expr (de_meth p H.Reader_plan (de_var 0) (da_es (de_lst (da_es (de_tup (da_es de_str da_nil)) (da_es (de_tup (da_es de_str (da_es de_int da_nil))) da_nil))) da_nil) (len_cons (fun _ _ _ h => len_nil h)))))))
theorem d_Reader_do_more (T : Tt K mg w.params C_Reader) (H : Tx P w K mg base n) : MeAt P w K mg base (xrK K) (n + 1) "Reader" "do_more" ["self", "count"] (fnM 2 (m_Reader_do_more (mir n))) := by
 refine meAt_succ T.Reader_do_more sc_Reader_do_more (fun f cdv A outer s Hp E hr hgu => ?_)
 have p := pc_def (P := P) (w := w) (K := K) (mg := mg) (base := base) (outer := outer) (H := Hp) (E := E) sc_Reader_do_more hr hgu
 exact (dss_one (ds_if (dt_tru p.toPl (de_meth p H.Reader_is_mark (de_var 0) (da_es de_str da_nil) (len_cons (fun _ _ _ h => len_nil h)))) (dss_cons (ds_fld p.toPl (cls1 T.cl_Reader T.na_Reader_at) (de_add p.toPl (de_fld p.toPl (cls1 T.cl_Reader T.na_Reader_at) (de_var 0)) de_int) (de_var 0))
  (dss_one (ds_expr (de_meth p H.Reader_plan (de_var 0) (da_es (de_lst (da_es (de_tup (da_es de_str da_nil)) (da_es (de_tup (da_es de_str (da_es (de_add p.toPl (de_var 1) de_int) da_nil))) da_nil))) da_nil) (len_cons (fun _ _ _ h => len_nil h)))))) (dss_cons (ds_expr (de_meth p H.Reader_need_word (de_var 0) (da_es de_str (da_es de_str da_nil)) (len_cons (len_cons (fun _ _ _ h => len_nil h)))))
  (dss_one (ds_expr (de_appendO p.toPl (de_fld p.toPl (cls1 T.cl_Reader T.na_Reader_made) (de_var 0)) (de_var 1)))))))
theorem d_Reader_do_call (T : Tt K mg w.params C_Reader) (H : Tx P w K mg base n) : MeAt P w K mg base (xrK K) (n + 1) "Reader" "do_call" ["self", "name"] (fnM 2 (m_Reader_do_call (mir n))) := by
 refine meAt_succ T.Reader_do_call sc_Reader_do_call (fun f cdv A outer s Hp E hr hgu => ?_)
 have p := pc_def (P := P) (w := w) (K := K) (mg := mg) (base := base) (outer := outer) (H := Hp) (E := E) sc_Reader_do_call hr hgu
 exact (dss_one (ds_expr (de_meth p H.Reader_make_call (de_var 0) (da_es de_str (da_es (de_var 1) (da_es (de_popO p.toPl (de_fld p.toPl (cls1 T.cl_Reader T.na_Reader_made) (de_var 0))) da_nil))) (len_cons (len_cons (len_cons (fun _ _ _ h => len_nil h)))))))
theorem d_Reader_do_rel (T : Tt K mg w.params C_Reader) (H : Tx P w K mg base n) : MeAt P w K mg base (xrK K) (n + 1) "Reader" "do_rel" ["self", "name"] (fnM 3 (m_Reader_do_rel (mir n))) := by
 refine meAt_succ T.Reader_do_rel sc_Reader_do_rel (fun f cdv A outer s Hp E hr hgu => ?_)
 have p := pc_def (P := P) (w := w) (K := K) (mg := mg) (base := base) (outer := outer) (H := Hp) (E := E) sc_Reader_do_rel hr hgu
 exact (dss_cons (ds_set (i := 2) p.toPl.nds (fun _ => rfl) (fun _ => by first | exact Or.inl rfl | exact Or.inr rfl) (de_popO p.toPl (de_fld p.toPl (cls1 T.cl_Reader T.na_Reader_made) (de_var 0))))
  (dss_one (ds_if (dt_tru p.toPl (de_meth p H.Reader_is_mark (de_var 0) (da_es de_str da_nil) (len_cons (fun _ _ _ h => len_nil h)))) (dss_cons (ds_expr (de_meth p H.Reader_make_call (de_var 0) (da_es de_str (da_es (de_var 1) (da_es (de_var 2) da_nil))) (len_cons (len_cons (len_cons (fun _ _ _ h => len_nil h))))))
  (dss_one (ds_expr (de_meth0 p H.Reader_do_same (de_var 0))))) (dss_one (ds_expr (de_meth p H.Reader_make_call (de_var 0) (da_es de_str (da_es (de_var 1) (da_es (de_var 2) da_nil))) (len_cons (len_cons (len_cons (fun _ _ _ h => len_nil h))))))))))
theorem d_Reader_do_same (T : Tt K mg w.params C_Reader) (H : Tx P w K mg base n) : MeAt P w K mg base (xrK K) (n + 1) "Reader" "do_same" ["self"] (fnM 1 (m_Reader_do_same (mir n))) := by
 refine meAt_succ T.Reader_do_same sc_Reader_do_same (fun f cdv A outer s Hp E hr hgu => ?_)
 have p := pc_def (P := P) (w := w) (K := K) (mg := mg) (base := base) (outer := outer) (H := Hp) (E := E) sc_Reader_do_same hr hgu
 exact (dss_cons (ds_expr (de_meth p H.Reader_need_word (de_var 0) (da_es de_str (da_es de_str da_nil)) (len_cons (len_cons (fun _ _ _ h => len_nil h)))))
  (dss_one (ds_expr (de_meth p H.Reader_plan (de_var 0) (da_es (de_lst (da_es (de_tup (da_es de_str da_nil)) (da_es (de_tup (da_es de_str (da_es de_str (da_es de_int da_nil)))) da_nil))) da_nil) (len_cons (fun _ _ _ h => len_nil h))))))
theorem d_Reader_do_statement (T : Tt K mg w.params C_Reader) (H : Tx P w K mg base n) : MeAt P w K mg base (xrK K) (n + 1) "Reader" "do_statement" ["self"] (fnM 1 (m_Reader_do_statement (mir n))) := by
 refine meAt_succ T.Reader_do_statement sc_Reader_do_statement (fun f cdv A outer s Hp E hr hgu => ?_)
 have p := pc_def (P := P) (w := w) (K := K) (mg := mg) (base := base) (outer := outer) (H := Hp) (E := E) sc_Reader_do_statement hr hgu
 exact (dss_one (ds_if (dt_w (dw_or (dt_tru p.toPl (de_meth p H.Reader_is_told (de_var 0) (da_es de_str da_nil) (len_cons (fun _ _ _ h => len_nil h)))) (dw_or1 (dt_tru p.toPl (de_meth p H.Reader_is_told (de_var 0) (da_es de_str da_nil) (len_cons (fun _ _ _ h => len_nil h))))))) (dss_one (ds_expr (de_meth p H.Reader_do_bound (de_var 0) (da_es (de_meth0 p H.Reader_go_on (de_var 0)) da_nil) (len_cons (fun _ _ _ h => len_nil h))))) (dss_one (ds_expr (de_meth p H.Reader_do_level (de_var 0) (da_es de_int da_nil) (len_cons (fun _ _ _ h => len_nil h)))))))
theorem d_Reader_do_bound (T : Tt K mg w.params C_Reader) (H : Tx P w K mg base n) : MeAt P w K mg base (xrK K) (n + 1) "Reader" "do_bound" ["self", "word"] (fnM 3 (m_Reader_do_bound (mir n))) := by
 refine meAt_succ T.Reader_do_bound sc_Reader_do_bound (fun f cdv A outer s Hp E hr hgu => ?_)
 have p := pc_def (P := P) (w := w) (K := K) (mg := mg) (base := base) (outer := outer) (H := Hp) (E := E) sc_Reader_do_bound hr hgu
 exact (dss_cons (ds_if (Cp.dt (cp_ne p.toPl) (de_sl p.toPl (de_meth0 p H.Reader_now (de_var 0)) do_none (do_some de_int)) (de_tup (da_es de_str (da_es (de_fld p.toPl (cls1 T.cl_Reader T.na_Reader_many) (de_var 0)) da_nil))) (nomark _)) (dss_one (ds_expr de_bad)) dss_nil)
  (dss_cons (ds_fld p.toPl (cls1 T.cl_Reader T.na_Reader_at) (de_add p.toPl (de_fld p.toPl (cls1 T.cl_Reader T.na_Reader_at) (de_var 0)) de_int) (de_var 0))
  (dss_cons (ds_expr (de_meth p H.Reader_need_word (de_var 0) (da_es de_str (da_es de_str da_nil)) (len_cons (len_cons (fun _ _ _ h => len_nil h)))))
  (dss_cons (ds_set (i := 2) p.toPl.nds (fun _ => rfl) (fun _ => by first | exact Or.inl rfl | exact Or.inr rfl) (de_meth p H.Reader_need_kind (de_var 0) (da_es de_str da_nil) (len_cons (fun _ _ _ h => len_nil h))))
  (dss_cons (ds_expr (de_meth p H.Reader_need_word (de_var 0) (da_es de_str (da_es de_str da_nil)) (len_cons (len_cons (fun _ _ _ h => len_nil h)))))
  (dss_cons (ds_fld p.toPl (cls1 T.cl_Reader T.na_Reader_many) (de_add p.toPl (de_fld p.toPl (cls1 T.cl_Reader T.na_Reader_many) (de_var 0)) de_int) (de_var 0))
  (dss_one (ds_expr (de_meth p H.Reader_plan (de_var 0) (da_es (de_lst (da_es (de_tup (da_es de_str da_nil)) (da_es (de_tup (da_es de_str (da_es (de_var 1) (da_es (de_var 2) da_nil)))) da_nil))) da_nil) (len_cons (fun _ _ _ h => len_nil h)))))))))))
theorem d_Reader_do_level (T : Tt K mg w.params C_Reader) (H : Tx P w K mg base n) : MeAt P w K mg base (xrK K) (n + 1) "Reader" "do_level" ["self", "at"] (fnM 2 (m_Reader_do_level (mir n))) := by
 refine meAt_succ T.Reader_do_level sc_Reader_do_level (fun f cdv A outer s Hp E hr hgu => ?_)
 have p := pc_def (P := P) (w := w) (K := K) (mg := mg) (base := base) (outer := outer) (H := Hp) (E := E) sc_Reader_do_level hr hgu
 exact (dss_one (ds_if (Cp.dt (cp_eq p.toPl) (de_var 1) (de_const p.toPl T.c_NOT_LEVEL) (nomark _)) (dss_one (ds_expr (de_meth0 p H.Reader_do_not (de_var 0)))) (dss_one (ds_expr (de_meth p H.Reader_plan (de_var 0) (da_es (de_lst (da_es (de_tup (da_es de_str (da_es (de_add p.toPl (de_var 1) de_int) da_nil))) (da_es (de_tup (da_es de_str (da_es (de_var 1) da_nil))) da_nil))) da_nil) (len_cons (fun _ _ _ h => len_nil h)))))))
theorem d_Reader_do_rest (T : Tt K mg w.params C_Reader) (H : Tx P w K mg base n) : MeAt P w K mg base (xrK K) (n + 1) "Reader" "do_rest" ["self", "at"] (fnM 2 (m_Reader_do_rest (mir n))) := by
 refine meAt_succ T.Reader_do_rest sc_Reader_do_rest (fun f cdv A outer s Hp E hr hgu => ?_)
 have p := pc_def (P := P) (w := w) (K := K) (mg := mg) (base := base) (outer := outer) (H := Hp) (E := E) sc_Reader_do_rest hr hgu
 exact (dss_cons (ds_if (dt_not (dt_tru p.toPl (de_meth p H.Reader_is_mark (de_var 0) (da_es (de_ixA p.toPl (de_const p.toPl T.c_SIGNS) (de_var 1)) da_nil) (len_cons (fun _ _ _ h => len_nil h))))) (dss_one ds_retN) dss_nil)
  (dss_cons (ds_fld p.toPl (cls1 T.cl_Reader T.na_Reader_at) (de_add p.toPl (de_fld p.toPl (cls1 T.cl_Reader T.na_Reader_at) (de_var 0)) de_int) (de_var 0))
  (dss_one (ds_if (Cp.dt (cp_eq p.toPl) (de_var 1) de_int (nomark _)) (dss_one (ds_expr (de_meth p H.Reader_plan (de_var 0) (da_es (de_lst (da_es (de_tup (da_es de_str (da_es de_int da_nil))) (da_es (de_tup (da_es de_str (da_es de_str (da_es de_int da_nil)))) da_nil))) da_nil) (len_cons (fun _ _ _ h => len_nil h))))) (dss_one (ds_expr (de_meth p H.Reader_plan (de_var 0) (da_es (de_lst (da_es (de_tup (da_es de_str (da_es (de_add p.toPl (de_var 1) de_int) da_nil))) (da_es (de_tup (da_es de_str (da_es (de_ixA p.toPl (de_const p.toPl T.c_KINDS) (de_var 1)) (da_es de_int da_nil)))) (da_es (de_tup (da_es de_str (da_es (de_var 1) da_nil))) da_nil)))) da_nil) (len_cons (fun _ _ _ h => len_nil h)))))))))
theorem d_Reader_do_not (T : Tt K mg w.params C_Reader) (H : Tx P w K mg base n) : MeAt P w K mg base (xrK K) (n + 1) "Reader" "do_not" ["self"] (fnM 2 (m_Reader_do_not (mir n))) := by
 refine meAt_succ T.Reader_do_not sc_Reader_do_not (fun f cdv A outer s Hp E hr hgu => ?_)
 have p := pc_def (P := P) (w := w) (K := K) (mg := mg) (base := base) (outer := outer) (H := Hp) (E := E) sc_Reader_do_not hr hgu
 exact (dss_one (ds_if (dt_tru p.toPl (de_meth p H.Reader_is_mark (de_var 0) (da_es de_str da_nil) (len_cons (fun _ _ _ h => len_nil h)))) (dss_cons (ds_fld p.toPl (cls1 T.cl_Reader T.na_Reader_at) (de_add p.toPl (de_fld p.toPl (cls1 T.cl_Reader T.na_Reader_at) (de_var 0)) de_int) (de_var 0))
  (dss_one (ds_expr (de_meth p H.Reader_plan (de_var 0) (da_es (de_lst (da_es (de_tup (da_es de_str (da_es (de_const p.toPl T.c_NOT_LEVEL) da_nil))) (da_es (de_tup (da_es de_str da_nil)) da_nil))) da_nil) (len_cons (fun _ _ _ h => len_nil h)))))) (dss_one (ds_if (dt_tru p.toPl (de_meth p H.Reader_is_mark (de_var 0) (da_es de_str da_nil) (len_cons (fun _ _ _ h => len_nil h)))) (dss_cons (ds_fld p.toPl (cls1 T.cl_Reader T.na_Reader_at) (de_add p.toPl (de_fld p.toPl (cls1 T.cl_Reader T.na_Reader_at) (de_var 0)) de_int) (de_var 0))
  (dss_one (ds_expr (de_meth p H.Reader_plan (de_var 0) (da_es (de_lst (da_es (de_tup (da_es de_str da_nil)) (da_es (de_tup (da_es de_str (da_es de_str (da_es de_str da_nil)))) da_nil))) da_nil) (len_cons (fun _ _ _ h => len_nil h)))))) (dss_one (ds_if (dt_tru p.toPl (de_meth p H.Reader_is_told (de_var 0) (da_es de_str da_nil) (len_cons (fun _ _ _ h => len_nil h)))) (dss_cons (ds_fld p.toPl (cls1 T.cl_Reader T.na_Reader_at) (de_add p.toPl (de_fld p.toPl (cls1 T.cl_Reader T.na_Reader_at) (de_var 0)) de_int) (de_var 0))
  (dss_one (ds_expr (de_appendO p.toPl (de_fld p.toPl (cls1 T.cl_Reader T.na_Reader_made) (de_var 0)) (de_tup (da_es (de_tup (da_es de_str da_nil)) (da_es de_int (da_es de_int da_nil)))))))) (dss_one (ds_if (Cp.dt (cp_eq p.toPl) (de_ixA p.toPl (de_meth0 p H.Reader_now (de_var 0)) de_int) de_str (nomark _)) (dss_cons (ds_expr (de_meth0 p H.Reader_do_variable (de_var 0)))
  (dss_one (ds_expr (de_meth0 p H.Reader_do_same (de_var 0))))) (dss_cons (ds_set (i := 1) p.toPl.nds (fun _ => rfl) (fun _ => by first | exact Or.inl rfl | exact Or.inr rfl) (de_meth p H.Reader_need_kind (de_var 0) (da_es de_str da_nil) (len_cons (fun _ _ _ h => len_nil h))))
  (dss_one (ds_expr (de_meth p H.Reader_plan (de_var 0) (da_es (de_lst (da_es (de_tup (da_es de_str (da_es de_int da_nil))) (da_es (de_tup (da_es de_str (da_es (de_var 1) da_nil))) da_nil))) da_nil) (len_cons (fun _ _ _ h => len_nil h))))))))))))))
theorem d_Reader_work_plain (T : Tt K mg w.params C_Reader) (H : Tx P w K mg base n) : MeAt P w K mg base (xrK K) (n + 1) "Reader" "work_plain" ["self", "task"] (fnM 3 (m_Reader_work_plain (mir n))) := by
 refine meAt_succ T.Reader_work_plain sc_Reader_work_plain (fun f cdv A outer s Hp E hr hgu => ?_)
 have p := pc_def (P := P) (w := w) (K := K) (mg := mg) (base := base) (outer := outer) (H := Hp) (E := E) sc_Reader_work_plain hr hgu
 exact (dss_cons (ds_set (i := 2) p.toPl.nds (fun _ => rfl) (fun _ => by first | exact Or.inl rfl | exact Or.inr rfl) (de_ixA p.toPl (de_var 1) de_int))
  (dss_one (ds_if (Cp.dt (cp_eq p.toPl) (de_var 2) de_str (nomark _)) (dss_one (ds_expr (de_meth0 p H.Reader_do_term (de_var 0)))) (dss_one (ds_if (Cp.dt (cp_eq p.toPl) (de_var 2) de_str (nomark _)) (dss_one (ds_expr (de_meth0 p H.Reader_do_args (de_var 0)))) (dss_one (ds_if (Cp.dt (cp_eq p.toPl) (de_var 2) de_str (nomark _)) (dss_one (ds_expr (de_meth p H.Reader_do_more (de_var 0) (da_es (de_ixA p.toPl (de_var 1) de_int) da_nil) (len_cons (fun _ _ _ h => len_nil h))))) (dss_one (ds_if (Cp.dt (cp_eq p.toPl) (de_var 2) de_str (nomark _)) (dss_one (ds_expr (de_meth p H.Reader_do_call (de_var 0) (da_es (de_ixA p.toPl (de_var 1) de_int) da_nil) (len_cons (fun _ _ _ h => len_nil h))))) (dss_one (ds_if (Cp.dt (cp_eq p.toPl) (de_var 2) de_str (nomark _)) (dss_one (ds_expr (de_meth p H.Reader_do_rel (de_var 0) (da_es (de_ixA p.toPl (de_var 1) de_int) da_nil) (len_cons (fun _ _ _ h => len_nil h))))) (dss_one (ds_if (Cp.dt (cp_eq p.toPl) (de_var 2) de_str (nomark _)) (dss_one (ds_expr (de_meth0 p H.Reader_do_statement (de_var 0)))) (dss_one (ds_if (Cp.dt (cp_eq p.toPl) (de_var 2) de_str (nomark _)) (dss_one (ds_expr (de_meth p H.Reader_do_level (de_var 0) (da_es (de_ixA p.toPl (de_var 1) de_int) da_nil) (len_cons (fun _ _ _ h => len_nil h))))) (dss_one (ds_if (Cp.dt (cp_eq p.toPl) (de_var 2) de_str (nomark _)) (dss_one (ds_expr (de_meth p H.Reader_do_rest (de_var 0) (da_es (de_ixA p.toPl (de_var 1) de_int) da_nil) (len_cons (fun _ _ _ h => len_nil h))))) (dss_one (ds_expr (de_meth p H.Reader_work_made (de_var 0) (da_es (de_var 1) da_nil) (len_cons (fun _ _ _ h => len_nil h))))))))))))))))))))))
theorem d_Reader_work_made (T : Tt K mg w.params C_Reader) (H : Tx P w K mg base n) : MeAt P w K mg base (xrK K) (n + 1) "Reader" "work_made" ["self", "task"] (fnM 2 (m_Reader_work_made (mir n))) := by
 refine meAt_succ T.Reader_work_made sc_Reader_work_made (fun f cdv A outer s Hp E hr hgu => ?_)
 have p := pc_def (P := P) (w := w) (K := K) (mg := mg) (base := base) (outer := outer) (H := Hp) (E := E) sc_Reader_work_made hr hgu
 exact (dss_one (ds_if (Cp.dt (cp_eq p.toPl) (de_ixA p.toPl (de_var 1) de_int) de_str (nomark _)) (dss_one (ds_expr (de_meth p H.Reader_make (de_var 0) (da_es (de_ixA p.toPl (de_var 1) de_int) (da_es (de_ixA p.toPl (de_var 1) de_int) da_nil)) (len_cons (len_cons (fun _ _ _ h => len_nil h)))))) (dss_one (ds_if (Cp.dt (cp_eq p.toPl) (de_ixA p.toPl (de_var 1) de_int) de_str (nomark _)) (dss_one (ds_expr (de_meth0 p H.Reader_make_not (de_var 0)))) (dss_one (ds_if (Cp.dt (cp_eq p.toPl) (de_ixA p.toPl (de_var 1) de_int) de_str (nomark _)) (dss_one (ds_expr (de_meth p H.Reader_make_bound (de_var 0) (da_es (de_ixA p.toPl (de_var 1) de_int) (da_es (de_ixA p.toPl (de_var 1) de_int) da_nil)) (len_cons (len_cons (fun _ _ _ h => len_nil h)))))) (dss_one (ds_expr (de_meth p H.Reader_need_word (de_var 0) (da_es (de_ixA p.toPl (de_var 1) de_int) (da_es (de_ixA p.toPl (de_var 1) de_int) da_nil)) (len_cons (len_cons (fun _ _ _ h => len_nil h))))))))))))
theorem d_Reader_run (T : Tt K mg w.params C_Reader) (H : Tx P w K mg base n) : MeAt P w K mg base (xrK K) (n + 1) "Reader" "run" ["self", "tasks"] (fnM 2 (m_Reader_run (mir n))) := by
 refine meAt_succ T.Reader_run sc_Reader_run (fun f cdv A outer s Hp E hr hgu => ?_)
 have p := pc_def (P := P) (w := w) (K := K) (mg := mg) (base := base) (outer := outer) (H := Hp) (E := E) sc_Reader_run hr hgu
 exact (dss_cons (ds_expr (de_meth p H.Reader_plan (de_var 0) (da_es (de_var 1) da_nil) (len_cons (fun _ _ _ h => len_nil h))))
  (dss_cons (ds_while whileN own_def (Cp.dtO (cp_ne0 p.toPl) (de_fld p.toPl (cls1 T.cl_Reader T.na_Reader_todo) (de_var 0)) (de_lst da_nil) (nomark _)) (dss_one (ds_expr (de_meth p H.Reader_work (de_var 0) (da_es (de_popO p.toPl (de_fld p.toPl (cls1 T.cl_Reader T.na_Reader_todo) (de_var 0))) da_nil) (len_cons (fun _ _ _ h => len_nil h))))))
  (dss_cons (ds_if (Cp.dt cp_lt (de_fld p.toPl (cls1 T.cl_Reader T.na_Reader_at) (de_var 0)) (Fb.de (fb_len p.toPl) p.toPl T.b_len (da_rd (de_fld p.toPl (cls1 T.cl_Reader T.na_Reader_words) (de_var 0)) da_nil)) (nomark _)) (dss_one (ds_expr de_bad)) dss_nil)
  (dss_one (ds_ret (de_popO p.toPl (de_fld p.toPl (cls1 T.cl_Reader T.na_Reader_made) (de_var 0))))))))
theorem d_Reader___init__ (T : Tt K mg w.params C_Reader) (H : Tx P w K mg base n) : MkAt P w K mg base (xrK K) (n + 2) "Reader" ["self", "words", "length", "many"] (fnM 4 (m_Reader___init__ (mir n))) := by
 refine mkAt_succ T.mk_Reader sc_Reader___init__ (fun f cdv A outer s Hp E hr hgu => ?_)
 have p := pc_def (P := P) (w := w) (K := K) (mg := mg) (base := base) (outer := outer) (H := Hp) (E := E) sc_Reader___init__ hr hgu
 exact (dss_cons (ds_fld p.toPl (cls1 T.cl_Reader T.na_Reader_words) (de_var 1) (de_var 0))
  (dss_cons (ds_fld p.toPl (cls1 T.cl_Reader T.na_Reader_at) de_int (de_var 0))
  (dss_cons (ds_fld p.toPl (cls1 T.cl_Reader T.na_Reader_length) (de_var 2) (de_var 0))
  (dss_cons (ds_fld p.toPl (cls1 T.cl_Reader T.na_Reader_todo) (de_newL da_nil) (de_var 0))
  (dss_cons (ds_fld p.toPl (cls1 T.cl_Reader T.na_Reader_made) (de_newL da_nil) (de_var 0))
  (dss_one (ds_fld p.toPl (cls1 T.cl_Reader T.na_Reader_many) (de_var 3) (de_var 0))))))))
theorem d_Reader_now (T : Tt K mg w.params C_Reader) (H : Tx P w K mg base n) : MeAt P w K mg base (xrK K) (n + 1) "Reader" "now" ["self"] (fnM 1 (m_Reader_now (mir n))) := by
 refine meAt_succ T.Reader_now sc_Reader_now (fun f cdv A outer s Hp E hr hgu => ?_)
 have p := pc_def (P := P) (w := w) (K := K) (mg := mg) (base := base) (outer := outer) (H := Hp) (E := E) sc_Reader_now hr hgu
 exact (dss_one (ds_ret (de_if (Cp.dt cp_lt (de_fld p.toPl (cls1 T.cl_Reader T.na_Reader_at) (de_var 0)) (Fb.de (fb_len p.toPl) p.toPl T.b_len (da_rd (de_fld p.toPl (cls1 T.cl_Reader T.na_Reader_words) (de_var 0)) da_nil)) (nomark _)) (de_ixA p.toPl (de_fld p.toPl (cls1 T.cl_Reader T.na_Reader_words) (de_var 0)) (de_fld p.toPl (cls1 T.cl_Reader T.na_Reader_at) (de_var 0))) (de_tup (da_es de_str (da_es de_str (da_es (de_fld p.toPl (cls1 T.cl_Reader T.na_Reader_length) (de_var 0)) da_nil)))))))
theorem d_Reader_is_mark (T : Tt K mg w.params C_Reader) (H : Tx P w K mg base n) : MeAt P w K mg base (xrK K) (n + 1) "Reader" "is_mark" ["self", "sign"] (fnM 2 (m_Reader_is_mark (mir n))) := by
 refine meAt_succ T.Reader_is_mark sc_Reader_is_mark (fun f cdv A outer s Hp E hr hgu => ?_)
 have p := pc_def (P := P) (w := w) (K := K) (mg := mg) (base := base) (outer := outer) (H := Hp) (E := E) sc_Reader_is_mark hr hgu
 exact (dss_one (ds_ret (Cp.de (cp_eq p.toPl) (de_sl p.toPl (de_meth0 p H.Reader_now (de_var 0)) do_none (do_some de_int)) (de_tup (da_es de_str (da_es (de_var 1) da_nil))) (nomark _))))
theorem d_Reader_is_told (T : Tt K mg w.params C_Reader) (H : Tx P w K mg base n) : MeAt P w K mg base (xrK K) (n + 1) "Reader" "is_told" ["self", "word"] (fnM 2 (m_Reader_is_told (mir n))) := by
 refine meAt_succ T.Reader_is_told sc_Reader_is_told (fun f cdv A outer s Hp E hr hgu => ?_)
 have p := pc_def (P := P) (w := w) (K := K) (mg := mg) (base := base) (outer := outer) (H := Hp) (E := E) sc_Reader_is_told hr hgu
 exact (dss_one (ds_ret (Cp.de (cp_eq p.toPl) (de_sl p.toPl (de_meth0 p H.Reader_now (de_var 0)) do_none (do_some de_int)) (de_tup (da_es de_str (da_es (de_var 1) da_nil))) (nomark _))))
theorem d_Reader_go_on (T : Tt K mg w.params C_Reader) (H : Tx P w K mg base n) : MeAt P w K mg base (xrK K) (n + 1) "Reader" "go_on" ["self"] (fnM 1 (m_Reader_go_on (mir n))) := by
 refine meAt_succ T.Reader_go_on sc_Reader_go_on (fun f cdv A outer s Hp E hr hgu => ?_)
 have p := pc_def (P := P) (w := w) (K := K) (mg := mg) (base := base) (outer := outer) (H := Hp) (E := E) sc_Reader_go_on hr hgu
 exact (dss_cons (ds_fld p.toPl (cls1 T.cl_Reader T.na_Reader_at) (de_add p.toPl (de_fld p.toPl (cls1 T.cl_Reader T.na_Reader_at) (de_var 0)) de_int) (de_var 0))
  (dss_one (ds_ret (de_ixA p.toPl (de_ixA p.toPl (de_fld p.toPl (cls1 T.cl_Reader T.na_Reader_words) (de_var 0)) (de_sub (de_fld p.toPl (cls1 T.cl_Reader T.na_Reader_at) (de_var 0)) de_int)) de_int))))
theorem d_Reader_need_word (T : Tt K mg w.params C_Reader) (H : Tx P w K mg base n) : MeAt P w K mg base (xrK K) (n + 1) "Reader" "need_word" ["self", "kind", "word"] (fnM 3 (m_Reader_need_word (mir n))) := by
 refine meAt_succ T.Reader_need_word sc_Reader_need_word (fun f cdv A outer s Hp E hr hgu => ?_)
 have p := pc_def (P := P) (w := w) (K := K) (mg := mg) (base := base) (outer := outer) (H := Hp) (E := E) sc_Reader_need_word hr hgu
 exact (dss_cons (ds_if (Cp.dt (cp_ne p.toPl) (de_sl p.toPl (de_meth0 p H.Reader_now (de_var 0)) do_none (do_some de_int)) (de_tup (da_es (de_var 1) (da_es (de_var 2) da_nil))) (nomark _)) (dss_one (ds_expr de_bad)) dss_nil)
  (dss_one (ds_fld p.toPl (cls1 T.cl_Reader T.na_Reader_at) (de_add p.toPl (de_fld p.toPl (cls1 T.cl_Reader T.na_Reader_at) (de_var 0)) de_int) (de_var 0))))
theorem d_Reader_need_kind (T : Tt K mg w.params C_Reader) (H : Tx P w K mg base n) : MeAt P w K mg base (xrK K) (n + 1) "Reader" "need_kind" ["self", "kind"] (fnM 2 (m_Reader_need_kind (mir n))) := by
 refine meAt_succ T.Reader_need_kind sc_Reader_need_kind (fun f cdv A outer s Hp E hr hgu => ?_)
 have p := pc_def (P := P) (w := w) (K := K) (mg := mg) (base := base) (outer := outer) (H := Hp) (E := E) sc_Reader_need_kind hr hgu
 exact (dss_cons (ds_if (Cp.dt (cp_ne p.toPl) (de_ixA p.toPl (de_meth0 p H.Reader_now (de_var 0)) de_int) (de_var 1) (nomark _)) (dss_one (ds_expr de_bad)) dss_nil)
  (dss_one (ds_ret (de_meth0 p H.Reader_go_on (de_var 0)))))
theorem d_Reader_plan (T : Tt K mg w.params C_Reader) (H : Tx P w K mg base n) : MeAt P w K mg base (xrK K) (n + 1) "Reader" "plan" ["self", "tasks"] (fnM 2 (m_Reader_plan (mir n))) := by
 refine meAt_succ T.Reader_plan sc_Reader_plan (fun f cdv A outer s Hp E hr hgu => ?_)
 have p := pc_def (P := P) (w := w) (K := K) (mg := mg) (base := base) (outer := outer) (H := Hp) (E := E) sc_Reader_plan hr hgu
 exact (dss_one (ds_expr (de_extendO p.toPl (de_fld p.toPl (cls1 T.cl_Reader T.na_Reader_todo) (de_var 0)) (de_rev p.toPl (de_var 1)))))
theorem d_Reader_pop_many (T : Tt K mg w.params C_Reader) (H : Tx P w K mg base n) : MeAt P w K mg base (xrK K) (n + 1) "Reader" "pop_many" ["self", "count"] (fnM 4 (m_Reader_pop_many (mir n))) := by
 refine meAt_succ T.Reader_pop_many sc_Reader_pop_many (fun f cdv A outer s Hp E hr hgu => ?_)
 have p := pc_def (P := P) (w := w) (K := K) (mg := mg) (base := base) (outer := outer) (H := Hp) (E := E) sc_Reader_pop_many hr hgu
 exact (dss_cons (ds_set (i := 2) p.toPl.nds (fun _ => rfl) (fun _ => by first | exact Or.inl rfl | exact Or.inr rfl) (de_sub (Fb.deO (fb_len p.toPl) p.toPl T.b_len (da_rd (de_fld p.toPl (cls1 T.cl_Reader T.na_Reader_made) (de_var 0)) da_nil)) (de_var 1)))
  (dss_cons (ds_set (i := 3) p.toPl.nds (fun _ => rfl) (fun _ => by first | exact Or.inl rfl | exact Or.inr rfl) (de_slO p.toPl (de_fld p.toPl (cls1 T.cl_Reader T.na_Reader_made) (de_var 0)) (do_some (de_var 2)) do_none))
  (dss_cons (ds_fld p.toPl (cls1 T.cl_Reader T.na_Reader_made) (de_sto (de_slO p.toPl (de_fld p.toPl (cls1 T.cl_Reader T.na_Reader_made) (de_var 0)) do_none (do_some (de_var 2)))) (de_var 0))
  (dss_one (ds_ret (de_var 3))))))
theorem d_Reader_make (T : Tt K mg w.params C_Reader) (H : Tx P w K mg base n) : MeAt P w K mg base (xrK K) (n + 1) "Reader" "make" ["self", "word", "count"] (fnM 5 (m_Reader_make (mir n))) := by
 refine meAt_succ T.Reader_make sc_Reader_make (fun f cdv A outer s Hp E hr hgu => ?_)
 have p := pc_def (P := P) (w := w) (K := K) (mg := mg) (base := base) (outer := outer) (H := Hp) (E := E) sc_Reader_make hr hgu
 exact (dss_cons (ds_set (i := 3) p.toPl.nds (fun _ => rfl) (fun _ => by first | exact Or.inl rfl | exact Or.inr rfl) (de_meth p H.Reader_pop_many (de_var 0) (da_es (de_var 2) da_nil) (len_cons (fun _ _ _ h => len_nil h))))
  (dss_one (ds_expr (de_appendO p.toPl (de_fld p.toPl (cls1 T.cl_Reader T.na_Reader_made) (de_var 0)) (de_fn p H.joined (da_es (de_add p.toPl (de_tup (da_es (de_var 1) da_nil)) (Fb.de (fb_tuple p.toPl) p.toPl T.b_tuple (da_rd (de_lc (own := [("one", 4)]) p.c p.toPl.nds (fun _ => blkOk_by (N := ["self", "word", "count", "parts", "one"]) (sc := defScope s_Reader_make) (by decide +kernel)) (di_any p.toPl (de_var 3)) (dg_name (p.blk _).toPl.nds (fun _ => rfl) (fun _ => by first | exact Or.inl rfl | exact Or.inr rfl)) dts_nil (de_ixA (p.blk _).toPl (de_var 4) de_int)) da_nil))) (da_es (de_var 3) da_nil)) (len_cons (len_cons (fun _ _ _ h => len_nil h))))))))
theorem d_Reader_make_call (T : Tt K mg w.params C_Reader) (H : Tx P w K mg base n) : MeAt P w K mg base (xrK K) (n + 1) "Reader" "make_call" ["self", "word", "name", "count"] (fnM 6 (m_Reader_make_call (mir n))) := by
 refine meAt_succ T.Reader_make_call sc_Reader_make_call (fun f cdv A outer s Hp E hr hgu => ?_)
 have p := pc_def (P := P) (w := w) (K := K) (mg := mg) (base := base) (outer := outer) (H := Hp) (E := E) sc_Reader_make_call hr hgu
 exact (dss_cons (ds_set (i := 4) p.toPl.nds (fun _ => rfl) (fun _ => by first | exact Or.inl rfl | exact Or.inr rfl) (de_meth p H.Reader_pop_many (de_var 0) (da_es (de_var 3) da_nil) (len_cons (fun _ _ _ h => len_nil h))))
  (dss_one (ds_expr (de_appendO p.toPl (de_fld p.toPl (cls1 T.cl_Reader T.na_Reader_made) (de_var 0)) (de_fn p H.joined (da_es (de_tup (da_es (de_var 1) (da_es (de_var 2) (da_es (Fb.de (fb_tuple p.toPl) p.toPl T.b_tuple (da_rd (de_lc (own := [("one", 5)]) p.c p.toPl.nds (fun _ => blkOk_by (N := ["self", "word", "name", "count", "parts", "one"]) (sc := defScope s_Reader_make_call) (by decide +kernel)) (di_any p.toPl (de_var 4)) (dg_name (p.blk _).toPl.nds (fun _ => rfl) (fun _ => by first | exact Or.inl rfl | exact Or.inr rfl)) dts_nil (de_ixA (p.blk _).toPl (de_var 5) de_int)) da_nil)) da_nil)))) (da_es (de_var 4) da_nil)) (len_cons (len_cons (fun _ _ _ h => len_nil h))))))))
theorem d_Reader_make_bound (T : Tt K mg w.params C_Reader) (H : Tx P w K mg base n) : MeAt P w K mg base (xrK K) (n + 1) "Reader" "make_bound" ["self", "word", "sort"] (fnM 4 (m_Reader_make_bound (mir n))) := by
 refine meAt_succ T.Reader_make_bound sc_Reader_make_bound (fun f cdv A outer s Hp E hr hgu => ?_)
 have p := pc_def (P := P) (w := w) (K := K) (mg := mg) (base := base) (outer := outer) (H := Hp) (E := E) sc_Reader_make_bound hr hgu
 exact (dss_cons (ds_fld p.toPl (cls1 T.cl_Reader T.na_Reader_many) (de_sub (de_fld p.toPl (cls1 T.cl_Reader T.na_Reader_many) (de_var 0)) de_int) (de_var 0))
  (dss_cons (ds_set (i := 3) p.toPl.nds (fun _ => rfl) (fun _ => by first | exact Or.inl rfl | exact Or.inr rfl) (de_meth p H.Reader_pop_many (de_var 0) (da_es de_int da_nil) (len_cons (fun _ _ _ h => len_nil h))))
  (dss_one (ds_expr (de_appendO p.toPl (de_fld p.toPl (cls1 T.cl_Reader T.na_Reader_made) (de_var 0)) (de_fn p H.joined (da_es (de_tup (da_es (de_var 1) (da_es (de_var 2) (da_es (de_ixA p.toPl (de_ixA p.toPl (de_var 3) de_int) de_int) da_nil)))) (da_es (de_var 3) da_nil)) (len_cons (len_cons (fun _ _ _ h => len_nil h)))))))))
theorem d_Reader_make_not (T : Tt K mg w.params C_Reader) (H : Tx P w K mg base n) : MeAt P w K mg base (xrK K) (n + 1) "Reader" "make_not" ["self"] (fnM 2 (m_Reader_make_not (mir n))) := by
 refine meAt_succ T.Reader_make_not sc_Reader_make_not (fun f cdv A outer s Hp E hr hgu => ?_)
 have p := pc_def (P := P) (w := w) (K := K) (mg := mg) (base := base) (outer := outer) (H := Hp) (E := E) sc_Reader_make_not hr hgu
 exact (dss_cons (ds_set (i := 1) p.toPl.nds (fun _ => rfl) (fun _ => by first | exact Or.inl rfl | exact Or.inr rfl) (de_meth p H.Reader_pop_many (de_var 0) (da_es de_int da_nil) (len_cons (fun _ _ _ h => len_nil h))))
  (dss_one (ds_expr (de_appendO p.toPl (de_fld p.toPl (cls1 T.cl_Reader T.na_Reader_made) (de_var 0)) (de_fn p H.joined (da_es (de_tup (da_es de_str (da_es (de_ixA p.toPl (de_ixA p.toPl (de_var 1) de_int) de_int) (da_es (de_const p.toPl T.c_NO_stack) da_nil)))) (da_es (de_add p.toPl (de_var 1) (de_lst (da_es (de_tup (da_es (de_const p.toPl T.c_NO_stack) (da_es de_int (da_es de_int da_nil)))) da_nil))) da_nil)) (len_cons (len_cons (fun _ _ _ h => len_nil h))))))))
theorem tx_zero (T : Tt K mg w.params C_Reader) (sb : SysB base) : Tx P w K mg base 0 := ⟨sb, fnAt_zero T.called_text, fnAt_zero T.term_text, fnAt_zero T.is_not, fnAt_zero T.rank_of, fnAt_zero T.side_text, fnAt_zero T.statement_text, fnAt_zero T.joined, fnAt_zero T.is_called, fnAt_zero T.number_of, fnAt_zero T.run_at, fnAt_zero T.run_word, fnAt_zero T.words_of, fnAt_zero T.reader_of, fnAt_zero T.small_one, fnAt_zero T.read_term, fnAt_zero T.read_statement, fnAt_zero T._law_cell, fnAt_zero T._law_name, fnAt_zero T._law_term, fnAt_zero T._law_statement, fnAt_zero T._law_called, fnAt_zero T._law_term_text, fnAt_zero T._law_rank, fnAt_zero T._law_side, fnAt_zero T._law_text, fnAt_zero T._law_size, meAt_zero T.Reader_work, meAt_zero T.Reader_do_term, meAt_zero T.Reader_do_variable, meAt_zero T.Reader_do_args, meAt_zero T.Reader_do_more, meAt_zero T.Reader_do_call, meAt_zero T.Reader_do_rel, meAt_zero T.Reader_do_same, meAt_zero T.Reader_do_statement, meAt_zero T.Reader_do_bound, meAt_zero T.Reader_do_level, meAt_zero T.Reader_do_rest, meAt_zero T.Reader_do_not, meAt_zero T.Reader_work_plain, meAt_zero T.Reader_work_made, meAt_zero T.Reader_run, mkAt_zero T.mk_Reader 0, mkAt_zero T.mk_Reader 1, meAt_zero T.Reader_now, meAt_zero T.Reader_is_mark, meAt_zero T.Reader_is_told, meAt_zero T.Reader_go_on, meAt_zero T.Reader_need_word, meAt_zero T.Reader_need_kind, meAt_zero T.Reader_plan, meAt_zero T.Reader_pop_many, meAt_zero T.Reader_make, meAt_zero T.Reader_make_call, meAt_zero T.Reader_make_bound, meAt_zero T.Reader_make_not⟩
theorem tx_succ (T : Tt K mg w.params C_Reader) (H : Tx P w K mg base n) : Tx P w K mg base (n + 1) := ⟨H.sb, d_called_text T H, d_term_text T H, d_is_not T H, d_rank_of T H, d_side_text T H, d_statement_text T H, d_joined T H, d_is_called T H, d_number_of T H, d_run_at T H, d_run_word T H, d_words_of T H, d_reader_of T H, d_small_one T H, d_read_term T H, d_read_statement T H, d__law_cell T H, d__law_name T H, d__law_term T H, d__law_statement T H, d__law_called T H, d__law_term_text T H, d__law_rank T H, d__law_side T H, d__law_text T H, d__law_size T H, d_Reader_work T H, d_Reader_do_term T H, d_Reader_do_variable T H, d_Reader_do_args T H, d_Reader_do_more T H, d_Reader_do_call T H, d_Reader_do_rel T H, d_Reader_do_same T H, d_Reader_do_statement T H, d_Reader_do_bound T H, d_Reader_do_level T H, d_Reader_do_rest T H, d_Reader_do_not T H, d_Reader_work_plain T H, d_Reader_work_made T H, d_Reader_run T H, H.ini_Reader, d_Reader___init__ T H, d_Reader_now T H, d_Reader_is_mark T H, d_Reader_is_told T H, d_Reader_go_on T H, d_Reader_need_word T H, d_Reader_need_kind T H, d_Reader_plan T H, d_Reader_pop_many T H, d_Reader_make T H, d_Reader_make_call T H, d_Reader_make_bound T H, d_Reader_make_not T H⟩
theorem tx_all (T : Tt K mg w.params C_Reader) (sb : SysB base) : ∀ n : Nat, Tx P w K mg base n
 | 0 => tx_zero T sb
 | n + 1 => tx_succ T (tx_all T sb n)
theorem d_law (T : Tt K mg w.params C_Reader) (sb : SysB base) {f : Addr} {fd : FuncData} (hF : FunD K "law" "law" (defArgs s_law) (defBody s_law) (defScope s_law) [] [] f fd)
  (hp : ∀ ns : List Int, ns.length ≤ 63 → (∀ z ∈ ns, Builtin.Int.intBits z ≤ 1048576) → ∃ z', m_law (mir lawLevel) (zX 10 ns) = .ok (.rt (.d (.bl true))) z') : FnG P w K mg base (L2.CX P w) (lawLevel + 9) f fd ["_law_script"] (spLaw K) := by
 have H : Tx P w K mg base lawLevel := tx_all T sb lawLevel
 refine okG hF sc_law (fun vs H Q E h => by obtain ⟨a, ns, rfl, _⟩ := h; rfl) (fun cdv A outer s Hp vs Q E hr hgu h => ?_)
 have p := pc_def (P := P) (w := w) (K := K) (mg := mg) (base := base) (outer := outer) (H := Hp) (E := E) sc_law hr hgu
 obtain ⟨t, pt, ct⟩ : DSs MX (xrK K) K (fun _ : Unit => cxOf (L2.CX P w) P w K mg base ["_law_script", "_law_spot", "_law_k", "_law_n", "_law_many", "_law_term_here", "_law_a", "_law_turn", "_law_other", "_law_text_here", "_law_j"] "law" (defScope s_law) f cdv A outer s Hp E) (fun cls d _ H => E cls d H) (defBody s_law) (m_law (mir lawLevel)) :=
  (dss_cons (ds_set (i := 1) p.toPl.nds (fun _ => rfl) (fun _ => by first | exact Or.inl rfl | exact Or.inr rfl) (de_newL (da_es de_int da_nil)))
  (dss_cons (ds_for own_def p.c (di_range1 p.toPl T.b_range (da_rd (de_add p.toPl de_int (de_fdiv (Fb.de (fb_len p.toPl) p.toPl T.b_len (da_rd (de_var 0) da_nil)) de_int)) da_nil)) (dg_name p.toPl.nds (fun _ => rfl) (fun _ => by first | exact Or.inl rfl | exact Or.inr rfl)) (dss_cons (ds_set (i := 3) p.toPl.nds (fun _ => rfl) (fun _ => by first | exact Or.inl rfl | exact Or.inr rfl) (de_fn p H._law_cell (da_es (de_var 0) (da_es (de_var 1) da_nil)) (len_cons (len_cons (fun _ _ _ h => len_nil h)))))
  (dss_cons (ds_set (i := 4) p.toPl.nds (fun _ => rfl) (fun _ => by first | exact Or.inl rfl | exact Or.inr rfl) (de_mod (de_var 3) de_int))
  (dss_cons (ds_set (i := 5) p.toPl.nds (fun _ => rfl) (fun _ => by first | exact Or.inl rfl | exact Or.inr rfl) (de_fn p H._law_term (da_es (de_var 0) (da_es (de_var 1) (da_es (de_add p.toPl de_int (de_mod (de_fdiv (de_var 3) de_int) de_int)) (da_es (de_var 4) da_nil)))) (len_cons (len_cons (len_cons (len_cons (fun _ _ _ h => len_nil h)))))))
  (dss_cons (ds_set (i := 6) p.toPl.nds (fun _ => rfl) (fun _ => by first | exact Or.inl rfl | exact Or.inr rfl) (de_fn p H._law_statement (da_es (de_var 0) (da_es (de_var 1) (da_es (de_add p.toPl de_int (de_mod (de_fdiv (de_var 3) de_int) de_int)) (da_es (de_var 4) da_nil)))) (len_cons (len_cons (len_cons (len_cons (fun _ _ _ h => len_nil h)))))))
  (dss_cons (ds_if (dt_w (dw_or (Cp.dt cp_gt (de_fn p H._law_size (da_es (de_var 6) da_nil) (len_cons (fun _ _ _ h => len_nil h))) de_int (nomark _)) (dw_or1 (Cp.dt cp_gt (de_fn p H._law_size (da_es (de_var 5) da_nil) (len_cons (fun _ _ _ h => len_nil h))) de_int (nomark _))))) (dss_one ds_continue) dss_nil)
  (dss_cons (ds_for own_def p.c (di_range1 p.toPl T.b_range (da_rd de_int da_nil)) (dg_name p.toPl.nds (fun _ => rfl) (fun _ => by first | exact Or.inl rfl | exact Or.inr rfl)) (dss_cons (ds_if (Cp.dt (cp_ne p.toPl) (de_fn p H.term_text (da_es (de_var 5) (da_es (de_var 4) da_nil)) (len_cons (len_cons (fun _ _ _ h => len_nil h)))) (de_fn p H._law_term_text (da_es (de_var 5) (da_es (de_var 4) da_nil)) (len_cons (len_cons (fun _ _ _ h => len_nil h)))) (nomark _)) (dss_one (ds_ret de_bl)) dss_nil)
  (dss_one (ds_if (Cp.dt (cp_ne p.toPl) (de_fn p H.statement_text (da_es (de_var 6) (da_es (de_var 4) da_nil)) (len_cons (len_cons (fun _ _ _ h => len_nil h)))) (de_fn p H._law_text (da_es (de_var 6) (da_es (de_var 4) (da_es (de_newL da_nil) da_nil))) (len_cons (len_cons (len_cons (fun _ _ _ h => len_nil h))))) (nomark _)) (dss_one (ds_ret de_bl)) dss_nil))))
  (dss_cons (ds_set (i := 8) p.toPl.nds (fun _ => rfl) (fun _ => by first | exact Or.inl rfl | exact Or.inr rfl) (de_fn p H._law_text (da_es (de_var 6) (da_es (de_var 4) (da_es (de_sto (de_lc (own := [("_law_j", 10)]) p.c p.toPl.nds (fun _ => blkOk_by (N := ["_law_script", "_law_spot", "_law_k", "_law_n", "_law_many", "_law_term_here", "_law_a", "_law_turn", "_law_other", "_law_text_here", "_law_j"]) (sc := defScope s_law) (by decide +kernel)) (di_range1 p.toPl T.b_range (da_rd de_int da_nil)) (dg_name (p.blk _).toPl.nds (fun _ => rfl) (fun _ => by first | exact Or.inl rfl | exact Or.inr rfl)) dts_nil (de_fn (p.blk _) H._law_cell (da_es (de_var 0) (da_es (de_var 1) da_nil)) (len_cons (len_cons (fun _ _ _ h => len_nil h)))))) da_nil))) (len_cons (len_cons (len_cons (fun _ _ _ h => len_nil h))))))
  (dss_cons (ds_for own_def p.c (di_any p.toPl (de_tup (da_es (de_fn p H.statement_text (da_es (de_var 6) (da_es (de_var 4) da_nil)) (len_cons (len_cons (fun _ _ _ h => len_nil h)))) (da_es (de_var 8) da_nil)))) (dg_name p.toPl.nds (fun _ => rfl) (fun _ => by first | exact Or.inl rfl | exact Or.inr rfl)) (dss_one (ds_if (Cp.dt (cp_ne p.toPl) (Fb.de (fb_reprE p H.sb) p.toPl T.b_repr (da_rd (de_fn p H.read_statement (da_es (de_var 9) (da_es (de_var 4) da_nil)) (len_cons (len_cons (fun _ _ _ h => len_nil h)))) da_nil)) (Fb.de (fb_reprE p H.sb) p.toPl T.b_repr (da_rd (de_var 6) da_nil)) (nomark _)) (dss_one (ds_ret de_bl)) dss_nil)))
  (dss_one (ds_if (Cp.dt (cp_ne p.toPl) (Fb.de (fb_reprE p H.sb) p.toPl T.b_repr (da_rd (de_fn p H.read_term (da_es (de_fn p H.term_text (da_es (de_var 5) (da_es (de_var 4) da_nil)) (len_cons (len_cons (fun _ _ _ h => len_nil h)))) (da_es (de_var 4) da_nil)) (len_cons (len_cons (fun _ _ _ h => len_nil h)))) da_nil)) (Fb.de (fb_reprE p H.sb) p.toPl T.b_repr (da_rd (de_var 5) da_nil)) (nomark _)) (dss_one (ds_ret de_bl)) dss_nil)))))))))))
  (dss_one (ds_ret de_bl))))
 exact ⟨_, pt (), law_runX (N := ["_law_script", "_law_spot", "_law_k", "_law_n", "_law_many", "_law_term_here", "_law_a", "_law_turn", "_law_other", "_law_text_here", "_law_j"]) (by decide) hp ct h⟩
end
theorem all_mk {l : PySem.W.OpenLaw} {w : World} {K : PySem.W.Frag} {h : Heap} {mg : Str → Option Value} {fa f0 f1 f2 f3 f4 f5 f6 f7 f8 f9 f10 f11 f12 f13 f14 f15 f16 f17 f18 f19 f20 f21 f22 f23 f24 f25 f26 f27 f28 f29 f30 f31 f32 f33 f34 f35 f36 f37 f38 f39 f40 f41 f42 f43 f44 f45 f46 f47 f48 f49 f50 f51 f52 f53 f54 f55 : Addr} (X : K.In h) (G0 : h.Ns mainGlobals mg) (hfa : mg "law" = some (.ref fa))
  {od0 an0 od1 an1 od2 an2 od3 an3 od4 an4 od5 an5 od6 an6 od7 an7 od8 an8 od9 an9 od10 an10 od11 an11 od12 an12 od13 an13 od14 an14 od15 an15 od16 an16 od17 an17 od18 an18 od19 an19 od20 an20 od21 an21 od22 an22 od23 an23 od24 an24 od25 an25 od26 an26 od27 an27 od28 an28 od29 an29 od30 an30 od31 an31 od32 an32 od33 an33 od34 an34 od35 an35 od36 an36 od37 an37 od38 an38 od39 an39 od40 an40 od41 an41 od42 an42 od43 an43 od44 an44 od45 an45 od46 an46 od47 an47 od48 an48 od49 an49 od50 an50 od51 an51 od52 an52 od53 an53 od54 an54 od55 an55 : Option Addr} {sl0 sl1 sl2 sl3 sl4 sl5 sl6 sl7 sl8 sl9 sl10 sl11 sl12 sl13 sl14 sl15 sl16 sl17 sl18 sl19 sl20 sl21 sl22 sl23 sl24 sl25 sl26 sl27 sl28 sl29 sl30 sl31 sl32 sl33 sl34 sl35 sl36 sl37 sl38 sl39 sl40 sl41 sl42 sl43 sl44 sl45 sl46 sl47 sl48 sl49 sl50 sl51 sl52 sl53 sl54 sl55 : Array (Option Value)} {oc0 kV0 dc0 pm0 cd0 ct0 oc1 kV1 dc1 pm1 cd1 ct1 oc2 kV2 dc2 pm2 cd2 ct2 oc3 kV3 dc3 pm3 cd3 ct3 oc4 kV4 dc4 pm4 cd4 ct4 oc5 kV5 dc5 pm5 cd5 ct5 oc6 kV6 dc6 pm6 cd6 ct6 oc7 kV7 dc7 pm7 cd7 ct7 oc8 kV8 dc8 pm8 cd8 ct8 oc9 kV9 dc9 pm9 cd9 ct9 oc10 kV10 dc10 pm10 cd10 ct10 oc11 kV11 dc11 pm11 cd11 ct11 oc12 kV12 dc12 pm12 cd12 ct12 oc13 kV13 dc13 pm13 cd13 ct13 oc14 kV14 dc14 pm14 cd14 ct14 oc15 kV15 dc15 pm15 cd15 ct15 oc16 kV16 dc16 pm16 cd16 ct16 oc17 kV17 dc17 pm17 cd17 ct17 oc18 kV18 dc18 pm18 cd18 ct18 oc19 kV19 dc19 pm19 cd19 ct19 oc20 kV20 dc20 pm20 cd20 ct20 oc21 kV21 dc21 pm21 cd21 ct21 oc22 kV22 dc22 pm22 cd22 ct22 oc23 kV23 dc23 pm23 cd23 ct23 oc24 kV24 dc24 pm24 cd24 ct24 oc25 kV25 dc25 pm25 cd25 ct25 oc26 kV26 dc26 pm26 cd26 ct26 oc27 kV27 dc27 pm27 cd27 ct27 oc28 kV28 dc28 pm28 cd28 ct28 oc29 kV29 dc29 pm29 cd29 ct29 oc30 kV30 dc30 pm30 cd30 ct30 oc31 kV31 dc31 pm31 cd31 ct31 oc32 kV32 dc32 pm32 cd32 ct32 oc33 kV33 dc33 pm33 cd33 ct33 oc34 kV34 dc34 pm34 cd34 ct34 oc35 kV35 dc35 pm35 cd35 ct35 oc36 kV36 dc36 pm36 cd36 ct36 oc37 kV37 dc37 pm37 cd37 ct37 oc38 kV38 dc38 pm38 cd38 ct38 oc39 kV39 dc39 pm39 cd39 ct39 oc40 kV40 dc40 pm40 cd40 ct40 oc41 kV41 dc41 pm41 cd41 ct41 oc42 kV42 dc42 pm42 cd42 ct42 oc43 kV43 dc43 pm43 cd43 ct43 oc44 kV44 dc44 pm44 cd44 ct44 oc45 kV45 dc45 pm45 cd45 ct45 oc46 kV46 dc46 pm46 cd46 ct46 oc47 kV47 dc47 pm47 cd47 ct47 oc48 kV48 dc48 pm48 cd48 ct48 oc49 kV49 dc49 pm49 cd49 ct49 oc50 kV50 dc50 pm50 cd50 ct50 oc51 kV51 dc51 pm51 cd51 ct51 oc52 kV52 dc52 pm52 cd52 ct52 oc53 kV53 dc53 pm53 cd53 ct53 oc54 kV54 dc54 pm54 cd54 ct54 oc55 kV55 dc55 pm55 cd55 ct55 : Value}
  {C_Reader : Addr} (ca_Reader : PySem.W.nsIn K mainGlobals "Reader" = some (some (.ref C_Reader)))
  (cb1_Reader : PySem.W.plainGet K C_Reader Str.empty = true)
  (cb2_Reader : PySem.W.hasDictIn K C_Reader = true)
  (cb3_Reader : PySem.W.plainOver K C_Reader = true)
  (cb4_Reader : PySem.W.findIn K (.ref C_Reader) "__setattr__" = some (some (.builtin "object.__setattr__")))
  (cm1_Reader : PySem.W.makesIn K C_Reader = true)
  (cm2_Reader : PySem.W.keepIn K (.ref C_Reader) = true)
  (na_Reader_at : PySem.W.findIn K (.ref C_Reader) "at" = some none)
  (na_Reader_length : PySem.W.findIn K (.ref C_Reader) "length" = some none)
  (na_Reader_made : PySem.W.findIn K (.ref C_Reader) "made" = some none)
  (na_Reader_many : PySem.W.findIn K (.ref C_Reader) "many" = some none)
  (na_Reader_todo : PySem.W.findIn K (.ref C_Reader) "todo" = some none)
  (na_Reader_words : PySem.W.findIn K (.ref C_Reader) "words" = some none)
  (a0 : PySem.W.nsIn K mainGlobals "called_text" = some (some (.ref f0))) (l0 : K.lookup f0 = some ⟨oc0, od0, .func (PySem.W.fnOf "called_text" "called_text" (defArgs s_called_text) (defBody s_called_text) (defScope s_called_text) .none kV0 dc0 pm0 an0 cd0 ct0), sl0⟩) (c0 : PySem.W.codeIn K cd0 "called_text" = true) (k0 : PySem.W.keepIn K (.ref f0) = true)
  (a1 : PySem.W.nsIn K mainGlobals "term_text" = some (some (.ref f1))) (l1 : K.lookup f1 = some ⟨oc1, od1, .func (PySem.W.fnOf "term_text" "term_text" (defArgs s_term_text) (defBody s_term_text) (defScope s_term_text) .none kV1 dc1 pm1 an1 cd1 ct1), sl1⟩) (c1 : PySem.W.codeIn K cd1 "term_text" = true) (k1 : PySem.W.keepIn K (.ref f1) = true)
  (a2 : PySem.W.nsIn K mainGlobals "is_not" = some (some (.ref f2))) (l2 : K.lookup f2 = some ⟨oc2, od2, .func (PySem.W.fnOf "is_not" "is_not" (defArgs s_is_not) (defBody s_is_not) (defScope s_is_not) .none kV2 dc2 pm2 an2 cd2 ct2), sl2⟩) (c2 : PySem.W.codeIn K cd2 "is_not" = true) (k2 : PySem.W.keepIn K (.ref f2) = true)
  (a3 : PySem.W.nsIn K mainGlobals "rank_of" = some (some (.ref f3))) (l3 : K.lookup f3 = some ⟨oc3, od3, .func (PySem.W.fnOf "rank_of" "rank_of" (defArgs s_rank_of) (defBody s_rank_of) (defScope s_rank_of) .none kV3 dc3 pm3 an3 cd3 ct3), sl3⟩) (c3 : PySem.W.codeIn K cd3 "rank_of" = true) (k3 : PySem.W.keepIn K (.ref f3) = true)
  (a4 : PySem.W.nsIn K mainGlobals "side_text" = some (some (.ref f4))) (l4 : K.lookup f4 = some ⟨oc4, od4, .func (PySem.W.fnOf "side_text" "side_text" (defArgs s_side_text) (defBody s_side_text) (defScope s_side_text) .none kV4 dc4 pm4 an4 cd4 ct4), sl4⟩) (c4 : PySem.W.codeIn K cd4 "side_text" = true) (k4 : PySem.W.keepIn K (.ref f4) = true)
  (a5 : PySem.W.nsIn K mainGlobals "statement_text" = some (some (.ref f5))) (l5 : K.lookup f5 = some ⟨oc5, od5, .func (PySem.W.fnOf "statement_text" "statement_text" (defArgs s_statement_text) (defBody s_statement_text) (defScope s_statement_text) .none kV5 dc5 pm5 an5 cd5 ct5), sl5⟩) (c5 : PySem.W.codeIn K cd5 "statement_text" = true) (k5 : PySem.W.keepIn K (.ref f5) = true)
  (a6 : PySem.W.nsIn K mainGlobals "joined" = some (some (.ref f6))) (l6 : K.lookup f6 = some ⟨oc6, od6, .func (PySem.W.fnOf "joined" "joined" (defArgs s_joined) (defBody s_joined) (defScope s_joined) .none kV6 dc6 pm6 an6 cd6 ct6), sl6⟩) (c6 : PySem.W.codeIn K cd6 "joined" = true) (k6 : PySem.W.keepIn K (.ref f6) = true)
  (a7 : PySem.W.nsIn K mainGlobals "is_called" = some (some (.ref f7))) (l7 : K.lookup f7 = some ⟨oc7, od7, .func (PySem.W.fnOf "is_called" "is_called" (defArgs s_is_called) (defBody s_is_called) (defScope s_is_called) .none kV7 dc7 pm7 an7 cd7 ct7), sl7⟩) (c7 : PySem.W.codeIn K cd7 "is_called" = true) (k7 : PySem.W.keepIn K (.ref f7) = true)
  (a8 : PySem.W.nsIn K mainGlobals "number_of" = some (some (.ref f8))) (l8 : K.lookup f8 = some ⟨oc8, od8, .func (PySem.W.fnOf "number_of" "number_of" (defArgs s_number_of) (defBody s_number_of) (defScope s_number_of) .none kV8 dc8 pm8 an8 cd8 ct8), sl8⟩) (c8 : PySem.W.codeIn K cd8 "number_of" = true) (k8 : PySem.W.keepIn K (.ref f8) = true)
  (a9 : PySem.W.nsIn K mainGlobals "run_at" = some (some (.ref f9))) (l9 : K.lookup f9 = some ⟨oc9, od9, .func (PySem.W.fnOf "run_at" "run_at" (defArgs s_run_at) (defBody s_run_at) (defScope s_run_at) .none kV9 dc9 pm9 an9 cd9 ct9), sl9⟩) (c9 : PySem.W.codeIn K cd9 "run_at" = true) (k9 : PySem.W.keepIn K (.ref f9) = true)
  (a10 : PySem.W.nsIn K mainGlobals "run_word" = some (some (.ref f10))) (l10 : K.lookup f10 = some ⟨oc10, od10, .func (PySem.W.fnOf "run_word" "run_word" (defArgs s_run_word) (defBody s_run_word) (defScope s_run_word) .none kV10 dc10 pm10 an10 cd10 ct10), sl10⟩) (c10 : PySem.W.codeIn K cd10 "run_word" = true) (k10 : PySem.W.keepIn K (.ref f10) = true)
  (a11 : PySem.W.nsIn K mainGlobals "words_of" = some (some (.ref f11))) (l11 : K.lookup f11 = some ⟨oc11, od11, .func (PySem.W.fnOf "words_of" "words_of" (defArgs s_words_of) (defBody s_words_of) (defScope s_words_of) .none kV11 dc11 pm11 an11 cd11 ct11), sl11⟩) (c11 : PySem.W.codeIn K cd11 "words_of" = true) (k11 : PySem.W.keepIn K (.ref f11) = true)
  (a12 : PySem.W.nsIn K mainGlobals "reader_of" = some (some (.ref f12))) (l12 : K.lookup f12 = some ⟨oc12, od12, .func (PySem.W.fnOf "reader_of" "reader_of" (defArgs s_reader_of) (defBody s_reader_of) (defScope s_reader_of) .none kV12 dc12 pm12 an12 cd12 ct12), sl12⟩) (c12 : PySem.W.codeIn K cd12 "reader_of" = true) (k12 : PySem.W.keepIn K (.ref f12) = true)
  (a13 : PySem.W.nsIn K mainGlobals "small_one" = some (some (.ref f13))) (l13 : K.lookup f13 = some ⟨oc13, od13, .func (PySem.W.fnOf "small_one" "small_one" (defArgs s_small_one) (defBody s_small_one) (defScope s_small_one) .none kV13 dc13 pm13 an13 cd13 ct13), sl13⟩) (c13 : PySem.W.codeIn K cd13 "small_one" = true) (k13 : PySem.W.keepIn K (.ref f13) = true)
  (a14 : PySem.W.nsIn K mainGlobals "read_term" = some (some (.ref f14))) (l14 : K.lookup f14 = some ⟨oc14, od14, .func (PySem.W.fnOf "read_term" "read_term" (defArgs s_read_term) (defBody s_read_term) (defScope s_read_term) .none kV14 dc14 pm14 an14 cd14 ct14), sl14⟩) (c14 : PySem.W.codeIn K cd14 "read_term" = true) (k14 : PySem.W.keepIn K (.ref f14) = true)
  (a15 : PySem.W.nsIn K mainGlobals "read_statement" = some (some (.ref f15))) (l15 : K.lookup f15 = some ⟨oc15, od15, .func (PySem.W.fnOf "read_statement" "read_statement" (defArgs s_read_statement) (defBody s_read_statement) (defScope s_read_statement) .none kV15 dc15 pm15 an15 cd15 ct15), sl15⟩) (c15 : PySem.W.codeIn K cd15 "read_statement" = true) (k15 : PySem.W.keepIn K (.ref f15) = true)
  (a16 : PySem.W.nsIn K mainGlobals "_law_cell" = some (some (.ref f16))) (l16 : K.lookup f16 = some ⟨oc16, od16, .func (PySem.W.fnOf "_law_cell" "_law_cell" (defArgs s__law_cell) (defBody s__law_cell) (defScope s__law_cell) .none kV16 dc16 pm16 an16 cd16 ct16), sl16⟩) (c16 : PySem.W.codeIn K cd16 "_law_cell" = true) (k16 : PySem.W.keepIn K (.ref f16) = true)
  (a17 : PySem.W.nsIn K mainGlobals "_law_name" = some (some (.ref f17))) (l17 : K.lookup f17 = some ⟨oc17, od17, .func (PySem.W.fnOf "_law_name" "_law_name" (defArgs s__law_name) (defBody s__law_name) (defScope s__law_name) .none kV17 dc17 pm17 an17 cd17 ct17), sl17⟩) (c17 : PySem.W.codeIn K cd17 "_law_name" = true) (k17 : PySem.W.keepIn K (.ref f17) = true)
  (a18 : PySem.W.nsIn K mainGlobals "_law_term" = some (some (.ref f18))) (l18 : K.lookup f18 = some ⟨oc18, od18, .func (PySem.W.fnOf "_law_term" "_law_term" (defArgs s__law_term) (defBody s__law_term) (defScope s__law_term) .none kV18 dc18 pm18 an18 cd18 ct18), sl18⟩) (c18 : PySem.W.codeIn K cd18 "_law_term" = true) (k18 : PySem.W.keepIn K (.ref f18) = true)
  (a19 : PySem.W.nsIn K mainGlobals "_law_statement" = some (some (.ref f19))) (l19 : K.lookup f19 = some ⟨oc19, od19, .func (PySem.W.fnOf "_law_statement" "_law_statement" (defArgs s__law_statement) (defBody s__law_statement) (defScope s__law_statement) .none kV19 dc19 pm19 an19 cd19 ct19), sl19⟩) (c19 : PySem.W.codeIn K cd19 "_law_statement" = true) (k19 : PySem.W.keepIn K (.ref f19) = true)
  (a20 : PySem.W.nsIn K mainGlobals "_law_called" = some (some (.ref f20))) (l20 : K.lookup f20 = some ⟨oc20, od20, .func (PySem.W.fnOf "_law_called" "_law_called" (defArgs s__law_called) (defBody s__law_called) (defScope s__law_called) .none kV20 dc20 pm20 an20 cd20 ct20), sl20⟩) (c20 : PySem.W.codeIn K cd20 "_law_called" = true) (k20 : PySem.W.keepIn K (.ref f20) = true)
  (a21 : PySem.W.nsIn K mainGlobals "_law_term_text" = some (some (.ref f21))) (l21 : K.lookup f21 = some ⟨oc21, od21, .func (PySem.W.fnOf "_law_term_text" "_law_term_text" (defArgs s__law_term_text) (defBody s__law_term_text) (defScope s__law_term_text) .none kV21 dc21 pm21 an21 cd21 ct21), sl21⟩) (c21 : PySem.W.codeIn K cd21 "_law_term_text" = true) (k21 : PySem.W.keepIn K (.ref f21) = true)
  (a22 : PySem.W.nsIn K mainGlobals "_law_rank" = some (some (.ref f22))) (l22 : K.lookup f22 = some ⟨oc22, od22, .func (PySem.W.fnOf "_law_rank" "_law_rank" (defArgs s__law_rank) (defBody s__law_rank) (defScope s__law_rank) .none kV22 dc22 pm22 an22 cd22 ct22), sl22⟩) (c22 : PySem.W.codeIn K cd22 "_law_rank" = true) (k22 : PySem.W.keepIn K (.ref f22) = true)
  (a23 : PySem.W.nsIn K mainGlobals "_law_side" = some (some (.ref f23))) (l23 : K.lookup f23 = some ⟨oc23, od23, .func (PySem.W.fnOf "_law_side" "_law_side" (defArgs s__law_side) (defBody s__law_side) (defScope s__law_side) .none kV23 dc23 pm23 an23 cd23 ct23), sl23⟩) (c23 : PySem.W.codeIn K cd23 "_law_side" = true) (k23 : PySem.W.keepIn K (.ref f23) = true)
  (a24 : PySem.W.nsIn K mainGlobals "_law_text" = some (some (.ref f24))) (l24 : K.lookup f24 = some ⟨oc24, od24, .func (PySem.W.fnOf "_law_text" "_law_text" (defArgs s__law_text) (defBody s__law_text) (defScope s__law_text) .none kV24 dc24 pm24 an24 cd24 ct24), sl24⟩) (c24 : PySem.W.codeIn K cd24 "_law_text" = true) (k24 : PySem.W.keepIn K (.ref f24) = true)
  (a25 : PySem.W.nsIn K mainGlobals "_law_size" = some (some (.ref f25))) (l25 : K.lookup f25 = some ⟨oc25, od25, .func (PySem.W.fnOf "_law_size" "_law_size" (defArgs s__law_size) (defBody s__law_size) (defScope s__law_size) .none kV25 dc25 pm25 an25 cd25 ct25), sl25⟩) (c25 : PySem.W.codeIn K cd25 "_law_size" = true) (k25 : PySem.W.keepIn K (.ref f25) = true)
  (a26 : PySem.W.findIn K (.ref C_Reader) "work" = some (some (.ref f26))) (n26 : PySem.W.isFn K (.ref f26) = true) (l26 : K.lookup f26 = some ⟨oc26, od26, .func (PySem.W.fnOf "work" "Reader.work" (defArgs s_Reader_work) (defBody s_Reader_work) (defScope s_Reader_work) .none kV26 dc26 pm26 an26 cd26 ct26), sl26⟩) (c26 : PySem.W.codeIn K cd26 "Reader.work" = true) (k26 : PySem.W.keepIn K (.ref f26) = true)
  (a27 : PySem.W.findIn K (.ref C_Reader) "do_term" = some (some (.ref f27))) (n27 : PySem.W.isFn K (.ref f27) = true) (l27 : K.lookup f27 = some ⟨oc27, od27, .func (PySem.W.fnOf "do_term" "Parser.do_term" (defArgs s_Reader_do_term) (defBody s_Reader_do_term) (defScope s_Reader_do_term) .none kV27 dc27 pm27 an27 cd27 ct27), sl27⟩) (c27 : PySem.W.codeIn K cd27 "Parser.do_term" = true) (k27 : PySem.W.keepIn K (.ref f27) = true)
  (a28 : PySem.W.findIn K (.ref C_Reader) "do_variable" = some (some (.ref f28))) (n28 : PySem.W.isFn K (.ref f28) = true) (l28 : K.lookup f28 = some ⟨oc28, od28, .func (PySem.W.fnOf "do_variable" "Parser.do_variable" (defArgs s_Reader_do_variable) (defBody s_Reader_do_variable) (defScope s_Reader_do_variable) .none kV28 dc28 pm28 an28 cd28 ct28), sl28⟩) (c28 : PySem.W.codeIn K cd28 "Parser.do_variable" = true) (k28 : PySem.W.keepIn K (.ref f28) = true)
  (a29 : PySem.W.findIn K (.ref C_Reader) "do_args" = some (some (.ref f29))) (n29 : PySem.W.isFn K (.ref f29) = true) (l29 : K.lookup f29 = some ⟨oc29, od29, .func (PySem.W.fnOf "do_args" "Parser.do_args" (defArgs s_Reader_do_args) (defBody s_Reader_do_args) (defScope s_Reader_do_args) .none kV29 dc29 pm29 an29 cd29 ct29), sl29⟩) (c29 : PySem.W.codeIn K cd29 "Parser.do_args" = true) (k29 : PySem.W.keepIn K (.ref f29) = true)
  (a30 : PySem.W.findIn K (.ref C_Reader) "do_more" = some (some (.ref f30))) (n30 : PySem.W.isFn K (.ref f30) = true) (l30 : K.lookup f30 = some ⟨oc30, od30, .func (PySem.W.fnOf "do_more" "Parser.do_more" (defArgs s_Reader_do_more) (defBody s_Reader_do_more) (defScope s_Reader_do_more) .none kV30 dc30 pm30 an30 cd30 ct30), sl30⟩) (c30 : PySem.W.codeIn K cd30 "Parser.do_more" = true) (k30 : PySem.W.keepIn K (.ref f30) = true)
  (a31 : PySem.W.findIn K (.ref C_Reader) "do_call" = some (some (.ref f31))) (n31 : PySem.W.isFn K (.ref f31) = true) (l31 : K.lookup f31 = some ⟨oc31, od31, .func (PySem.W.fnOf "do_call" "Parser.do_call" (defArgs s_Reader_do_call) (defBody s_Reader_do_call) (defScope s_Reader_do_call) .none kV31 dc31 pm31 an31 cd31 ct31), sl31⟩) (c31 : PySem.W.codeIn K cd31 "Parser.do_call" = true) (k31 : PySem.W.keepIn K (.ref f31) = true)
  (a32 : PySem.W.findIn K (.ref C_Reader) "do_rel" = some (some (.ref f32))) (n32 : PySem.W.isFn K (.ref f32) = true) (l32 : K.lookup f32 = some ⟨oc32, od32, .func (PySem.W.fnOf "do_rel" "Parser.do_rel" (defArgs s_Reader_do_rel) (defBody s_Reader_do_rel) (defScope s_Reader_do_rel) .none kV32 dc32 pm32 an32 cd32 ct32), sl32⟩) (c32 : PySem.W.codeIn K cd32 "Parser.do_rel" = true) (k32 : PySem.W.keepIn K (.ref f32) = true)
  (a33 : PySem.W.findIn K (.ref C_Reader) "do_same" = some (some (.ref f33))) (n33 : PySem.W.isFn K (.ref f33) = true) (l33 : K.lookup f33 = some ⟨oc33, od33, .func (PySem.W.fnOf "do_same" "Parser.do_same" (defArgs s_Reader_do_same) (defBody s_Reader_do_same) (defScope s_Reader_do_same) .none kV33 dc33 pm33 an33 cd33 ct33), sl33⟩) (c33 : PySem.W.codeIn K cd33 "Parser.do_same" = true) (k33 : PySem.W.keepIn K (.ref f33) = true)
  (a34 : PySem.W.findIn K (.ref C_Reader) "do_statement" = some (some (.ref f34))) (n34 : PySem.W.isFn K (.ref f34) = true) (l34 : K.lookup f34 = some ⟨oc34, od34, .func (PySem.W.fnOf "do_statement" "Parser.do_statement" (defArgs s_Reader_do_statement) (defBody s_Reader_do_statement) (defScope s_Reader_do_statement) .none kV34 dc34 pm34 an34 cd34 ct34), sl34⟩) (c34 : PySem.W.codeIn K cd34 "Parser.do_statement" = true) (k34 : PySem.W.keepIn K (.ref f34) = true)
  (a35 : PySem.W.findIn K (.ref C_Reader) "do_bound" = some (some (.ref f35))) (n35 : PySem.W.isFn K (.ref f35) = true) (l35 : K.lookup f35 = some ⟨oc35, od35, .func (PySem.W.fnOf "do_bound" "Parser.do_bound" (defArgs s_Reader_do_bound) (defBody s_Reader_do_bound) (defScope s_Reader_do_bound) .none kV35 dc35 pm35 an35 cd35 ct35), sl35⟩) (c35 : PySem.W.codeIn K cd35 "Parser.do_bound" = true) (k35 : PySem.W.keepIn K (.ref f35) = true)
  (a36 : PySem.W.findIn K (.ref C_Reader) "do_level" = some (some (.ref f36))) (n36 : PySem.W.isFn K (.ref f36) = true) (l36 : K.lookup f36 = some ⟨oc36, od36, .func (PySem.W.fnOf "do_level" "Parser.do_level" (defArgs s_Reader_do_level) (defBody s_Reader_do_level) (defScope s_Reader_do_level) .none kV36 dc36 pm36 an36 cd36 ct36), sl36⟩) (c36 : PySem.W.codeIn K cd36 "Parser.do_level" = true) (k36 : PySem.W.keepIn K (.ref f36) = true)
  (a37 : PySem.W.findIn K (.ref C_Reader) "do_rest" = some (some (.ref f37))) (n37 : PySem.W.isFn K (.ref f37) = true) (l37 : K.lookup f37 = some ⟨oc37, od37, .func (PySem.W.fnOf "do_rest" "Parser.do_rest" (defArgs s_Reader_do_rest) (defBody s_Reader_do_rest) (defScope s_Reader_do_rest) .none kV37 dc37 pm37 an37 cd37 ct37), sl37⟩) (c37 : PySem.W.codeIn K cd37 "Parser.do_rest" = true) (k37 : PySem.W.keepIn K (.ref f37) = true)
  (a38 : PySem.W.findIn K (.ref C_Reader) "do_not" = some (some (.ref f38))) (n38 : PySem.W.isFn K (.ref f38) = true) (l38 : K.lookup f38 = some ⟨oc38, od38, .func (PySem.W.fnOf "do_not" "Parser.do_not" (defArgs s_Reader_do_not) (defBody s_Reader_do_not) (defScope s_Reader_do_not) .none kV38 dc38 pm38 an38 cd38 ct38), sl38⟩) (c38 : PySem.W.codeIn K cd38 "Parser.do_not" = true) (k38 : PySem.W.keepIn K (.ref f38) = true)
  (a39 : PySem.W.findIn K (.ref C_Reader) "work_plain" = some (some (.ref f39))) (n39 : PySem.W.isFn K (.ref f39) = true) (l39 : K.lookup f39 = some ⟨oc39, od39, .func (PySem.W.fnOf "work_plain" "Parser.work_plain" (defArgs s_Reader_work_plain) (defBody s_Reader_work_plain) (defScope s_Reader_work_plain) .none kV39 dc39 pm39 an39 cd39 ct39), sl39⟩) (c39 : PySem.W.codeIn K cd39 "Parser.work_plain" = true) (k39 : PySem.W.keepIn K (.ref f39) = true)
  (a40 : PySem.W.findIn K (.ref C_Reader) "work_made" = some (some (.ref f40))) (n40 : PySem.W.isFn K (.ref f40) = true) (l40 : K.lookup f40 = some ⟨oc40, od40, .func (PySem.W.fnOf "work_made" "Parser.work_made" (defArgs s_Reader_work_made) (defBody s_Reader_work_made) (defScope s_Reader_work_made) .none kV40 dc40 pm40 an40 cd40 ct40), sl40⟩) (c40 : PySem.W.codeIn K cd40 "Parser.work_made" = true) (k40 : PySem.W.keepIn K (.ref f40) = true)
  (a41 : PySem.W.findIn K (.ref C_Reader) "run" = some (some (.ref f41))) (n41 : PySem.W.isFn K (.ref f41) = true) (l41 : K.lookup f41 = some ⟨oc41, od41, .func (PySem.W.fnOf "run" "Parser.run" (defArgs s_Reader_run) (defBody s_Reader_run) (defScope s_Reader_run) .none kV41 dc41 pm41 an41 cd41 ct41), sl41⟩) (c41 : PySem.W.codeIn K cd41 "Parser.run" = true) (k41 : PySem.W.keepIn K (.ref f41) = true)
  (a42 : PySem.W.findIn K (.ref C_Reader) "__init__" = some (some (.ref f42))) (n42 : PySem.W.isFn K (.ref f42) = true) (l42 : K.lookup f42 = some ⟨oc42, od42, .func (PySem.W.fnOf "__init__" "Stack.__init__" (defArgs s_Reader___init__) (defBody s_Reader___init__) (defScope s_Reader___init__) .none kV42 dc42 pm42 an42 cd42 ct42), sl42⟩) (c42 : PySem.W.codeIn K cd42 "Stack.__init__" = true) (k42 : PySem.W.keepIn K (.ref f42) = true)
  (a43 : PySem.W.findIn K (.ref C_Reader) "now" = some (some (.ref f43))) (n43 : PySem.W.isFn K (.ref f43) = true) (l43 : K.lookup f43 = some ⟨oc43, od43, .func (PySem.W.fnOf "now" "Stack.now" (defArgs s_Reader_now) (defBody s_Reader_now) (defScope s_Reader_now) .none kV43 dc43 pm43 an43 cd43 ct43), sl43⟩) (c43 : PySem.W.codeIn K cd43 "Stack.now" = true) (k43 : PySem.W.keepIn K (.ref f43) = true)
  (a44 : PySem.W.findIn K (.ref C_Reader) "is_mark" = some (some (.ref f44))) (n44 : PySem.W.isFn K (.ref f44) = true) (l44 : K.lookup f44 = some ⟨oc44, od44, .func (PySem.W.fnOf "is_mark" "Stack.is_mark" (defArgs s_Reader_is_mark) (defBody s_Reader_is_mark) (defScope s_Reader_is_mark) .none kV44 dc44 pm44 an44 cd44 ct44), sl44⟩) (c44 : PySem.W.codeIn K cd44 "Stack.is_mark" = true) (k44 : PySem.W.keepIn K (.ref f44) = true)
  (a45 : PySem.W.findIn K (.ref C_Reader) "is_told" = some (some (.ref f45))) (n45 : PySem.W.isFn K (.ref f45) = true) (l45 : K.lookup f45 = some ⟨oc45, od45, .func (PySem.W.fnOf "is_told" "Stack.is_told" (defArgs s_Reader_is_told) (defBody s_Reader_is_told) (defScope s_Reader_is_told) .none kV45 dc45 pm45 an45 cd45 ct45), sl45⟩) (c45 : PySem.W.codeIn K cd45 "Stack.is_told" = true) (k45 : PySem.W.keepIn K (.ref f45) = true)
  (a46 : PySem.W.findIn K (.ref C_Reader) "go_on" = some (some (.ref f46))) (n46 : PySem.W.isFn K (.ref f46) = true) (l46 : K.lookup f46 = some ⟨oc46, od46, .func (PySem.W.fnOf "go_on" "Stack.go_on" (defArgs s_Reader_go_on) (defBody s_Reader_go_on) (defScope s_Reader_go_on) .none kV46 dc46 pm46 an46 cd46 ct46), sl46⟩) (c46 : PySem.W.codeIn K cd46 "Stack.go_on" = true) (k46 : PySem.W.keepIn K (.ref f46) = true)
  (a47 : PySem.W.findIn K (.ref C_Reader) "need_word" = some (some (.ref f47))) (n47 : PySem.W.isFn K (.ref f47) = true) (l47 : K.lookup f47 = some ⟨oc47, od47, .func (PySem.W.fnOf "need_word" "Stack.need_word" (defArgs s_Reader_need_word) (defBody s_Reader_need_word) (defScope s_Reader_need_word) .none kV47 dc47 pm47 an47 cd47 ct47), sl47⟩) (c47 : PySem.W.codeIn K cd47 "Stack.need_word" = true) (k47 : PySem.W.keepIn K (.ref f47) = true)
  (a48 : PySem.W.findIn K (.ref C_Reader) "need_kind" = some (some (.ref f48))) (n48 : PySem.W.isFn K (.ref f48) = true) (l48 : K.lookup f48 = some ⟨oc48, od48, .func (PySem.W.fnOf "need_kind" "Stack.need_kind" (defArgs s_Reader_need_kind) (defBody s_Reader_need_kind) (defScope s_Reader_need_kind) .none kV48 dc48 pm48 an48 cd48 ct48), sl48⟩) (c48 : PySem.W.codeIn K cd48 "Stack.need_kind" = true) (k48 : PySem.W.keepIn K (.ref f48) = true)
  (a49 : PySem.W.findIn K (.ref C_Reader) "plan" = some (some (.ref f49))) (n49 : PySem.W.isFn K (.ref f49) = true) (l49 : K.lookup f49 = some ⟨oc49, od49, .func (PySem.W.fnOf "plan" "Stack.plan" (defArgs s_Reader_plan) (defBody s_Reader_plan) (defScope s_Reader_plan) .none kV49 dc49 pm49 an49 cd49 ct49), sl49⟩) (c49 : PySem.W.codeIn K cd49 "Stack.plan" = true) (k49 : PySem.W.keepIn K (.ref f49) = true)
  (a50 : PySem.W.findIn K (.ref C_Reader) "pop_many" = some (some (.ref f50))) (n50 : PySem.W.isFn K (.ref f50) = true) (l50 : K.lookup f50 = some ⟨oc50, od50, .func (PySem.W.fnOf "pop_many" "Stack.pop_many" (defArgs s_Reader_pop_many) (defBody s_Reader_pop_many) (defScope s_Reader_pop_many) .none kV50 dc50 pm50 an50 cd50 ct50), sl50⟩) (c50 : PySem.W.codeIn K cd50 "Stack.pop_many" = true) (k50 : PySem.W.keepIn K (.ref f50) = true)
  (a51 : PySem.W.findIn K (.ref C_Reader) "make" = some (some (.ref f51))) (n51 : PySem.W.isFn K (.ref f51) = true) (l51 : K.lookup f51 = some ⟨oc51, od51, .func (PySem.W.fnOf "make" "Stack.make" (defArgs s_Reader_make) (defBody s_Reader_make) (defScope s_Reader_make) .none kV51 dc51 pm51 an51 cd51 ct51), sl51⟩) (c51 : PySem.W.codeIn K cd51 "Stack.make" = true) (k51 : PySem.W.keepIn K (.ref f51) = true)
  (a52 : PySem.W.findIn K (.ref C_Reader) "make_call" = some (some (.ref f52))) (n52 : PySem.W.isFn K (.ref f52) = true) (l52 : K.lookup f52 = some ⟨oc52, od52, .func (PySem.W.fnOf "make_call" "Stack.make_call" (defArgs s_Reader_make_call) (defBody s_Reader_make_call) (defScope s_Reader_make_call) .none kV52 dc52 pm52 an52 cd52 ct52), sl52⟩) (c52 : PySem.W.codeIn K cd52 "Stack.make_call" = true) (k52 : PySem.W.keepIn K (.ref f52) = true)
  (a53 : PySem.W.findIn K (.ref C_Reader) "make_bound" = some (some (.ref f53))) (n53 : PySem.W.isFn K (.ref f53) = true) (l53 : K.lookup f53 = some ⟨oc53, od53, .func (PySem.W.fnOf "make_bound" "Stack.make_bound" (defArgs s_Reader_make_bound) (defBody s_Reader_make_bound) (defScope s_Reader_make_bound) .none kV53 dc53 pm53 an53 cd53 ct53), sl53⟩) (c53 : PySem.W.codeIn K cd53 "Stack.make_bound" = true) (k53 : PySem.W.keepIn K (.ref f53) = true)
  (a54 : PySem.W.findIn K (.ref C_Reader) "make_not" = some (some (.ref f54))) (n54 : PySem.W.isFn K (.ref f54) = true) (l54 : K.lookup f54 = some ⟨oc54, od54, .func (PySem.W.fnOf "make_not" "Stack.make_not" (defArgs s_Reader_make_not) (defBody s_Reader_make_not) (defScope s_Reader_make_not) .none kV54 dc54 pm54 an54 cd54 ct54), sl54⟩) (c54 : PySem.W.codeIn K cd54 "Stack.make_not" = true) (k54 : PySem.W.keepIn K (.ref f54) = true)
  (a55 : PySem.W.nsIn K mainGlobals "law" = some (some (.ref f55))) (l55 : K.lookup f55 = some ⟨oc55, od55, .func (PySem.W.fnOf "law" "law" (defArgs s_law) (defBody s_law) (defScope s_law) .none kV55 dc55 pm55 an55 cd55 ct55), sl55⟩) (c55 : PySem.W.codeIn K cd55 "law" = true) (k55 : PySem.W.keepIn K (.ref f55) = true)
  (z_all : PySem.W.nsIn K mainGlobals "all" = some none)
  (z_int : PySem.W.nsIn K mainGlobals "int" = some none)
  (z_isinstance : PySem.W.nsIn K mainGlobals "isinstance" = some none)
  (z_len : PySem.W.nsIn K mainGlobals "len" = some none)
  (z_max : PySem.W.nsIn K mainGlobals "max" = some none)
  (z_range : PySem.W.nsIn K mainGlobals "range" = some none)
  (z_repr : PySem.W.nsIn K mainGlobals "repr" = some none)
  (z_str : PySem.W.nsIn K mainGlobals "str" = some none)
  (z_sum : PySem.W.nsIn K mainGlobals "sum" = some none)
  (z_tuple : PySem.W.nsIn K mainGlobals "tuple" = some none)
  {ca_MARKS_writing : Addr} {nn_MARKS_writing : Nat} {tk0_MARKS_writing tv0_MARKS_writing tk1_MARKS_writing tv1_MARKS_writing tk2_MARKS_writing tv2_MARKS_writing : Tok}  (g_MARKS_writing : PySem.W.nsIn K mainGlobals "MARKS_writing" = some (some (.ref ca_MARKS_writing))) (gl_MARKS_writing : K.lookup ca_MARKS_writing = some ⟨.type "dict", none, .dict #[⟨PyData.keyHash w.params "if", .str "if" tk0_MARKS_writing, .str " -> " tv0_MARKS_writing⟩, ⟨PyData.keyHash w.params "or", .str "or" tk1_MARKS_writing, .str " | " tv1_MARKS_writing⟩, ⟨PyData.keyHash w.params "and", .str "and" tk2_MARKS_writing, .str " & " tv2_MARKS_writing⟩] nn_MARKS_writing, #[]⟩) (gs_MARKS_writing : (ca_MARKS_writing == sysModules) = false) 
  {ca_RANKS : Addr} {nn_RANKS : Nat} {tk0_RANKS tv0_RANKS tk1_RANKS tv1_RANKS tk2_RANKS tv2_RANKS tk3_RANKS tv3_RANKS tk4_RANKS tv4_RANKS : Tok}  (g_RANKS : PySem.W.nsIn K mainGlobals "RANKS" = some (some (.ref ca_RANKS))) (gl_RANKS : K.lookup ca_RANKS = some ⟨.type "dict", none, .dict #[⟨PyData.keyHash w.params "all", .str "all" tk0_RANKS, .int 0 tv0_RANKS⟩, ⟨PyData.keyHash w.params "some", .str "some" tk1_RANKS, .int 0 tv1_RANKS⟩, ⟨PyData.keyHash w.params "if", .str "if" tk2_RANKS, .int 1 tv2_RANKS⟩, ⟨PyData.keyHash w.params "or", .str "or" tk3_RANKS, .int 2 tv3_RANKS⟩, ⟨PyData.keyHash w.params "and", .str "and" tk4_RANKS, .int 3 tv4_RANKS⟩] nn_RANKS, #[]⟩) (gs_RANKS : (ca_RANKS == sysModules) = false) 
  {tk_FIGURES : Tok} (g_FIGURES : PySem.W.nsIn K mainGlobals "FIGURES" = some (some (.str "0123456789" tk_FIGURES)))
  {ca_FORMS : Addr} {dd_FORMS : Option Addr} {ss_FORMS : Array (Option Value)} {tk0_FORMS tk1_FORMS tk2_FORMS tk3_FORMS tk4_FORMS tk5_FORMS tk6_FORMS tk7_FORMS tk8_FORMS tk9_FORMS tk10_FORMS tk11_FORMS tk12_FORMS tk13_FORMS tk14_FORMS tk15_FORMS tk16_FORMS tk17_FORMS tk18_FORMS tk19_FORMS tk20_FORMS : Tok} {nn_FORMS : Nat} (g_FORMS : PySem.W.nsIn K mainGlobals "FORMS" = some (some (.ref ca_FORMS))) (gl_FORMS : K.lookup ca_FORMS = some ⟨.type "tuple", dd_FORMS, .seq #[.str "held" tk0_FORMS, .str "use" tk1_FORMS, .str "pair" tk2_FORMS, .str "first" tk3_FORMS, .str "second" tk4_FORMS, .str "either" tk5_FORMS, .str "other" tk6_FORMS, .str "cases" tk7_FORMS, .str "take" tk8_FORMS, .str "give" tk9_FORMS, .str "void" tk10_FORMS, .str "twice" tk11_FORMS, .str "each" tk12_FORMS, .str "at" tk13_FORMS, .str "open" tk14_FORMS, .str "alike" tk15_FORMS, .str "swap" tk16_FORMS, .str "members" tk17_FORMS, .str "unlike" tk18_FORMS, .str "fold" tk19_FORMS, .str "unfold" tk20_FORMS] nn_FORMS, ss_FORMS⟩)
  {ca_KINDS : Addr} {dd_KINDS : Option Addr} {ss_KINDS : Array (Option Value)} {tk0_KINDS tk1_KINDS tk2_KINDS : Tok} {nn_KINDS : Nat} (g_KINDS : PySem.W.nsIn K mainGlobals "KINDS" = some (some (.ref ca_KINDS))) (gl_KINDS : K.lookup ca_KINDS = some ⟨.type "tuple", dd_KINDS, .seq #[.str "if" tk0_KINDS, .str "or" tk1_KINDS, .str "and" tk2_KINDS] nn_KINDS, ss_KINDS⟩)
  {tk_MARKS_words : Tok} (g_MARKS_words : PySem.W.nsIn K mainGlobals "MARKS_words" = some (some (.str "()[],.:=&|~" tk_MARKS_words)))
  {tk_MOST_DEEP : Tok} (g_MOST_DEEP : PySem.W.nsIn K mainGlobals "MOST_DEEP" = some (some (.int 40 tk_MOST_DEEP)))
  {tk_MOST_FIGURES : Tok} (g_MOST_FIGURES : PySem.W.nsIn K mainGlobals "MOST_FIGURES" = some (some (.int 30 tk_MOST_FIGURES)))
  {tk_MOST_LETTERS : Tok} (g_MOST_LETTERS : PySem.W.nsIn K mainGlobals "MOST_LETTERS" = some (some (.int 10 tk_MOST_LETTERS)))
  {tk_MOST_PARTS : Tok} (g_MOST_PARTS : PySem.W.nsIn K mainGlobals "MOST_PARTS" = some (some (.int 400 tk_MOST_PARTS)))
  {tk_MOST_RANK : Tok} (g_MOST_RANK : PySem.W.nsIn K mainGlobals "MOST_RANK" = some (some (.int 5 tk_MOST_RANK)))
  {tk_MOST_SIGNS : Tok} (g_MOST_SIGNS : PySem.W.nsIn K mainGlobals "MOST_SIGNS" = some (some (.int 20000 tk_MOST_SIGNS)))
  {tk_NOT_LEVEL : Tok} (g_NOT_LEVEL : PySem.W.nsIn K mainGlobals "NOT_LEVEL" = some (some (.int 3 tk_NOT_LEVEL)))
  {tk_NOT_RANK : Tok} (g_NOT_RANK : PySem.W.nsIn K mainGlobals "NOT_RANK" = some (some (.int 4 tk_NOT_RANK)))
  {ca_NO_stack : Addr} {dd_NO_stack : Option Addr} {ss_NO_stack : Array (Option Value)} {tk0_NO_stack : Tok} {nn_NO_stack : Nat} (g_NO_stack : PySem.W.nsIn K mainGlobals "NO_stack" = some (some (.ref ca_NO_stack))) (gl_NO_stack : K.lookup ca_NO_stack = some ⟨.type "tuple", dd_NO_stack, .seq #[.str "no" tk0_NO_stack] nn_NO_stack, ss_NO_stack⟩)
  {ca_NO_writing : Addr} {dd_NO_writing : Option Addr} {ss_NO_writing : Array (Option Value)} {tk0_NO_writing : Tok} {nn_NO_writing : Nat} (g_NO_writing : PySem.W.nsIn K mainGlobals "NO_writing" = some (some (.ref ca_NO_writing))) (gl_NO_writing : K.lookup ca_NO_writing = some ⟨.type "tuple", dd_NO_writing, .seq #[.str "no" tk0_NO_writing] nn_NO_writing, ss_NO_writing⟩)
  {ca_SIGNS : Addr} {dd_SIGNS : Option Addr} {ss_SIGNS : Array (Option Value)} {tk0_SIGNS tk1_SIGNS tk2_SIGNS : Tok} {nn_SIGNS : Nat} (g_SIGNS : PySem.W.nsIn K mainGlobals "SIGNS" = some (some (.ref ca_SIGNS))) (gl_SIGNS : K.lookup ca_SIGNS = some ⟨.type "tuple", dd_SIGNS, .seq #[.str "->" tk0_SIGNS, .str "|" tk1_SIGNS, .str "&" tk2_SIGNS] nn_SIGNS, ss_SIGNS⟩)
  {tk_SMALL : Tok} (g_SMALL : PySem.W.nsIn K mainGlobals "SMALL" = some (some (.str "abcdefghijklmnopqrstuvwxyz" tk_SMALL)))
  {ca_TOLD : Addr} {dd_TOLD : Option Addr} {ss_TOLD : Array (Option Value)} {tk0_TOLD tk1_TOLD tk2_TOLD tk3_TOLD tk4_TOLD tk5_TOLD tk6_TOLD tk7_TOLD tk8_TOLD tk9_TOLD tk10_TOLD : Tok} {nn_TOLD : Nat} (g_TOLD : PySem.W.nsIn K mainGlobals "TOLD" = some (some (.ref ca_TOLD))) (gl_TOLD : K.lookup ca_TOLD = some ⟨.type "tuple", dd_TOLD, .seq #[.str "no" tk0_TOLD, .str "same" tk1_TOLD, .str "all" tk2_TOLD, .str "some" tk3_TOLD, .str "sort" tk4_TOLD, .str "func" tk5_TOLD, .str "rel" tk6_TOLD, .str "mean" tk7_TOLD, .str "taken" tk8_TOLD, .str "shown" tk9_TOLD, .str "by" tk10_TOLD] nn_TOLD, ss_TOLD⟩)
  (hp : ∀ ns : List Int, ns.length ≤ 63 → (∀ z ∈ ns, Builtin.Int.intBits z ≤ 1048576) → ∃ z', m_law (mir lawLevel) (zX 10 ns) = .ok (.rt (.d (.bl true))) z') :
  ∃ fd : FuncData, (∀ (s : Shared) (v : Value), BindsTo s fd ⟨[v], []⟩ [("_law_script", v)]) ∧ ∀ base : Heap, SysB base → K.In base → base.Ns mainGlobals mg → FnG l.prog w K mg base (L2.CX l.prog w) (lawLevel + 9) fa fd ["_law_script"] (spLaw K) := by
 have e := hfa.symm.trans (PySem.W.mg_of X G0 a55)
 cases e
 have T : Tt K mg w.params C_Reader := ⟨clF_mk ca_Reader cb1_Reader cb2_Reader cb3_Reader cb4_Reader, na_Reader_at, na_Reader_length, na_Reader_made, na_Reader_many, na_Reader_todo, na_Reader_words, fnIn_mk X G0 a0 l0 c0 k0 (fun _ _ _ _ _ _ us hl => match us, hl with | [_, _, _], _ => rfl), fnIn_mk X G0 a1 l1 c1 k1 (fun _ _ _ _ _ _ us hl => match us, hl with | [_, _], _ => rfl), fnIn_mk X G0 a2 l2 c2 k2 (fun _ _ _ _ _ _ us hl => match us, hl with | [_], _ => rfl), fnIn_mk X G0 a3 l3 c3 k3 (fun _ _ _ _ _ _ us hl => match us, hl with | [_], _ => rfl), fnIn_mk X G0 a4 l4 c4 k4 (fun _ _ _ _ _ _ us hl => match us, hl with | [_, _, _], _ => rfl), fnIn_mk X G0 a5 l5 c5 k5 (fun _ _ _ _ _ _ us hl => match us, hl with | [_, _], _ => rfl), fnIn_mk X G0 a6 l6 c6 k6 (fun _ _ _ _ _ _ us hl => match us, hl with | [_, _], _ => rfl), fnIn_mk X G0 a7 l7 c7 k7 (fun _ _ _ _ _ _ us hl => match us, hl with | [_], _ => rfl), fnIn_mk X G0 a8 l8 c8 k8 (fun _ _ _ _ _ _ us hl => match us, hl with | [_], _ => rfl), fnIn_mk X G0 a9 l9 c9 k9 (fun _ _ _ _ _ _ us hl => match us, hl with | [_, _], _ => rfl), fnIn_mk X G0 a10 l10 c10 k10 (fun _ _ _ _ _ _ us hl => match us, hl with | [_], _ => rfl), fnIn_mk X G0 a11 l11 c11 k11 (fun _ _ _ _ _ _ us hl => match us, hl with | [_], _ => rfl), fnIn_mk X G0 a12 l12 c12 k12 (fun _ _ _ _ _ _ us hl => match us, hl with | [_, _, _], _ => rfl), fnIn_mk X G0 a13 l13 c13 k13 (fun _ _ _ _ _ _ us hl => match us, hl with | [_, _, _], _ => rfl), fnIn_mk X G0 a14 l14 c14 k14 (fun _ _ _ _ _ _ us hl => match us, hl with | [_, _], _ => rfl), fnIn_mk X G0 a15 l15 c15 k15 (fun _ _ _ _ _ _ us hl => match us, hl with | [_, _], _ => rfl), fnIn_mk X G0 a16 l16 c16 k16 (fun _ _ _ _ _ _ us hl => match us, hl with | [_, _], _ => rfl), fnIn_mk X G0 a17 l17 c17 k17 (fun _ _ _ _ _ _ us hl => match us, hl with | [_], _ => rfl), fnIn_mk X G0 a18 l18 c18 k18 (fun _ _ _ _ _ _ us hl => match us, hl with | [_, _, _, _], _ => rfl), fnIn_mk X G0 a19 l19 c19 k19 (fun _ _ _ _ _ _ us hl => match us, hl with | [_, _, _, _], _ => rfl), fnIn_mk X G0 a20 l20 c20 k20 (fun _ _ _ _ _ _ us hl => match us, hl with | [_, _, _], _ => rfl), fnIn_mk X G0 a21 l21 c21 k21 (fun _ _ _ _ _ _ us hl => match us, hl with | [_, _], _ => rfl), fnIn_mk X G0 a22 l22 c22 k22 (fun _ _ _ _ _ _ us hl => match us, hl with | [_], _ => rfl), fnIn_mk X G0 a23 l23 c23 k23 (fun _ _ _ _ _ _ us hl => match us, hl with | [_, _, _, _], _ => rfl), fnIn_mk X G0 a24 l24 c24 k24 (fun _ _ _ _ _ _ us hl => match us, hl with | [_, _, _], _ => rfl), fnIn_mk X G0 a25 l25 c25 k25 (fun _ _ _ _ _ _ us hl => match us, hl with | [_], _ => rfl), meIn_mk (clF_mk ca_Reader cb1_Reader cb2_Reader cb3_Reader cb4_Reader) a26 n26 l26 c26 k26 (fun _ _ _ _ _ _ us hl => match us, hl with | [_, _], _ => rfl), meIn_mk (clF_mk ca_Reader cb1_Reader cb2_Reader cb3_Reader cb4_Reader) a27 n27 l27 c27 k27 (fun _ _ _ _ _ _ us hl => match us, hl with | [_], _ => rfl), meIn_mk (clF_mk ca_Reader cb1_Reader cb2_Reader cb3_Reader cb4_Reader) a28 n28 l28 c28 k28 (fun _ _ _ _ _ _ us hl => match us, hl with | [_], _ => rfl), meIn_mk (clF_mk ca_Reader cb1_Reader cb2_Reader cb3_Reader cb4_Reader) a29 n29 l29 c29 k29 (fun _ _ _ _ _ _ us hl => match us, hl with | [_], _ => rfl), meIn_mk (clF_mk ca_Reader cb1_Reader cb2_Reader cb3_Reader cb4_Reader) a30 n30 l30 c30 k30 (fun _ _ _ _ _ _ us hl => match us, hl with | [_, _], _ => rfl), meIn_mk (clF_mk ca_Reader cb1_Reader cb2_Reader cb3_Reader cb4_Reader) a31 n31 l31 c31 k31 (fun _ _ _ _ _ _ us hl => match us, hl with | [_, _], _ => rfl), meIn_mk (clF_mk ca_Reader cb1_Reader cb2_Reader cb3_Reader cb4_Reader) a32 n32 l32 c32 k32 (fun _ _ _ _ _ _ us hl => match us, hl with | [_, _], _ => rfl), meIn_mk (clF_mk ca_Reader cb1_Reader cb2_Reader cb3_Reader cb4_Reader) a33 n33 l33 c33 k33 (fun _ _ _ _ _ _ us hl => match us, hl with | [_], _ => rfl), meIn_mk (clF_mk ca_Reader cb1_Reader cb2_Reader cb3_Reader cb4_Reader) a34 n34 l34 c34 k34 (fun _ _ _ _ _ _ us hl => match us, hl with | [_], _ => rfl), meIn_mk (clF_mk ca_Reader cb1_Reader cb2_Reader cb3_Reader cb4_Reader) a35 n35 l35 c35 k35 (fun _ _ _ _ _ _ us hl => match us, hl with | [_, _], _ => rfl), meIn_mk (clF_mk ca_Reader cb1_Reader cb2_Reader cb3_Reader cb4_Reader) a36 n36 l36 c36 k36 (fun _ _ _ _ _ _ us hl => match us, hl with | [_, _], _ => rfl), meIn_mk (clF_mk ca_Reader cb1_Reader cb2_Reader cb3_Reader cb4_Reader) a37 n37 l37 c37 k37 (fun _ _ _ _ _ _ us hl => match us, hl with | [_, _], _ => rfl), meIn_mk (clF_mk ca_Reader cb1_Reader cb2_Reader cb3_Reader cb4_Reader) a38 n38 l38 c38 k38 (fun _ _ _ _ _ _ us hl => match us, hl with | [_], _ => rfl), meIn_mk (clF_mk ca_Reader cb1_Reader cb2_Reader cb3_Reader cb4_Reader) a39 n39 l39 c39 k39 (fun _ _ _ _ _ _ us hl => match us, hl with | [_, _], _ => rfl), meIn_mk (clF_mk ca_Reader cb1_Reader cb2_Reader cb3_Reader cb4_Reader) a40 n40 l40 c40 k40 (fun _ _ _ _ _ _ us hl => match us, hl with | [_, _], _ => rfl), meIn_mk (clF_mk ca_Reader cb1_Reader cb2_Reader cb3_Reader cb4_Reader) a41 n41 l41 c41 k41 (fun _ _ _ _ _ _ us hl => match us, hl with | [_, _], _ => rfl), mkIn_mk X G0 (clF_mk ca_Reader cb1_Reader cb2_Reader cb3_Reader cb4_Reader) ca_Reader cm1_Reader cm2_Reader a42 n42 l42 c42 k42 (fun _ _ _ _ _ _ us hl => match us, hl with | [_, _, _, _], _ => rfl), meIn_mk (clF_mk ca_Reader cb1_Reader cb2_Reader cb3_Reader cb4_Reader) a43 n43 l43 c43 k43 (fun _ _ _ _ _ _ us hl => match us, hl with | [_], _ => rfl), meIn_mk (clF_mk ca_Reader cb1_Reader cb2_Reader cb3_Reader cb4_Reader) a44 n44 l44 c44 k44 (fun _ _ _ _ _ _ us hl => match us, hl with | [_, _], _ => rfl), meIn_mk (clF_mk ca_Reader cb1_Reader cb2_Reader cb3_Reader cb4_Reader) a45 n45 l45 c45 k45 (fun _ _ _ _ _ _ us hl => match us, hl with | [_, _], _ => rfl), meIn_mk (clF_mk ca_Reader cb1_Reader cb2_Reader cb3_Reader cb4_Reader) a46 n46 l46 c46 k46 (fun _ _ _ _ _ _ us hl => match us, hl with | [_], _ => rfl), meIn_mk (clF_mk ca_Reader cb1_Reader cb2_Reader cb3_Reader cb4_Reader) a47 n47 l47 c47 k47 (fun _ _ _ _ _ _ us hl => match us, hl with | [_, _, _], _ => rfl), meIn_mk (clF_mk ca_Reader cb1_Reader cb2_Reader cb3_Reader cb4_Reader) a48 n48 l48 c48 k48 (fun _ _ _ _ _ _ us hl => match us, hl with | [_, _], _ => rfl), meIn_mk (clF_mk ca_Reader cb1_Reader cb2_Reader cb3_Reader cb4_Reader) a49 n49 l49 c49 k49 (fun _ _ _ _ _ _ us hl => match us, hl with | [_, _], _ => rfl), meIn_mk (clF_mk ca_Reader cb1_Reader cb2_Reader cb3_Reader cb4_Reader) a50 n50 l50 c50 k50 (fun _ _ _ _ _ _ us hl => match us, hl with | [_, _], _ => rfl), meIn_mk (clF_mk ca_Reader cb1_Reader cb2_Reader cb3_Reader cb4_Reader) a51 n51 l51 c51 k51 (fun _ _ _ _ _ _ us hl => match us, hl with | [_, _, _], _ => rfl), meIn_mk (clF_mk ca_Reader cb1_Reader cb2_Reader cb3_Reader cb4_Reader) a52 n52 l52 c52 k52 (fun _ _ _ _ _ _ us hl => match us, hl with | [_, _, _, _], _ => rfl), meIn_mk (clF_mk ca_Reader cb1_Reader cb2_Reader cb3_Reader cb4_Reader) a53 n53 l53 c53 k53 (fun _ _ _ _ _ _ us hl => match us, hl with | [_, _, _], _ => rfl), meIn_mk (clF_mk ca_Reader cb1_Reader cb2_Reader cb3_Reader cb4_Reader) a54 n54 l54 c54 k54 (fun _ _ _ _ _ _ us hl => match us, hl with | [_], _ => rfl), PySem.W.mg_none_of X G0 z_all, PySem.W.mg_none_of X G0 z_int, PySem.W.mg_none_of X G0 z_isinstance, PySem.W.mg_none_of X G0 z_len, PySem.W.mg_none_of X G0 z_max, PySem.W.mg_none_of X G0 z_range, PySem.W.mg_none_of X G0 z_repr, PySem.W.mg_none_of X G0 z_str, PySem.W.mg_none_of X G0 z_sum, PySem.W.mg_none_of X G0 z_tuple, ⟨.str "0123456789", _, PySem.W.mg_of X G0 g_FIGURES, ⟨_, rfl⟩, fun _ => .str _⟩, glD_strs ["held", "use", "pair", "first", "second", "either", "other", "cases", "take", "give", "void", "twice", "each", "at", "open", "alike", "swap", "members", "unlike", "fold", "unfold"] (PySem.W.mg_of X G0 g_FORMS) gl_FORMS rfl rfl (.cons ⟨_, rfl⟩ (.cons ⟨_, rfl⟩ (.cons ⟨_, rfl⟩ (.cons ⟨_, rfl⟩ (.cons ⟨_, rfl⟩ (.cons ⟨_, rfl⟩ (.cons ⟨_, rfl⟩ (.cons ⟨_, rfl⟩ (.cons ⟨_, rfl⟩ (.cons ⟨_, rfl⟩ (.cons ⟨_, rfl⟩ (.cons ⟨_, rfl⟩ (.cons ⟨_, rfl⟩ (.cons ⟨_, rfl⟩ (.cons ⟨_, rfl⟩ (.cons ⟨_, rfl⟩ (.cons ⟨_, rfl⟩ (.cons ⟨_, rfl⟩ (.cons ⟨_, rfl⟩ (.cons ⟨_, rfl⟩ (.cons ⟨_, rfl⟩ .nil))))))))))))))))))))) (by decide), glD_strs ["if", "or", "and"] (PySem.W.mg_of X G0 g_KINDS) gl_KINDS rfl rfl (.cons ⟨_, rfl⟩ (.cons ⟨_, rfl⟩ (.cons ⟨_, rfl⟩ .nil))) (by decide), ⟨.str "()[],.:=&|~", _, PySem.W.mg_of X G0 g_MARKS_words, ⟨_, rfl⟩, fun _ => .str _⟩, ⟨.int 40, _, PySem.W.mg_of X G0 g_MOST_DEEP, ⟨_, rfl⟩, fun _ => .int _⟩, ⟨.int 30, _, PySem.W.mg_of X G0 g_MOST_FIGURES, ⟨_, rfl⟩, fun _ => .int _⟩, ⟨.int 10, _, PySem.W.mg_of X G0 g_MOST_LETTERS, ⟨_, rfl⟩, fun _ => .int _⟩, ⟨.int 400, _, PySem.W.mg_of X G0 g_MOST_PARTS, ⟨_, rfl⟩, fun _ => .int _⟩, ⟨.int 5, _, PySem.W.mg_of X G0 g_MOST_RANK, ⟨_, rfl⟩, fun _ => .int _⟩, ⟨.int 20000, _, PySem.W.mg_of X G0 g_MOST_SIGNS, ⟨_, rfl⟩, fun _ => .int _⟩, ⟨.int 3, _, PySem.W.mg_of X G0 g_NOT_LEVEL, ⟨_, rfl⟩, fun _ => .int _⟩, ⟨.int 4, _, PySem.W.mg_of X G0 g_NOT_RANK, ⟨_, rfl⟩, fun _ => .int _⟩, glD_strs ["no"] (PySem.W.mg_of X G0 g_NO_stack) gl_NO_stack rfl rfl (.cons ⟨_, rfl⟩ .nil) (by decide), glD_strs ["no"] (PySem.W.mg_of X G0 g_NO_writing) gl_NO_writing rfl rfl (.cons ⟨_, rfl⟩ .nil) (by decide), glD_strs ["->", "|", "&"] (PySem.W.mg_of X G0 g_SIGNS) gl_SIGNS rfl rfl (.cons ⟨_, rfl⟩ (.cons ⟨_, rfl⟩ (.cons ⟨_, rfl⟩ .nil))) (by decide), ⟨.str "abcdefghijklmnopqrstuvwxyz", _, PySem.W.mg_of X G0 g_SMALL, ⟨_, rfl⟩, fun _ => .str _⟩, glD_strs ["no", "same", "all", "some", "sort", "func", "rel", "mean", "taken", "shown", "by"] (PySem.W.mg_of X G0 g_TOLD) gl_TOLD rfl rfl (.cons ⟨_, rfl⟩ (.cons ⟨_, rfl⟩ (.cons ⟨_, rfl⟩ (.cons ⟨_, rfl⟩ (.cons ⟨_, rfl⟩ (.cons ⟨_, rfl⟩ (.cons ⟨_, rfl⟩ (.cons ⟨_, rfl⟩ (.cons ⟨_, rfl⟩ (.cons ⟨_, rfl⟩ (.cons ⟨_, rfl⟩ .nil))))))))))) (by decide), ⟨ca_MARKS_writing, _, _, PySem.W.mg_of X G0 g_MARKS_writing, gl_MARKS_writing, gs_MARKS_writing, (.cons (v := .str " -> ") ⟨_, rfl⟩ (fun _ => .str _) (.cons (v := .str " | ") ⟨_, rfl⟩ (fun _ => .str _) (.cons (v := .str " & ") ⟨_, rfl⟩ (fun _ => .str _) .nil)))⟩, ⟨ca_RANKS, _, _, PySem.W.mg_of X G0 g_RANKS, gl_RANKS, gs_RANKS, (.cons (v := .int 0) ⟨_, rfl⟩ (fun _ => .int _) (.cons (v := .int 0) ⟨_, rfl⟩ (fun _ => .int _) (.cons (v := .int 1) ⟨_, rfl⟩ (fun _ => .int _) (.cons (v := .int 2) ⟨_, rfl⟩ (fun _ => .int _) (.cons (v := .int 3) ⟨_, rfl⟩ (fun _ => .int _) .nil)))))⟩⟩
 exact ⟨PySem.W.fnOf "law" "law" (defArgs s_law) (defBody s_law) (defScope s_law) .none kV55 dc55 pm55 an55 cd55 ct55, fun s v => .of_eq rfl, fun base sb _ _ => d_law T sb (funD_mk (st := s_law) l55 c55 k55) hp⟩
local macro_rules | `(tactic| walk_at "ex") => `(tactic| try simp only [sSeq, sKk_nx, sKk_rt, sKk_bk, sKk_ct, sSet, sExpr, sRet, sIf, kIf, sAsg, una, escf, escS, opd, eVar, eC, eBin, kB, eUn, eFn, eTup, eLst, aCons, kA, aNil, fin, rd, rds, R.toS, dsOf, Rs.bind_ok, Rs.bind_bad, Rs.bind_ex, Rs.opt_some, Option.bind_some, Option.map_some, ownAt, eExt, eApp, ePop, List.getElem?_cons_zero, List.getElem?_cons_succ, List.set_cons_zero, List.set_cons_succ, okArg, List.all_cons, List.all_nil, Bool.and_self, if_true, kName, _root_.G.kTup, ksCons, ksNil, tOf, List.length_cons, List.length_nil, Bool.not_false, Bool.not_true, if_false, Bool.false_eq_true, lm0, lm1, lm2, lm3, lm4, lm5, lm6, lm7, lm8, lm9, lm10, lm11, lm12, fnM, List.map_cons, List.map_nil, List.replicate, List.cons_append, List.nil_append, Nat.reduceAdd, Nat.reduceSub, sNil, tAndM, tOrM, tNotM, tTru, dTru, eIf, kE, dSub_i, dAdd_i, dLt_i, dLe_i, dGt_i, dGe_i, dEq_i, dNe_i, decide_true, decide_false, eChain, eAndM, eOrM, eNotM, eSl, oInt, dNeg, fInt, aDef, fTuple])
local macro_rules | `(tactic| walk_at "ec") => `(tactic| try simp only [sSeq, sKk_nx, sKk_rt, sKk_bk, sKk_ct, sSet, sExpr, sRet, sIf, kIf, sAsg, una, escf, escS, opd, eVar, eC, eBin, kB, eUn, eFn, eTup, eLst, aCons, kA, aNil, fin, rd, rds, R.toS, dsOf, Rs.bind_ok, Rs.bind_bad, Rs.bind_ex, Rs.opt_some, Option.bind_some, Option.map_some, ownAt, eExt, eApp, ePop, List.getElem?_cons_zero, List.getElem?_cons_succ, List.set_cons_zero, List.set_cons_succ, okArg, List.all_cons, List.all_nil, Bool.and_self, if_true, kName, _root_.G.kTup, ksCons, ksNil, tOf, List.length_cons, List.length_nil, Bool.not_false, Bool.not_true, if_false, Bool.false_eq_true, lm0, lm1, lm2, lm3, lm4, lm5, lm6, lm7, lm8, lm9, lm10, lm11, lm12, fnM, List.map_cons, List.map_nil, List.replicate, List.cons_append, List.nil_append, Nat.reduceAdd, Nat.reduceSub, sNil, tAndM, tOrM, tNotM, tTru, dTru, eIf, kE, dSub_i, dAdd_i, dLt_i, dLe_i, dGt_i, dGe_i, dEq_i, dNe_i, decide_true, decide_false, eChain, eAndM, eOrM, eNotM, eSl, oInt, dNeg, fInt, aDef, fTuple, eCall])
noncomputable def flds (w : List D) (a l m : Int) (k j : Nat) : List (Str × D) := [("words", .lst w), ("at", .int a), ("length", .int l), ("todo", .o k), ("made", .o j), ("many", .int m)]
noncomputable def rob (w : List D) (a l m : Int) (k j : Nat) : MO := .ins "Reader" (flds w a l m k j)
theorem memR : ((Str.ofString "Reader") ∈ [Str.ofString "Reader"]) := List.mem_singleton.mpr rfl
section
variable {w : List D} {a l m : Int} {r k j : Nat} {t t' : List MO} {rho : List (Option S)}
theorem ins_r (h : t[r]? = some (rob w a l m k j)) {rho : List (Option S)} : insAt ⟨rho, t⟩ (.d (.o r)) = some (r, (Str.ofString "Reader"), flds w a l m k j) := by
 unfold insAt rd
 simp only [h, rob]
theorem fld_r {x : Str} {d : D} (h : t[r]? = some (rob w a l m k j)) (hx : (flds w a l m k j).lookup x = some d) : eFld ["Reader"] x (eVar 0) ⟨some (.d (.o r)) :: rho, t⟩ = .ok (.d d) ⟨some (.d (.o r)) :: rho, t⟩ := by
 unfold eFld
 simp only [opd, eVar, List.getElem?_cons_zero, Rs.bind_ok, ins_r h]
 rw [if_pos memR, hx]
theorem fw (h : t[r]? = some (rob w a l m k j)) : eFld ["Reader"] "words" (eVar 0) ⟨some (.d (.o r)) :: rho, t⟩ = .ok (.d (.lst w)) ⟨some (.d (.o r)) :: rho, t⟩ := fld_r h (by kernel_rfl)
theorem fa (h : t[r]? = some (rob w a l m k j)) : eFld ["Reader"] "at" (eVar 0) ⟨some (.d (.o r)) :: rho, t⟩ = .ok (.d (.int a)) ⟨some (.d (.o r)) :: rho, t⟩ := fld_r h (by kernel_rfl)
theorem fl (h : t[r]? = some (rob w a l m k j)) : eFld ["Reader"] "length" (eVar 0) ⟨some (.d (.o r)) :: rho, t⟩ = .ok (.d (.int l)) ⟨some (.d (.o r)) :: rho, t⟩ := fld_r h (by kernel_rfl)
theorem ft (h : t[r]? = some (rob w a l m k j)) : eFld ["Reader"] "todo" (eVar 0) ⟨some (.d (.o r)) :: rho, t⟩ = .ok (.d (.o k)) ⟨some (.d (.o r)) :: rho, t⟩ := fld_r h (by kernel_rfl)
theorem fm (h : t[r]? = some (rob w a l m k j)) : eFld ["Reader"] "made" (eVar 0) ⟨some (.d (.o r)) :: rho, t⟩ = .ok (.d (.o j)) ⟨some (.d (.o r)) :: rho, t⟩ := fld_r h (by kernel_rfl)
theorem fy (h : t[r]? = some (rob w a l m k j)) : eFld ["Reader"] "many" (eVar 0) ⟨some (.d (.o r)) :: rho, t⟩ = .ok (.d (.int m)) ⟨some (.d (.o r)) :: rho, t⟩ := fld_r h (by kernel_rfl)
theorem sfld {x : Str} {d : D} {fv : Sm MX S} {w' : List D} {a' l' m' : Int} {k' j' : Nat} (hv : escf fv ⟨some (.d (.o r)) :: rho, t⟩ = .ok (.d d) ⟨some (.d (.o r)) :: rho, t'⟩) (h : t'[r]? = some (rob w a l m k j)) (hp : putFD x d (flds w a l m k j) = flds w' a' l' m' k' j') :
  sFldM ["Reader"] x fv (eVar 0) ⟨some (.d (.o r)) :: rho, t⟩ = .ok .nx ⟨some (.d (.o r)) :: rho, t'.set r (rob w' a' l' m' k' j')⟩ := by
 unfold sFldM
 rw [hv]
 simp only [opd, eVar, List.getElem?_cons_zero, Rs.bind_ok, ins_r h, hp]
 rw [if_pos ⟨memR, by show 6 < 999; omega⟩]
 rfl
theorem sf_at {a' : Int} {fv : Sm MX S} (hv : escf fv ⟨some (.d (.o r)) :: rho, t⟩ = .ok (.d (.int a')) ⟨some (.d (.o r)) :: rho, t'⟩) (h : t'[r]? = some (rob w a l m k j)) : sFldM ["Reader"] "at" fv (eVar 0) ⟨some (.d (.o r)) :: rho, t⟩ = .ok .nx ⟨some (.d (.o r)) :: rho, t'.set r (rob w a' l m k j)⟩ := sfld hv h (by kernel_rfl)
theorem sf_many {a' : Int} {fv : Sm MX S} (hv : escf fv ⟨some (.d (.o r)) :: rho, t⟩ = .ok (.d (.int a')) ⟨some (.d (.o r)) :: rho, t'⟩) (h : t'[r]? = some (rob w a l m k j)) : sFldM ["Reader"] "many" fv (eVar 0) ⟨some (.d (.o r)) :: rho, t⟩ = .ok .nx ⟨some (.d (.o r)) :: rho, t'.set r (rob w a l a' k j)⟩ := sfld hv h (by kernel_rfl)
theorem sf_made {j' : Nat} {fv : Sm MX S} (hv : escf fv ⟨some (.d (.o r)) :: rho, t⟩ = .ok (.d (.o j')) ⟨some (.d (.o r)) :: rho, t'⟩) (h : t'[r]? = some (rob w a l m k j)) : sFldM ["Reader"] "made" fv (eVar 0) ⟨some (.d (.o r)) :: rho, t⟩ = .ok .nx ⟨some (.d (.o r)) :: rho, t'.set r (rob w a l m k j')⟩ := sfld hv h (by kernel_rfl)
theorem callA {c : List S → List MO → Rs S (List MO)} {nm : Str} {g : Sm MX (List S)} {ss : List S} {v : S} {t1 : List MO} {rho1 : List (Option S)} (h : t[r]? = some (rob w a l m k j)) (hl : (flds w a l m k j).lookup nm = none) (hg : g ⟨some (.d (.o r)) :: rho, t⟩ = .ok ss ⟨rho1, t1⟩) (hs : ss.all okArg = true) (hc : c (.d (.o r) :: ss) t1 = .ok v t') :
  eCall c (aMeth "Reader" nm (eVar 0) g) ⟨some (.d (.o r)) :: rho, t⟩ = .ok v ⟨rho1, t'⟩ := by
 unfold eCall aMeth
 simp only [opd, eVar, List.getElem?_cons_zero, Rs.bind_ok, ins_r h]
 rw [if_pos ⟨trivial, hl⟩, hg]
 simp only [Rs.bind_ok, List.all_cons, okArg, hs, Bool.and_self, if_true, hc]
theorem call0 {c : List S → List MO → Rs S (List MO)} {nm : Str} {v : S} (h : t[r]? = some (rob w a l m k j)) (hl : (flds w a l m k j).lookup nm = none) (hc : c [.d (.o r)] t = .ok v t') :
  eCall c (aMeth "Reader" nm (eVar 0) aNil) ⟨some (.d (.o r)) :: rho, t⟩ = .ok v ⟨some (.d (.o r)) :: rho, t'⟩ := callA h hl rfl rfl hc
end
theorem cut_drop {α : Type} (xs : List α) (a : Nat) (h : a ≤ xs.length) : cutD xs (some (a : Int)) none = xs.drop a := by
 have e1 : HT.sIx xs.length 0 (some (a : Int)) = a := by
  rw [HT.sIx_nat, Nat.min_eq_left h]
 have e2 : HT.sIx xs.length xs.length none = xs.length := by
  rfl
 unfold cutD
 rw [e1, e2, List.take_of_length_le (by rw [List.length_drop]; omega)]
theorem cut_take {α : Type} (xs : List α) (a : Nat) (h : a ≤ xs.length) : cutD xs none (some (a : Int)) = xs.take a := by
 have e1 : HT.sIx xs.length 0 none = 0 := by
  rfl
 have e2 : HT.sIx xs.length xs.length (some (a : Int)) = a := by
  rw [HT.sIx_nat, Nat.min_eq_left h]
 unfold cutD
 rw [e1, e2, List.drop_zero, Nat.sub_zero]
noncomputable def itm (T : Th) : D := .tup [enc T, .int (size T : Nat), .int (depth T : Nat)]
theorem ix_itm0 (T : Th) : dIx (itm T) (.int 0) = some (.d (enc T)) := rfl
theorem ix_itm1 (T : Th) : dIx (itm T) (.int 1) = some (.d (.int (size T : Nat))) := rfl
theorem ix_itm2 (T : Th) : dIx (itm T) (.int 2) = some (.d (.int (depth T : Nat))) := rfl
theorem lc_at {i : Nat} {k : Int} {g : Th → D} {ts : List Th} {rho rho' : List (Option S)} {t : List MO} {y : Nat} (h0 : iAnyM (M := MX) (eVar y) ⟨rho, t⟩ = .ok (ts.map itm) ⟨rho', t⟩) (hi : rho'.set i none = rho') (hv : i < rho'.length) (hl : ts.length ≤ lim) (hg : ∀ T, dIx (itm T) (.int k) = some (.d (g T))) :
  eLc (M := MX) (iAnyM (eVar y)) (kName i) (fun z => .ok true z) (eBin dIx (eVar i) (eC (.int k))) [i] ⟨rho, t⟩ = .ok (.l (ts.map g)) ⟨rho', t⟩ := by
 refine elc_map (M := MX) itm (z := ⟨rho', t⟩) h0 hi hl (fun T _ => ?_)
 have e : (rho'.set i (some (S.d (itm T))))[i]? = some (some (.d (itm T))) := List.getElem?_set_self hv
 simp only [escf, eBin, kB, opd, eVar, eC, e, Rs.bind_ok, rd, Option.bind_some, hg, fin, R.toS, escS]
theorem sums_map (ts : List Th) : (ts.map fun t => ((size t : Nat) : Int)).sum = ((sizes ts : Nat) : Int) := sum_map_cast ts
noncomputable def jn (x : D) (ts : List Th) : D := .tup [x, .int (1 + (sizes ts : Nat)), .int (1 + (depths ts : Nat))]
theorem joined_ok (n : Nat) (x : D) (ts : List Th) (t : List MO) (hl : ts.length < lim) : mir (n + 1) .joined [.d x, .d (.lst (ts.map itm))] t = .ok (.d (jn x ts)) t := by
 show fnM 3 (m_joined (mir n)) [.d x, .d (.lst (ts.map itm))] t = _
 have l1 := lc_at (i := 2) (k := 1) (g := fun T => .int (size T : Nat)) (ts := ts) (rho := [some (.d x), some (.d (.lst (ts.map itm))), none]) (rho' := [some (.d x), some (.d (.lst (ts.map itm))), none]) (t := t) (y := 1) rfl rfl (by show 2 < 3; omega) (by omega) ix_itm1
 have l2 := lc_at (i := 2) (k := 2) (g := fun T => .int (depth T : Nat)) (ts := ts) (rho := [some (.d x), some (.d (.lst (ts.map itm))), none]) (rho' := [some (.d x), some (.d (.lst (ts.map itm))), none]) (t := t) (y := 1) rfl rfl (by show 2 < 3; omega) (by omega) ix_itm2
 unfold m_joined
 walk_at "ex"
 rw [l1]
 walk_at "ex"
 have s1 : fSum [.lst (ts.map fun T => .int (size T : Nat))] = some (.d (.int (sizes ts : Nat))) := by
  have := intsOf_map (fun T => ((size T : Nat) : Int)) ts
  simp only [fSum, this, Option.map_some, sums_map]
 rw [s1]
 walk_at "ex"
 rw [l2]
 walk_at "ex"
 have s2 : dAdd (.lst [.int 0]) (.lst (ts.map fun T => .int (depth T : Nat))) = some (.l (.int 0 :: ts.map fun T => .int (depth T : Nat))) := by
  unfold dAdd
  simp only
  rw [if_pos (by rw [List.length_map, List.length_singleton]; omega)]
  rfl
 rw [s2]
 walk_at "ex"
 have s3 : fMax [.lst (.int 0 :: ts.map fun T => .int (depth T : Nat))] = some (.d (.int (depths ts : Nat))) := by
  unfold fMax
  have := intsOf_map (fun T => ((depth T : Nat) : Int)) ts
  simp only [intsOf, this, Option.bind_some, Option.map_some]
  rw [maxL_depths]
 rw [s3]
 walk_at "ex"
 rfl
structure Wd where
  k : Str
  v : D
  p : Int
noncomputable def Wd.d (x : Wd) : D := .tup [.str x.k, x.v, .int x.p]
noncomputable def flt (v : D) : Prop := (∃ n, v = .int n) ∨ ∃ x, v = .str x ∧ PyData.strOk x = true
structure RS where
  w : List Wd
  a : Nat
  len : Int
  td : List D
  md : List D
  many : Int
noncomputable def Rd (t : List MO) (r : Nat) (s : RS) : Prop := ∃ k j, t[r]? = some (rob (s.w.map Wd.d) s.a s.len s.many k j) ∧ t[k]? = some (.lst s.td.reverse) ∧ t[j]? = some (.lst s.md.reverse) ∧ r < k ∧ r < j ∧ k ≠ j
noncomputable def Fr (r : Nat) (t t' : List MO) : Prop := (∀ i, i < r → t'[i]? = t[i]?) ∧ t.length ≤ t'.length
theorem Fr.refl (r : Nat) (t : List MO) : Fr r t t := ⟨fun _ _ => rfl, Nat.le_refl _⟩
theorem Fr.trans {r : Nat} {a b c : List MO} (h : Fr r a b) (g : Fr r b c) : Fr r a c := ⟨fun i hi => (g.1 i hi).trans (h.1 i hi), Nat.le_trans h.2 g.2⟩
theorem Fr.set {r n : Nat} {t : List MO} {o : MO} (h : r ≤ n) : Fr r t (t.set n o) := ⟨fun i hi => List.getElem?_set_ne (by omega), by rw [List.length_set]; exact Nat.le_refl _⟩
theorem Fr.app {r : Nat} {t : List MO} {o : MO} (h : r ≤ t.length) : Fr r t (t ++ [o]) := ⟨fun i hi => List.getElem?_append_left (by omega), by rw [List.length_append]; omega⟩
structure WOk (s : RS) : Prop where
  n : s.w.length ≤ 100000
  f : ∀ x ∈ s.w, PyData.strOk x.k = true ∧ flt x.v
noncomputable def RS.now (s : RS) : Wd := (s.w[s.a]?).getD ⟨"end", .str "", s.len⟩
theorem now_flt {s : RS} (h : WOk s) : PyData.strOk s.now.k = true ∧ flt s.now.v := by
 unfold RS.now
 cases e : s.w[s.a]? with
 | none => exact ⟨show PyData.strOk (Str.ofString "end") = true from by decide +kernel, .inr ⟨_, rfl, show PyData.strOk (Str.ofString "") = true from by decide +kernel⟩⟩
 | some x => exact h.f x (List.mem_of_getElem? e)
theorem getset_eq {t : List MO} {n : Nat} {o u : MO} (h : t[n]? = some u) : (t.set n o)[n]? = some o := List.getElem?_set_self (List.getElem?_eq_some_iff.mp h).1
theorem getset_ne {t : List MO} {n m : Nat} {o : MO} (h : n ≠ m) : (t.set n o)[m]? = t[m]? := List.getElem?_set_ne h
theorem getapp {t : List MO} {n : Nat} {o u : MO} (h : t[n]? = some u) : (t ++ [o])[n]? = some u := by
 rw [List.getElem?_append_left (List.getElem?_eq_some_iff.mp h).1]; exact h
theorem getlast {t : List MO} {o : MO} : (t ++ [o])[t.length]? = some o := by
 rw [List.getElem?_append_right (Nat.le_refl _), Nat.sub_self]; rfl
theorem getlt {t : List MO} {n : Nat} {u : MO} (h : t[n]? = some u) : n < t.length := (List.getElem?_eq_some_iff.mp h).1
theorem Rd.at_ {t : List MO} {r : Nat} {s : RS} (h : Rd t r s) (a : Nat) : ∃ k j, t[r]? = some (rob (s.w.map Wd.d) s.a s.len s.many k j) ∧ Rd (t.set r (rob (s.w.map Wd.d) a s.len s.many k j)) r { s with a := a } := by
 obtain ⟨k, j, h1, h2, h3, h4, h5, h6⟩ := h
 exact ⟨k, j, h1, k, j, getset_eq h1, (getset_ne (by omega)).trans h2, (getset_ne (by omega)).trans h3, h4, h5, h6⟩
theorem Rd.many_ {t : List MO} {r : Nat} {s : RS} (h : Rd t r s) (a : Int) : ∃ k j, t[r]? = some (rob (s.w.map Wd.d) s.a s.len s.many k j) ∧ Rd (t.set r (rob (s.w.map Wd.d) s.a s.len a k j)) r { s with many := a } := by
 obtain ⟨k, j, h1, h2, h3, h4, h5, h6⟩ := h
 exact ⟨k, j, h1, k, j, getset_eq h1, (getset_ne (by omega)).trans h2, (getset_ne (by omega)).trans h3, h4, h5, h6⟩
theorem fLen_l (xs : List D) : fLen [.lst xs] = some (.d (.int (xs.length : Nat))) := rfl
theorem atI_n {α : Type} {xs : List α} {i : Nat} {v : α} (h : xs[i]? = some v) : atI xs (i : Int) = some v := by
 have hi : i < xs.length := by
  rcases Nat.lt_or_ge i xs.length with q | q
  ·exact q
  ·rw [List.getElem?_eq_none q] at h; cases h
 unfold atI ixN
 rw [if_pos (by omega), if_pos (by omega)]
 exact h
theorem now_ok (n : Nat) {r : Nat} {s : RS} {t : List MO} (h : Rd t r s) : mir (n + 1) .Reader_now [.d (.o r)] t = .ok (.d s.now.d) t := by
 obtain ⟨k, j, h1, h2, h3, h4, h5, h6⟩ := h
 show fnM 1 (m_Reader_now (mir n)) [.d (.o r)] t = _
 unfold m_Reader_now
 walk_at "ex"
 rw [fa h1]
 walk_at "ex"
 rw [fw h1]
 walk_at "ex"
 rw [fLen_l]
 walk_at "ex"
 rw [List.length_map]
 by_cases c : s.a < s.w.length
 ·have e : ((s.a : Nat) : Int) < ((s.w.length : Nat) : Int) := by omega
  simp only [e]
  walk_at "ex"
  rw [fw h1]
  walk_at "ex"
  rw [fa h1]
  walk_at "ex"
  have e2 : s.w[s.a]? = some s.w[s.a] := List.getElem?_eq_getElem c
  have e3 : (s.w.map Wd.d)[s.a]? = some (s.w[s.a]).d := by rw [List.getElem?_map, e2]; rfl
  have e4 : dIx (.lst (s.w.map Wd.d)) (.int (s.a : Nat)) = some (.d (s.w[s.a]).d) := by
   show (atI (s.w.map Wd.d) ((s.a : Nat) : Int)).map R.d = _
   rw [atI_n e3]; rfl
  rw [e4]
  walk_at "ex"
  unfold RS.now
  rw [e2]; rfl
 ·have e : ¬ ((s.a : Nat) : Int) < ((s.w.length : Nat) : Int) := by omega
  simp only [e]
  walk_at "ex"
  rw [fl h1]
  walk_at "ex"
  unfold RS.now
  rw [List.getElem?_eq_none (by omega)]
  rfl
theorem lk_none {w : List D} {a l m : Int} {k j : Nat} {x : Str} (h : List.lookup x (flds [] 0 0 0 0 0) = none) : List.lookup x (flds w a l m k j) = none := by
 unfold flds at h ⊢
 simp only [List.lookup_cons, List.lookup_nil] at h ⊢
 revert h
 cases (x == Str.ofString "words") <;> cases (x == Str.ofString "at") <;> cases (x == Str.ofString "length") <;> cases (x == Str.ofString "todo") <;> cases (x == Str.ofString "made") <;> cases (x == Str.ofString "many") <;> simp
theorem dep_flt {v : D} (h : flt v) : dep v = 0 ∧ lay v = true := by
 rcases h with ⟨n, rfl⟩ | ⟨x, rfl, hx⟩
 ·exact ⟨by simp [dep], by simp [lay]⟩
 ·exact ⟨by simp [dep], by rw [lay]; exact hx⟩
theorem eqD_flt {v u : D} (h : flt v) (g : flt u) : eqD v u = eqF v u := by
 rcases h with ⟨n, rfl⟩ | ⟨x, rfl, hx⟩
 ·rcases g with ⟨m, rfl⟩ | ⟨y, rfl, hy⟩
  ·exact eqD_int n m
  ·simp [eqD, toPy, PyData.eqv, eqF]
 ·rcases g with ⟨m, rfl⟩ | ⟨y, rfl, hy⟩
  ·simp [eqD, toPy, PyData.eqv, eqF]
  ·exact eqD_str x y
theorem eqOk_2 {k c : Str} {v u : D} (hk : PyData.strOk k = true) (hc : PyData.strOk c = true) (hv : flt v) (hu : flt u) : eqOk (.tup [.str k, v]) (.tup [.str c, u]) = true := by
 have a1 := dep_flt hv
 have a2 := dep_flt hu
 unfold eqOk
 simp only [lay, lays, dep, deps, hk, hc, a1.1, a1.2, a2.1, a2.2, Bool.and_self, Bool.true_and]
 exact decide_eq_true (by omega)
theorem eqD_2 {k c : Str} {v u : D} (hv : flt v) (hu : flt u) : eqD (.tup [.str k, v]) (.tup [.str c, u]) = (k == c && eqF v u) := by
 rw [eqD_tup]
 simp only [eqDs, eqD_str, eqD_flt hv hu, Bool.and_true]
theorem dEq_2 {k c : Str} {v u : D} (hk : PyData.strOk k = true) (hc : PyData.strOk c = true) (hv : flt v) (hu : flt u) : dEq (.tup [.str k, v]) (.tup [.str c, u]) = some (.d (.bl (k == c && eqF v u))) := by
 unfold dEq
 rw [if_pos (eqOk_2 hk hc hv hu), eqD_2 hv hu]
theorem dNe_2 {k c : Str} {v u : D} (hk : PyData.strOk k = true) (hc : PyData.strOk c = true) (hv : flt v) (hu : flt u) : dNe (.tup [.str k, v]) (.tup [.str c, u]) = some (.d (.bl (!(k == c && eqF v u)))) := by
 unfold dNe
 rw [if_pos (eqOk_2 hk hc hv hu), eqD_2 hv hu]
theorem eqOk_s {x y : Str} (hx : PyData.strOk x = true) (hy : PyData.strOk y = true) : eqOk (.str x) (.str y) = true := by
 unfold eqOk
 simp only [lay, dep, hx, hy, Bool.true_and]
 exact decide_eq_true (by omega)
theorem dEq_s {x y : Str} (hx : PyData.strOk x = true) (hy : PyData.strOk y = true) : dEq (.str x) (.str y) = some (.d (.bl (x == y))) := by
 unfold dEq
 rw [if_pos (eqOk_s hx hy), eqD_str]
theorem dNe_s {x y : Str} (hx : PyData.strOk x = true) (hy : PyData.strOk y = true) : dNe (.str x) (.str y) = some (.d (.bl (!(x == y)))) := by
 unfold dNe
 rw [if_pos (eqOk_s hx hy), eqD_str]
theorem sl2 (a b c : D) : dSl (.tup [a, b, c]) none (some 2) = some (.t [a, b]) := by kernel_rfl
noncomputable def Wd.is (x : Wd) (k c : Str) : Bool := x.k == k && eqF x.v (.str c)
theorem now_call (n : Nat) {r : Nat} {s : RS} {t : List MO} {rho : List (Option S)} (h : Rd t r s) : eCall (mir (n + 1) .Reader_now) (aMeth "Reader" "now" (eVar 0) aNil) ⟨some (.d (.o r)) :: rho, t⟩ = .ok (.d s.now.d) ⟨some (.d (.o r)) :: rho, t⟩ := by
 obtain ⟨k, j, h1, _⟩ := id h
 exact call0 h1 (lk_none (by kernel_rfl)) (now_ok n h)
theorem is_mark_ok (n : Nat) {r : Nat} {s : RS} {t : List MO} {c : Str} (h : Rd t r s) (hw : WOk s) (hc : PyData.strOk c = true) : mir (n + 2) .Reader_is_mark [.d (.o r), .d (.str c)] t = .ok (.d (.bl (s.now.is "mark" c))) t := by
 obtain ⟨q1, q2⟩ := now_flt hw
 show fnM 2 (m_Reader_is_mark (mir (n + 1))) [.d (.o r), .d (.str c)] t = _
 unfold m_Reader_is_mark
 walk_at "ex"
 rw [now_call n h]
 walk_at "ex"
 rw [Wd.d, sl2]
 walk_at "ex"
 rw [dEq_2 q1 (by decide +kernel) q2 (.inr ⟨_, rfl, hc⟩)]
 rfl
theorem is_told_ok (n : Nat) {r : Nat} {s : RS} {t : List MO} {c : Str} (h : Rd t r s) (hw : WOk s) (hc : PyData.strOk c = true) : mir (n + 2) .Reader_is_told [.d (.o r), .d (.str c)] t = .ok (.d (.bl (s.now.is "told" c))) t := by
 obtain ⟨q1, q2⟩ := now_flt hw
 show fnM 2 (m_Reader_is_told (mir (n + 1))) [.d (.o r), .d (.str c)] t = _
 unfold m_Reader_is_told
 walk_at "ex"
 rw [now_call n h]
 walk_at "ex"
 rw [Wd.d, sl2]
 walk_at "ex"
 rw [dEq_2 q1 (by decide +kernel) q2 (.inr ⟨_, rfl, hc⟩)]
 rfl
theorem next_stmt {r : Nat} {s : RS} {t : List MO} {rho : List (Option S)} (h : Rd t r s) : ∃ t', sFldM ["Reader"] "at" (eBin dAdd (eFld ["Reader"] "at" (eVar 0)) (eC (.int 1))) (eVar 0) ⟨some (.d (.o r)) :: rho, t⟩ = .ok .nx ⟨some (.d (.o r)) :: rho, t'⟩ ∧ Rd t' r { s with a := s.a + 1 } ∧ Fr r t t' := by
 obtain ⟨k, j, h1, h2⟩ := h.at_ (s.a + 1)
 refine ⟨_, sf_at (a' := ((s.a + 1 : Nat) : Int)) ?_ h1, h2, Fr.set (Nat.le_refl _)⟩
 walk_at "ex"
 rw [fa h1]
 walk_at "ex"
 rfl
theorem go_on_ok (n : Nat) {r : Nat} {s : RS} {t : List MO} (h : Rd t r s) (hl : s.a < s.w.length) : ∃ t', mir (n + 1) .Reader_go_on [.d (.o r)] t = .ok (.d s.now.v) t' ∧ Rd t' r { s with a := s.a + 1 } ∧ Fr r t t' := by
 obtain ⟨t', e, h', f⟩ := next_stmt (rho := []) h
 refine ⟨t', ?_, h', f⟩
 show fnM 1 (m_Reader_go_on (mir n)) [.d (.o r)] t = _
 unfold m_Reader_go_on
 obtain ⟨k, j, h1, _⟩ := h'
 have e2 : (sRet (eBin dIx (eBin dIx (eFld ["Reader"] "words" (eVar 0)) (eBin dSub (eFld ["Reader"] "at" (eVar 0)) (eC (.int 1)))) (eC (.int 1))) : Sm MX Out) ⟨[some (.d (.o r))], t'⟩ = .ok (.rt (.d s.now.v)) ⟨[some (.d (.o r))], t'⟩ := by
  walk_at "ex"
  rw [fw h1]
  walk_at "ex"
  rw [fa h1]
  walk_at "ex"
  have e2 : s.w[s.a]? = some s.w[s.a] := List.getElem?_eq_getElem hl
  have e3 : (s.w.map Wd.d)[s.a]? = some (s.w[s.a]).d := by rw [List.getElem?_map, e2]; rfl
  have e5 : (((s.a + 1 : Nat) : Int) - 1) = ((s.a : Nat) : Int) := by omega
  have e4 : dIx (.lst (s.w.map Wd.d)) (.int (((s.a + 1 : Nat) : Int) - 1)) = some (.d (s.w[s.a]).d) := by
   rw [e5]
   show (atI (s.w.map Wd.d) ((s.a : Nat) : Int)).map R.d = _
   rw [atI_n e3]; rfl
  rw [e4]
  walk_at "ex"
  have e6 : s.now = s.w[s.a] := by unfold RS.now; rw [e2]; rfl
  rw [e6]
  rfl
 exact fnM_d (M := MX) ((seq_nx e).trans e2)
theorem need_word_ok (n : Nat) {r : Nat} {s : RS} {t : List MO} {kd c : Str} (h : Rd t r s) (hw : WOk s) (hk : PyData.strOk kd = true) (hc : PyData.strOk c = true) (hi : s.now.is kd c = true) : ∃ t', mir (n + 2) .Reader_need_word [.d (.o r), .d (.str kd), .d (.str c)] t = .ok (.d .non) t' ∧ Rd t' r { s with a := s.a + 1 } ∧ Fr r t t' := by
 obtain ⟨q1, q2⟩ := now_flt hw
 obtain ⟨t', e, h', f⟩ := next_stmt (rho := [some (.d (.str kd)), some (.d (.str c))]) h
 refine ⟨t', ?_, h', f⟩
 show fnM 3 (m_Reader_need_word (mir (n + 1))) [.d (.o r), .d (.str kd), .d (.str c)] t = _
 unfold m_Reader_need_word
 have hn : (s.now.k == kd && eqF s.now.v (.str c)) = true := hi
 walk_at "ex"
 rw [now_call n h]
 walk_at "ex"
 rw [Wd.d, sl2]
 walk_at "ex"
 rw [dNe_2 q1 hk q2 (.inr ⟨_, rfl, hc⟩), hn]
 walk_at "ex"
 rw [e]
theorem need_kind_ok (n : Nat) {r : Nat} {s : RS} {t : List MO} {kd : Str} (h : Rd t r s) (hw : WOk s) (hk : PyData.strOk kd = true) (hi : s.now.k = kd) (hl : s.a < s.w.length) : ∃ t', mir (n + 2) .Reader_need_kind [.d (.o r), .d (.str kd)] t = .ok (.d s.now.v) t' ∧ Rd t' r { s with a := s.a + 1 } ∧ Fr r t t' := by
 obtain ⟨q1, q2⟩ := now_flt hw
 obtain ⟨t', e, h', f⟩ := go_on_ok n h hl
 refine ⟨t', ?_, h', f⟩
 show fnM 2 (m_Reader_need_kind (mir (n + 1))) [.d (.o r), .d (.str kd)] t = _
 unfold m_Reader_need_kind
 walk_at "ex"
 rw [now_call n h]
 walk_at "ex"
 have e0 : dIx s.now.d (.int 0) = some (.d (.str s.now.k)) := rfl
 rw [e0]
 walk_at "ex"
 have e1 : dNe (.str s.now.k) (.str kd) = some (.d (.bl false)) := by
  rw [dNe_s q1 hk, hi, beq_self_eq_true]; rfl
 rw [e1]
 walk_at "ex"
 obtain ⟨k, j, h1, _⟩ := id h
 rw [call0 h1 (lk_none (by kernel_rfl)) e]
 rfl
theorem ext_ok {f g : Sm MX S} {z : Z (List MO)} {k : Nat} {xs ys : List D} (hf : opd f z = .ok (.d (.o k)) z) (hk : z.m[k]? = some (.lst xs)) (hg : opd g z = .ok (.d (.lst ys)) z) (hl : xs.length + ys.length ≤ lim) : eExtO f g z = .ok (.d .non) { z with m := z.m.set k (.lst (xs ++ ys)) } := by
 unfold eExtO
 rw [hf]
 have e : listAt z (.d (.o k)) = some (k, xs) := by unfold listAt rd; simp only [hk]
 simp only [Rs.bind_ok, e, hg, rd]
 rw [if_pos hl]
theorem app_ok {f g : Sm MX S} {z z1 : Z (List MO)} {k : Nat} {xs xs1 : List D} {y : D} (hf : opd f z = .ok (.d (.o k)) z) (hk : z.m[k]? = some (.lst xs)) (hg : escf g z = .ok (.d y) z1) (hk1 : z1.m[k]? = some (.lst xs1)) (hl : xs1.length < lim) : eAppO f g z = .ok (.d .non) { z1 with m := z1.m.set k (.lst (xs1 ++ [y])) } := by
 unfold eAppO
 rw [hf]
 have e : listAt z (.d (.o k)) = some (k, xs) := by unfold listAt rd; simp only [hk]
 have e1 : listAt z1 (.d (.o k)) = some (k, xs1) := by unfold listAt rd; simp only [hk1]
 simp only [Rs.bind_ok, e, hg, e1]
 rw [if_pos hl]
theorem pop_ok {f : Sm MX S} {z : Z (List MO)} {k : Nat} {xs : List D} {y : D} (hf : opd f z = .ok (.d (.o k)) z) (hk : z.m[k]? = some (.lst (xs ++ [y]))) : ePopO f z = .ok (.d y) { z with m := z.m.set k (.lst xs) } := by
 unfold ePopO
 rw [hf]
 have e : listAt z (.d (.o k)) = some (k, xs ++ [y]) := by unfold listAt rd; simp only [hk]
 have e1 : (xs ++ [y])[(xs ++ [y]).length - 1]? = some y := by
  rw [List.length_append, List.length_singleton, Nat.add_sub_cancel, List.getElem?_append_right (Nat.le_refl _), Nat.sub_self]; rfl
 simp only [Rs.bind_ok, e, e1, List.dropLast_concat]
theorem opd_t {w : List D} {a l m : Int} {r k j : Nat} {t : List MO} {rho : List (Option S)} (h : t[r]? = some (rob w a l m k j)) : opd (eFld ["Reader"] "todo" (eVar 0)) ⟨some (.d (.o r)) :: rho, t⟩ = .ok (.d (.o k)) ⟨some (.d (.o r)) :: rho, t⟩ := by
 unfold opd; rw [ft h]; rfl
theorem opd_m {w : List D} {a l m : Int} {r k j : Nat} {t : List MO} {rho : List (Option S)} (h : t[r]? = some (rob w a l m k j)) : opd (eFld ["Reader"] "made" (eVar 0)) ⟨some (.d (.o r)) :: rho, t⟩ = .ok (.d (.o j)) ⟨some (.d (.o r)) :: rho, t⟩ := by
 unfold opd; rw [fm h]; rfl
theorem plan_ok (n : Nat) {r : Nat} {s : RS} {t : List MO} {ts : List D} (h : Rd t r s) (hl : s.td.length + ts.length ≤ lim) : ∃ t', mir (n + 1) .Reader_plan [.d (.o r), .d (.lst ts)] t = .ok (.d .non) t' ∧ Rd t' r { s with td := ts ++ s.td } ∧ Fr r t t' := by
 obtain ⟨k, j, h1, h2, h3, h4, h5, h6⟩ := h
 refine ⟨t.set k (.lst (s.td.reverse ++ ts.reverse)), ?_, ⟨k, j, (getset_ne (by omega)).trans h1, ?_, (getset_ne h6).trans h3, h4, h5, h6⟩, Fr.set (by omega)⟩
 ·show fnM 2 (m_Reader_plan (mir n)) [.d (.o r), .d (.lst ts)] t = _
  unfold m_Reader_plan
  have e : opd (M := MX) (eUn dRev (eVar 1)) ⟨[some (.d (.o r)), some (.d (.lst ts))], t⟩ = .ok (.d (.lst ts.reverse)) ⟨[some (.d (.o r)), some (.d (.lst ts))], t⟩ := rfl
  walk_at "ex"
  rw [ext_ok (opd_t h1) h2 e (by rw [List.length_reverse, List.length_reverse]; exact hl)]
  rfl
 ·rw [getset_eq h2, List.reverse_append]
theorem push_stmt {r : Nat} {s : RS} {t t1 : List MO} {rho rho1 : List (Option S)} {g : Sm MX S} {y : D} {s0 : RS} (h0 : Rd t r s0) (hg : escf g ⟨some (.d (.o r)) :: rho, t⟩ = .ok (.d y) ⟨some (.d (.o r)) :: rho1, t1⟩) (h : Rd t1 r s) (hj : ∀ w a l m k j w' a' l' m' k' j', t[r]? = some (rob w a l m k j) → t1[r]? = some (rob w' a' l' m' k' j') → j = j') (hl : s.md.length < lim) :
  ∃ t', eAppO (eFld ["Reader"] "made" (eVar 0)) g ⟨some (.d (.o r)) :: rho, t⟩ = .ok (.d .non) ⟨some (.d (.o r)) :: rho1, t'⟩ ∧ Rd t' r { s with md := y :: s.md } ∧ Fr r t1 t' := by
 obtain ⟨k0, j0, g1, g2, g3, g4, g5, g6⟩ := h0
 obtain ⟨k, j, h1, h2, h3, h4, h5, h6⟩ := h
 have ej := hj _ _ _ _ _ _ _ _ _ _ _ _ g1 h1
 subst ej
 refine ⟨t1.set j0 (.lst (s.md.reverse ++ [y])), app_ok (opd_m g1) g3 hg h3 (by rw [List.length_reverse]; exact hl), ⟨k, j0, (getset_ne (by omega)).trans h1, (getset_ne (Ne.symm h6)).trans h2, ?_, h4, h5, h6⟩, Fr.set (by omega)⟩
 rw [getset_eq h3, List.reverse_cons]
theorem rob_j {w w' : List D} {a l m a' l' m' : Int} {k j k' j' : Nat} (h : rob w a l m k j = rob w' a' l' m' k' j') : j = j' := by
 unfold rob flds at h
 injection h with _ h
 injection h with _ h
 injection h with _ h
 injection h with _ h
 injection h with _ h
 injection h with h _
 injection h with _ h
 injection h
theorem hj_refl {t : List MO} {r : Nat} : ∀ w a l m k j w' a' l' m' k' j', t[r]? = some (rob w a l m k j) → t[r]? = some (rob w' a' l' m' k' j') → j = j' := fun _ _ _ _ _ _ _ _ _ _ _ _ h h' => by
 rw [h] at h'
 exact rob_j (Option.some.inj h')
theorem fnM_l {M : MI} {n : Nat} {b : Sm M Out} {args : List S} {t t' : M.T} {x : List D} {rho' : List (Option S)} (h : b { rho := args.map some ++ List.replicate (n - args.length) none, m := t } = .ok (.rt (.l x)) ⟨rho', t'⟩) : fnM n b args t = .ok (.l x) t' := by
 unfold fnM; rw [h]
theorem pop_many_ok (n : Nat) {r : Nat} {s : RS} {t : List MO} {c : Nat} (h : Rd t r s) (hc : c ≤ s.md.length) : ∃ t', mir (n + 1) .Reader_pop_many [.d (.o r), .d (.int (c : Nat))] t = .ok (.l (s.md.take c).reverse) t' ∧ Rd t' r { s with md := s.md.drop c } ∧ Fr r t t' := by
 obtain ⟨k, j, h1, h2, h3, h4, h5, h6⟩ := h
 have hR := getlt h1
 have hK := getlt h2
 have eL : ((s.md.reverse.length : Nat) : Int) - (c : Nat) = ((s.md.length - c : Nat) : Int) := by rw [List.length_reverse]; omega
 have cD : cutD s.md.reverse (some ((s.md.length - c : Nat) : Int)) none = (s.md.take c).reverse := by
  rw [cut_drop _ _ (by rw [List.length_reverse]; omega), List.drop_reverse]
  congr 2; omega
 have cT : cutD s.md.reverse none (some ((s.md.length - c : Nat) : Int)) = (s.md.drop c).reverse := by
  rw [cut_take _ _ (by rw [List.length_reverse]; omega), List.take_reverse]
  congr 2; omega
 refine ⟨(t ++ [MO.lst (s.md.drop c).reverse]).set r (rob (s.w.map Wd.d) s.a s.len s.many k t.length), ?_, ⟨k, t.length, getset_eq (getapp h1), (getset_ne (by omega)).trans (getapp h2), (getset_ne (by omega)).trans getlast, h4, by omega, by omega⟩, (Fr.app (by omega)).trans (Fr.set (Nat.le_refl _))⟩
 show fnM 4 (m_Reader_pop_many (mir n)) [.d (.o r), .d (.int (c : Nat))] t = _
 have rdO1 : ∀ rho, rdO ⟨rho, t⟩ (.d (.o j)) = some (.lst s.md.reverse) := fun rho => by
  unfold rdO listAt rd
  simp only [h3]
 have s1 : (sSet 2 (eBin dSub (eFnO fLen (aCons (opd (eFld ["Reader"] "made" (eVar 0))) aNil)) (eVar 1)) : Sm MX Out) ⟨[some (.d (.o r)), some (.d (.int (c : Nat))), none, none], t⟩ = .ok .nx ⟨[some (.d (.o r)), some (.d (.int (c : Nat))), some (.d (.int ((s.md.length - c : Nat) : Int))), none], t⟩ := by
  walk_at "ex"
  unfold eFnO
  walk_at "ex"
  rw [fm h1]
  walk_at "ex"
  simp only [rdsO, rdO1, Option.bind_some, fLen_l]
  walk_at "ex"
  rw [eL]
 have s2 : (sSet 3 (eSlO dSl (eFld ["Reader"] "made" (eVar 0)) (oInt (eVar 2)) (fun z => .ok none z)) : Sm MX Out) ⟨[some (.d (.o r)), some (.d (.int (c : Nat))), some (.d (.int ((s.md.length - c : Nat) : Int))), none], t⟩ = .ok .nx ⟨[some (.d (.o r)), some (.d (.int (c : Nat))), some (.d (.int ((s.md.length - c : Nat) : Int))), some (.l (s.md.take c).reverse)], t⟩ := by
  walk_at "ex"
  unfold eSlO
  walk_at "ex"
  rw [fm h1]
  walk_at "ex"
  rw [rdO1]
  simp only [Option.bind_some, dSl, cD]
  walk_at "ex"
 have s3 : escf (M := MX) (eSto (eSlO dSl (eFld ["Reader"] "made" (eVar 0)) (fun z => .ok none z) (oInt (eVar 2)))) ⟨[some (.d (.o r)), some (.d (.int (c : Nat))), some (.d (.int ((s.md.length - c : Nat) : Int))), some (.l (s.md.take c).reverse)], t⟩ = .ok (.d (.o t.length)) ⟨[some (.d (.o r)), some (.d (.int (c : Nat))), some (.d (.int ((s.md.length - c : Nat) : Int))), some (.l (s.md.take c).reverse)], t ++ [.lst (s.md.drop c).reverse]⟩ := by
  unfold eSto eSlO
  walk_at "ex"
  rw [fm h1]
  walk_at "ex"
  rw [rdO1]
  simp only [Option.bind_some, dSl, cT]
  walk_at "ex"
 have s4 := sf_made (r := r) s3 (getapp h1)
 unfold m_Reader_pop_many
 refine fnM_l (M := MX) (rho' := [some (.d (.o r)), some (.d (.int (c : Nat))), some (.d (.int ((s.md.length - c : Nat) : Int))), some (.l (s.md.take c).reverse)]) ((seq_nx s1).trans ((seq_nx s2).trans ((seq_nx s4).trans ?_)))
 rfl
theorem rcall {c : List S → List MO → Rs S (List MO)} {nm : Str} {g : Sm MX (List S)} {ss : List S} {v : S} {r : Nat} {s : RS} {t t1 t' : List MO} {rho rho1 : List (Option S)} (h : Rd t r s) (hl : List.lookup nm (flds [] 0 0 0 0 0) = none) (hg : g ⟨some (.d (.o r)) :: rho, t⟩ = .ok ss ⟨rho1, t1⟩) (hs : ss.all okArg = true) (hc : c (.d (.o r) :: ss) t1 = .ok v t') :
  eCall c (aMeth "Reader" nm (eVar 0) g) ⟨some (.d (.o r)) :: rho, t⟩ = .ok v ⟨rho1, t'⟩ := by
 obtain ⟨k, j, h1, _⟩ := h
 exact callA h1 (lk_none hl) hg hs hc
theorem joined_call (n : Nat) {f : Sm MX (List S)} {z : Z (List MO)} {rho' : List (Option S)} {x : D} {ts : List Th} (hf : f z = .ok [.d x, .d (.lst (ts.map itm))] ⟨rho', z.m⟩) (hl : ts.length < lim) : escf (M := MX) (eCall (mir (n + 1) .joined) f) z = .ok (.d (jn x ts)) ⟨rho', z.m⟩ := by
 unfold escf eCall
 rw [hf]
 simp only [Rs.bind_ok, List.all_cons, List.all_nil, okArg, Bool.and_self, if_true, joined_ok n x ts z.m hl, escS]
theorem ex_ok_ {f : Sm MX S} {z z1 : Z (List MO)} {v : S} (h : f z = .ok v z1) : sExpr f z = .ok .nx z1 := by
 unfold sExpr; rw [h]; rfl
theorem fnM_n {M : MI} {n : Nat} {b : Sm M Out} {args : List S} {t t' : M.T} {rho' : List (Option S)} (h : b { rho := args.map some ++ List.replicate (n - args.length) none, m := t } = .ok .nx ⟨rho', t'⟩) : fnM n b args t = .ok (.d .non) t' := by
 unfold fnM; rw [h]
theorem make_ok (n : Nat) {r : Nat} {s : RS} {t : List MO} {wd : Str} {ts : List Th} {md : List D} (h : Rd t r s) (hm : s.md = (ts.map itm).reverse ++ md) (hl : s.md.length < lim) : ∃ t', mir (n + 2) .Reader_make [.d (.o r), .d (.str wd), .d (.int (ts.length : Nat))] t = .ok (.d .non) t' ∧ Rd t' r { s with md := jn (.tup (.str wd :: ts.map enc)) ts :: md } ∧ Fr r t t' := by
 have el : s.md.length = ts.length + md.length := by rw [hm, List.length_append, List.length_reverse, List.length_map]
 obtain ⟨t1, e1, d1, f1⟩ := pop_many_ok n (c := ts.length) h (by omega)
 have ek : s.md.take ts.length = (ts.map itm).reverse := by rw [hm, List.take_left' (by rw [List.length_reverse, List.length_map])]
 have ed : s.md.drop ts.length = md := by rw [hm, List.drop_left' (by rw [List.length_reverse, List.length_map])]
 rw [ek, List.reverse_reverse] at e1
 rw [ed] at d1
 have s1 : (sSet 3 (eCall (mir (n + 1) .Reader_pop_many) (aMeth "Reader" "pop_many" (eVar 0) (aCons (escf (eVar 2)) aNil))) : Sm MX Out) ⟨[some (.d (.o r)), some (.d (.str wd)), some (.d (.int (ts.length : Nat))), none, none], t⟩ = .ok .nx ⟨[some (.d (.o r)), some (.d (.str wd)), some (.d (.int (ts.length : Nat))), some (.l (ts.map itm)), none], t1⟩ := by
  unfold sSet una
  have q := rcall (nm := "pop_many") (g := aCons (escf (eVar 2)) aNil) (rho := [some (.d (.str wd)), some (.d (.int (ts.length : Nat))), none, none]) (rho1 := [some (.d (.o r)), some (.d (.str wd)), some (.d (.int (ts.length : Nat))), none, none]) h (by kernel_rfl) rfl rfl e1
  rw [q]
  rfl
 have a1 : (aCons (escf (eBin dAdd (eTup (aCons (escf (eVar 1)) aNil)) (eFn fTuple (aCons (opd (eLc (iAnyM (eVar 3)) (kName 4) (fun z => .ok true z) (eBin dIx (eVar 4) (eC (.int 0))) [4])) aNil)))) (aCons (escf (eVar 3)) aNil) : Sm MX (List S)) ⟨[some (.d (.o r)), some (.d (.str wd)), some (.d (.int (ts.length : Nat))), some (.l (ts.map itm)), none], t1⟩ = .ok [.d (.tup (.str wd :: ts.map enc)), .d (.lst (ts.map itm))] ⟨[some (.d (.o r)), some (.d (.str wd)), some (.d (.int (ts.length : Nat))), some (.d (.lst (ts.map itm))), none], t1⟩ := by
  walk_at "ex"
  rw [lc_at (i := 4) (k := 0) (g := enc) (ts := ts) (rho' := [some (.d (.o r)), some (.d (.str wd)), some (.d (.int (ts.length : Nat))), some (.d (.lst (ts.map itm))), none]) rfl rfl (by show 4 < 5; omega) (by omega) ix_itm0]
  walk_at "ex"
  have ea : dAdd (.tup [.str wd]) (.tup (ts.map enc)) = some (.t (.str wd :: ts.map enc)) := by
   unfold dAdd
   simp only
   rw [if_pos (by rw [List.length_map, List.length_singleton]; omega)]
   rfl
  rw [ea]
  walk_at "ex"
 obtain ⟨t2, e2, d2, f2⟩ := push_stmt (s := { s with md := md }) (y := jn (.tup (.str wd :: ts.map enc)) ts) (rho := [some (.d (.str wd)), some (.d (.int (ts.length : Nat))), some (.l (ts.map itm)), none]) d1 (joined_call n a1 (by omega)) d1 hj_refl (by show md.length < lim; omega)
 refine ⟨t2, ?_, d2, f1.trans f2⟩
 show fnM 5 (m_Reader_make (mir (n + 1))) [.d (.o r), .d (.str wd), .d (.int (ts.length : Nat))] t = _
 exact fnM_n (M := MX) ((seq_nx s1).trans (ex_ok_ e2))
theorem if_t {c : Sm MX Bool} {f g : Sm MX Out} {z z1 : Z (List MO)} (h : c z = .ok true z1) : sIf c f g z = f z1 := by
 unfold sIf kIf; rw [h]; rfl
theorem if_f {c : Sm MX Bool} {f g : Sm MX Out} {z z1 : Z (List MO)} (h : c z = .ok false z1) : sIf c f g z = g z1 := by
 unfold sIf kIf; rw [h]; rfl
theorem ex_ok {f : Sm MX S} {z z1 : Z (List MO)} {v : S} (h : f z = .ok v z1) : sExpr f z = .ok .nx z1 := by
 unfold sExpr; rw [h]; rfl
theorem set_d {i : Nat} {f : Sm MX S} {z z1 : Z (List MO)} {x : D} (h : f z = .ok (.d x) z1) : sSet i f z = .ok .nx ⟨z1.rho.set i (some (.d x)), z1.m⟩ := by
 unfold sSet una; rw [h]; rfl
theorem set_l {i : Nat} {f : Sm MX S} {z z1 : Z (List MO)} {x : List D} (h : f z = .ok (.l x) z1) : sSet i f z = .ok .nx ⟨z1.rho.set i (some (.l x)), z1.m⟩ := by
 unfold sSet una; rw [h]; rfl
theorem ret_d {f : Sm MX S} {z z1 : Z (List MO)} {x : D} (h : f z = .ok (.d x) z1) : sRet f z = .ok (.rt (.d x)) z1 := by
 unfold sRet; rw [h]; rfl
section
variable {r : Nat} {s : RS} {t t1 t' : List MO} {rho rho1 : List (Option S)} {c : List S → List MO → Rs S (List MO)} {nm : Str} {v : S}
theorem rc0 (h : Rd t r s) (hl : List.lookup nm (flds [] 0 0 0 0 0) = none) (hc : c [.d (.o r)] t = .ok v t') : eCall c (aMeth "Reader" nm (eVar 0) aNil) ⟨some (.d (.o r)) :: rho, t⟩ = .ok v ⟨some (.d (.o r)) :: rho, t'⟩ := rcall h hl rfl rfl hc
theorem rc1 {f : Sm MX S} {x : D} (h : Rd t r s) (hl : List.lookup nm (flds [] 0 0 0 0 0) = none) (hf : escf f ⟨some (.d (.o r)) :: rho, t⟩ = .ok (.d x) ⟨rho1, t1⟩) (hc : c [.d (.o r), .d x] t1 = .ok v t') : eCall c (aMeth "Reader" nm (eVar 0) (aCons (escf f) aNil)) ⟨some (.d (.o r)) :: rho, t⟩ = .ok v ⟨rho1, t'⟩ :=
 rcall (ss := [.d x]) h hl (by simp only [aCons, kA, hf, Rs.bind_ok, aNil]) rfl hc
theorem rc2 {f g : Sm MX S} {x y : D} {rho2 : List (Option S)} {t2 : List MO} (h : Rd t r s) (hl : List.lookup nm (flds [] 0 0 0 0 0) = none) (hf : escf f ⟨some (.d (.o r)) :: rho, t⟩ = .ok (.d x) ⟨rho1, t1⟩) (hg : escf g ⟨rho1, t1⟩ = .ok (.d y) ⟨rho2, t2⟩) (hc : c [.d (.o r), .d x, .d y] t2 = .ok v t') : eCall c (aMeth "Reader" nm (eVar 0) (aCons (escf f) (aCons (escf g) aNil))) ⟨some (.d (.o r)) :: rho, t⟩ = .ok v ⟨rho2, t'⟩ :=
 rcall (ss := [.d x, .d y]) h hl (by simp only [aCons, kA, hf, hg, Rs.bind_ok, aNil]) rfl hc
theorem rc3 {f g e : Sm MX S} {x y w : D} {rho2 rho3 : List (Option S)} {t2 t3 : List MO} (h : Rd t r s) (hl : List.lookup nm (flds [] 0 0 0 0 0) = none) (hf : escf f ⟨some (.d (.o r)) :: rho, t⟩ = .ok (.d x) ⟨rho1, t1⟩) (hg : escf g ⟨rho1, t1⟩ = .ok (.d y) ⟨rho2, t2⟩) (he : escf e ⟨rho2, t2⟩ = .ok (.d w) ⟨rho3, t3⟩) (hc : c [.d (.o r), .d x, .d y, .d w] t3 = .ok v t') : eCall c (aMeth "Reader" nm (eVar 0) (aCons (escf f) (aCons (escf g) (aCons (escf e) aNil)))) ⟨some (.d (.o r)) :: rho, t⟩ = .ok v ⟨rho3, t'⟩ :=
 rcall (ss := [.d x, .d y, .d w]) h hl (by simp only [aCons, kA, hf, hg, he, Rs.bind_ok, aNil]) rfl hc
theorem t_kind (n : Nat) {kd : Str} (h : Rd t r s) (hw : WOk s) (hk : PyData.strOk kd = true) : tOf (M := MX) (eBin dEq (eBin dIx (eCall (mir (n + 1) .Reader_now) (aMeth "Reader" "now" (eVar 0) aNil)) (eC (.int 0))) (eC (.str kd))) ⟨some (.d (.o r)) :: rho, t⟩ = .ok (s.now.k == kd) ⟨some (.d (.o r)) :: rho, t⟩ := by
 obtain ⟨q1, q2⟩ := now_flt hw
 walk_at "ex"
 rw [now_call n h]
 walk_at "ex"
 have e0 : dIx s.now.d (.int 0) = some (.d (.str s.now.k)) := rfl
 rw [e0]
 walk_at "ex"
 rw [dEq_s q1 hk]
 rfl
theorem t_mark (n : Nat) {c : Str} (h : Rd t r s) (hw : WOk s) (hc : PyData.strOk c = true) : tTru (M := MX) dTru (eCall (mir (n + 2) .Reader_is_mark) (aMeth "Reader" "is_mark" (eVar 0) (aCons (escf (eC (.str c))) aNil))) ⟨some (.d (.o r)) :: rho, t⟩ = .ok (s.now.is "mark" c) ⟨some (.d (.o r)) :: rho, t⟩ := by
 walk_at "ex"
 rw [rc1 (rho1 := some (.d (.o r)) :: rho) h (by kernel_rfl) rfl (is_mark_ok n h hw hc)]
 rfl
theorem t_told (n : Nat) {c : Str} (h : Rd t r s) (hw : WOk s) (hc : PyData.strOk c = true) : tTru (M := MX) dTru (eCall (mir (n + 2) .Reader_is_told) (aMeth "Reader" "is_told" (eVar 0) (aCons (escf (eC (.str c))) aNil))) ⟨some (.d (.o r)) :: rho, t⟩ = .ok (s.now.is "told" c) ⟨some (.d (.o r)) :: rho, t⟩ := by
 walk_at "ex"
 rw [rc1 (rho1 := some (.d (.o r)) :: rho) h (by kernel_rfl) rfl (is_told_ok n h hw hc)]
 rfl
end
theorem itm_call (f : Str) (ts : List Th) : jn (.tup [.str "call", .str f, .tup (ts.map enc)]) ts = itm (.call f ts) := by
 simp [itm, jn, enc, size, depth, encs_map]
theorem itm_rel (f : Str) (ts : List Th) : jn (.tup [.str "rel", .str f, .tup (ts.map enc)]) ts = itm (.rel f ts) := by
 simp [itm, jn, enc, size, depth, encs_map]
theorem itm_same (a b : Th) : jn (.tup [.str "same", enc a, enc b]) [a, b] = itm (.same a b) := by
 simp [itm, jn, enc, size, depth, sizes, depths]
theorem itm_and (a b : Th) : jn (.tup [.str "and", enc a, enc b]) [a, b] = itm (.and a b) := by
 simp [itm, jn, enc, size, depth, sizes, depths]
theorem itm_or (a b : Th) : jn (.tup [.str "or", enc a, enc b]) [a, b] = itm (.or a b) := by
 simp [itm, jn, enc, size, depth, sizes, depths]
theorem itm_imp (a b : Th) : jn (.tup [.str "if", enc a, enc b]) [a, b] = itm (.imp a b) := by
 simp [itm, jn, enc, size, depth, sizes, depths]
theorem itm_all (s : Str) (a : Th) : jn (.tup [.str "all", .str s, enc a]) [a] = itm (.all s a) := by
 simp [itm, jn, enc, size, depth, sizes, depths]
theorem itm_some (s : Str) (a : Th) : jn (.tup [.str "some", .str s, enc a]) [a] = itm (.some s a) := by
 simp [itm, jn, enc, size, depth, sizes, depths]
theorem itm_var (k : Int) : D.tup [.tup [.str "var", .int k], .int 1, .int 1] = itm (.var k) := by
 simp [itm, enc, size, depth]
theorem itm_no : D.tup [.tup [.str "no"], .int 1, .int 1] = itm .no := by
 simp [itm, enc, size, depth]
theorem make_call_ok (n : Nat) {r : Nat} {s : RS} {t : List MO} {wd nm : Str} {ts : List Th} {md : List D} (h : Rd t r s) (hm : s.md = (ts.map itm).reverse ++ md) (hl : s.md.length < lim) : ∃ t', mir (n + 2) .Reader_make_call [.d (.o r), .d (.str wd), .d (.str nm), .d (.int (ts.length : Nat))] t = .ok (.d .non) t' ∧ Rd t' r { s with md := jn (.tup [.str wd, .str nm, .tup (ts.map enc)]) ts :: md } ∧ Fr r t t' := by
 have el : s.md.length = ts.length + md.length := by rw [hm, List.length_append, List.length_reverse, List.length_map]
 obtain ⟨t1, e1, d1, f1⟩ := pop_many_ok n (c := ts.length) h (by omega)
 have ek : s.md.take ts.length = (ts.map itm).reverse := by rw [hm, List.take_left' (by rw [List.length_reverse, List.length_map])]
 have ed : s.md.drop ts.length = md := by rw [hm, List.drop_left' (by rw [List.length_reverse, List.length_map])]
 rw [ek, List.reverse_reverse] at e1
 rw [ed] at d1
 have s1 : (sSet 4 (eCall (mir (n + 1) .Reader_pop_many) (aMeth "Reader" "pop_many" (eVar 0) (aCons (escf (eVar 3)) aNil))) : Sm MX Out) ⟨[some (.d (.o r)), some (.d (.str wd)), some (.d (.str nm)), some (.d (.int (ts.length : Nat))), none, none], t⟩ = .ok .nx ⟨[some (.d (.o r)), some (.d (.str wd)), some (.d (.str nm)), some (.d (.int (ts.length : Nat))), some (.l (ts.map itm)), none], t1⟩ :=
  set_l (rc1 (rho1 := [some (.d (.o r)), some (.d (.str wd)), some (.d (.str nm)), some (.d (.int (ts.length : Nat))), none, none]) h (by kernel_rfl) rfl e1)
 have a1 : (aCons (escf (eTup (aCons (escf (eVar 1)) (aCons (escf (eVar 2)) (aCons (escf (eFn fTuple (aCons (opd (eLc (iAnyM (eVar 4)) (kName 5) (fun z => .ok true z) (eBin dIx (eVar 5) (eC (.int 0))) [5])) aNil))) aNil))))) (aCons (escf (eVar 4)) aNil) : Sm MX (List S)) ⟨[some (.d (.o r)), some (.d (.str wd)), some (.d (.str nm)), some (.d (.int (ts.length : Nat))), some (.l (ts.map itm)), none], t1⟩ = .ok [.d (.tup [.str wd, .str nm, .tup (ts.map enc)]), .d (.lst (ts.map itm))] ⟨[some (.d (.o r)), some (.d (.str wd)), some (.d (.str nm)), some (.d (.int (ts.length : Nat))), some (.d (.lst (ts.map itm))), none], t1⟩ := by
  walk_at "ex"
  rw [lc_at (i := 5) (k := 0) (g := enc) (ts := ts) (rho' := [some (.d (.o r)), some (.d (.str wd)), some (.d (.str nm)), some (.d (.int (ts.length : Nat))), some (.d (.lst (ts.map itm))), none]) rfl rfl (by show 5 < 6; omega) (by omega) ix_itm0]
  walk_at "ex"
 obtain ⟨t2, e2, d2, f2⟩ := push_stmt (s := { s with md := md }) (y := jn (.tup [.str wd, .str nm, .tup (ts.map enc)]) ts) (rho := [some (.d (.str wd)), some (.d (.str nm)), some (.d (.int (ts.length : Nat))), some (.l (ts.map itm)), none]) d1 (joined_call n a1 (by omega)) d1 hj_refl (by show md.length < lim; omega)
 refine ⟨t2, ?_, d2, f1.trans f2⟩
 show fnM 6 (m_Reader_make_call (mir (n + 1))) [.d (.o r), .d (.str wd), .d (.str nm), .d (.int (ts.length : Nat))] t = _
 exact fnM_n (M := MX) ((seq_nx s1).trans (ex_ok e2))
theorem make_bound_ok (n : Nat) {r : Nat} {s : RS} {t : List MO} {wd nm : Str} {T : Th} {md : List D} (h : Rd t r s) (hm : s.md = itm T :: md) (hl : s.md.length < lim) : ∃ t', mir (n + 2) .Reader_make_bound [.d (.o r), .d (.str wd), .d (.str nm)] t = .ok (.d .non) t' ∧ Rd t' r { s with md := jn (.tup [.str wd, .str nm, enc T]) [T] :: md, many := s.many - 1 } ∧ Fr r t t' := by
 have el : s.md.length = 1 + md.length := by rw [hm, List.length_cons]; omega
 obtain ⟨k, j, g1, g2⟩ := h.many_ (s.many - 1)
 have s0 : (sFldM ["Reader"] "many" (eBin dSub (eFld ["Reader"] "many" (eVar 0)) (eC (.int 1))) (eVar 0) : Sm MX Out) ⟨[some (.d (.o r)), some (.d (.str wd)), some (.d (.str nm)), none], t⟩ = .ok .nx ⟨[some (.d (.o r)), some (.d (.str wd)), some (.d (.str nm)), none], t.set r (rob (s.w.map Wd.d) s.a s.len (s.many - 1) k j)⟩ := by
  refine sf_many (a' := s.many - 1) ?_ g1
  walk_at "ex"
  rw [fy g1]
  walk_at "ex"
 obtain ⟨t1, e1, d1, f1⟩ := pop_many_ok n (c := 1) g2 (by show 1 ≤ s.md.length; omega)
 have ek : s.md.take 1 = [itm T] := by rw [hm]; rfl
 have ed : s.md.drop 1 = md := by rw [hm]; rfl
 have e1' : mir (n + 1) .Reader_pop_many [.d (.o r), .d (.int 1)] (t.set r (rob (s.w.map Wd.d) s.a s.len (s.many - 1) k j)) = .ok (.l [itm T]) t1 := by
  have q : (List.take 1 { s with many := s.many - 1 }.md).reverse = [itm T] := by
   show (s.md.take 1).reverse = _
   rw [ek]; rfl
  rw [← q]; exact e1
 have d1' : Rd t1 r { s with md := md, many := s.many - 1 } := by
  have q : { ({ s with many := s.many - 1 } : RS) with md := List.drop 1 ({ s with many := s.many - 1 } : RS).md } = { s with md := md, many := s.many - 1 } := by
   show ({ s with md := s.md.drop 1, many := s.many - 1 } : RS) = _
   rw [ed]
  rw [← q]; exact d1
 have s1 : (sSet 3 (eCall (mir (n + 1) .Reader_pop_many) (aMeth "Reader" "pop_many" (eVar 0) (aCons (escf (eC (.int 1))) aNil))) : Sm MX Out) ⟨[some (.d (.o r)), some (.d (.str wd)), some (.d (.str nm)), none], t.set r (rob (s.w.map Wd.d) s.a s.len (s.many - 1) k j)⟩ = .ok .nx ⟨[some (.d (.o r)), some (.d (.str wd)), some (.d (.str nm)), some (.l [itm T])], t1⟩ :=
  set_l (rc1 (rho1 := [some (.d (.o r)), some (.d (.str wd)), some (.d (.str nm)), none]) g2 (by kernel_rfl) rfl e1')
 have a1 : (aCons (escf (eTup (aCons (escf (eVar 1)) (aCons (escf (eVar 2)) (aCons (escf (eBin dIx (eBin dIx (eVar 3) (eC (.int 0))) (eC (.int 0)))) aNil))))) (aCons (escf (eVar 3)) aNil) : Sm MX (List S)) ⟨[some (.d (.o r)), some (.d (.str wd)), some (.d (.str nm)), some (.l [itm T])], t1⟩ = .ok [.d (.tup [.str wd, .str nm, enc T]), .d (.lst ([T].map itm))] ⟨[some (.d (.o r)), some (.d (.str wd)), some (.d (.str nm)), some (.d (.lst [itm T]))], t1⟩ := by
  walk_at "ex"
  rw [show dIx (.lst [itm T]) (.int 0) = some (.d (itm T)) from rfl]
  walk_at "ex"
  rw [ix_itm0]
  walk_at "ex"
 obtain ⟨t2, e2, d2, f2⟩ := push_stmt (s := { s with md := md, many := s.many - 1 }) (y := jn (.tup [.str wd, .str nm, enc T]) [T]) (rho := [some (.d (.str wd)), some (.d (.str nm)), some (.l [itm T])]) d1' (joined_call n a1 (by show _ < 1000000; simp)) d1' hj_refl (by show md.length < lim; omega)
 refine ⟨t2, ?_, d2, (Fr.set (Nat.le_refl _)).trans (f1.trans f2)⟩
 show fnM 4 (m_Reader_make_bound (mir (n + 1))) [.d (.o r), .d (.str wd), .d (.str nm)] t = _
 exact fnM_n (M := MX) ((seq_nx s0).trans ((seq_nx s1).trans (ex_ok e2)))
theorem make_not_ok (n : Nat) {r : Nat} {s : RS} {t : List MO} {T : Th} {md : List D} (h : Rd t r s) (hm : s.md = itm T :: md) (hl : s.md.length < lim) : ∃ t', mir (n + 2) .Reader_make_not [.d (.o r)] t = .ok (.d .non) t' ∧ Rd t' r { s with md := itm (.imp T .no) :: md } ∧ Fr r t t' := by
 have el : s.md.length = 1 + md.length := by rw [hm, List.length_cons]; omega
 obtain ⟨t1, e1, d1, f1⟩ := pop_many_ok n (c := 1) h (by omega)
 have ek : s.md.take 1 = [itm T] := by rw [hm]; rfl
 have ed : s.md.drop 1 = md := by rw [hm]; rfl
 rw [ek] at e1
 rw [ed] at d1
 have s1 : (sSet 1 (eCall (mir (n + 1) .Reader_pop_many) (aMeth "Reader" "pop_many" (eVar 0) (aCons (escf (eC (.int 1))) aNil))) : Sm MX Out) ⟨[some (.d (.o r)), none], t⟩ = .ok .nx ⟨[some (.d (.o r)), some (.l [itm T])], t1⟩ :=
  set_l (rc1 (rho1 := [some (.d (.o r)), none]) h (by kernel_rfl) rfl e1)
 have a1 : (aCons (escf (eTup (aCons (escf (eC (.str "if"))) (aCons (escf (eBin dIx (eBin dIx (eVar 1) (eC (.int 0))) (eC (.int 0)))) (aCons (escf (eC c_NO_stack)) aNil))))) (aCons (escf (eBin dAdd (eVar 1) (eLst (aCons (escf (eTup (aCons (escf (eC c_NO_stack)) (aCons (escf (eC (.int 1))) (aCons (escf (eC (.int 1))) aNil))))) aNil)))) aNil) : Sm MX (List S)) ⟨[some (.d (.o r)), some (.l [itm T])], t1⟩ = .ok [.d (.tup [.str "if", enc T, enc .no]), .d (.lst ([T, .no].map itm))] ⟨[some (.d (.o r)), some (.l [itm T])], t1⟩ := by
  walk_at "ex"
  rw [show dIx (.lst [itm T]) (.int 0) = some (.d (itm T)) from rfl]
  walk_at "ex"
  rw [ix_itm0]
  walk_at "ex"
  rw [show dAdd (.lst [itm T]) (.lst [.tup [c_NO_stack, .int 1, .int 1]]) = some (.l [itm T, .tup [c_NO_stack, .int 1, .int 1]]) from rfl]
  walk_at "ex"
  rw [show D.tup [c_NO_stack, .int 1, .int 1] = itm .no from itm_no, show c_NO_stack = enc .no from by simp [c_NO_stack, enc]]
 obtain ⟨t2, e2, d2, f2⟩ := push_stmt (s := { s with md := md }) (y := jn (.tup [.str "if", enc T, enc .no]) [T, .no]) (rho := [some (.l [itm T])]) d1 (joined_call n a1 (by show _ < 1000000; simp)) d1 hj_refl (by show md.length < lim; omega)
 rw [itm_imp] at d2
 refine ⟨t2, ?_, d2, f1.trans f2⟩
 show fnM 2 (m_Reader_make_not (mir (n + 1))) [.d (.o r)] t = _
 exact fnM_n (M := MX) ((seq_nx s1).trans (ex_ok e2))
noncomputable def tTerm : D := .tup [.str "term"]
noncomputable def tArgs : D := .tup [.str "args", .int 0]
noncomputable def tMore (c : Int) : D := .tup [.str "more", .int c]
noncomputable def tCall (f : Str) : D := .tup [.str "call", .str f]
noncomputable def tRel (f : Str) : D := .tup [.str "rel", .str f]
noncomputable def tMake (w : Str) : D := .tup [.str "make", .str w, .int 2]
noncomputable def tStat : D := .tup [.str "statement"]
noncomputable def tBound (w s : Str) : D := .tup [.str "bound", .str w, .str s]
noncomputable def tLevel (i : Int) : D := .tup [.str "level", .int i]
noncomputable def tRest (i : Int) : D := .tup [.str "rest", .int i]
noncomputable def tNot : D := .tup [.str "make_not"]
noncomputable def tTake (c : Str) : D := .tup [.str "take", .str "mark", .str c]
section
variable {r : Nat} {s : RS} {t : List MO} {rho : List (Option S)}
theorem plan_st (n : Nat) (rho : List (Option S)) (ts : List D) (h : Rd t r s) (hl : s.td.length + ts.length ≤ lim) : ∃ t', (∀ g : Sm MX S, escf g ⟨some (.d (.o r)) :: rho, t⟩ = .ok (.d (.lst ts)) ⟨some (.d (.o r)) :: rho, t⟩ → sExpr (eCall (mir (n + 1) .Reader_plan) (aMeth "Reader" "plan" (eVar 0) (aCons (escf g) aNil))) ⟨some (.d (.o r)) :: rho, t⟩ = .ok .nx ⟨some (.d (.o r)) :: rho, t'⟩) ∧ Rd t' r { s with td := ts ++ s.td } ∧ Fr r t t' := by
 obtain ⟨t', e, h', f⟩ := plan_ok n h hl
 exact ⟨t', fun g hg => ex_ok (rc1 h (by kernel_rfl) hg e), h', f⟩
theorem push_st {g : Sm MX S} {y : D} (h : Rd t r s) (hg : escf g ⟨some (.d (.o r)) :: rho, t⟩ = .ok (.d y) ⟨some (.d (.o r)) :: rho, t⟩) (hl : s.md.length < lim) : ∃ t', sExpr (eAppO (eFld ["Reader"] "made" (eVar 0)) g) ⟨some (.d (.o r)) :: rho, t⟩ = .ok .nx ⟨some (.d (.o r)) :: rho, t'⟩ ∧ Rd t' r { s with md := y :: s.md } ∧ Fr r t t' := by
 obtain ⟨t', e, h', f⟩ := push_stmt h hg h hj_refl hl
 exact ⟨t', ex_ok e, h', f⟩
theorem word_st (n : Nat) {kd c : Str} (h : Rd t r s) (hw : WOk s) (hk : PyData.strOk kd = true) (hc : PyData.strOk c = true) (hi : s.now.is kd c = true) : ∃ t', sExpr (eCall (mir (n + 2) .Reader_need_word) (aMeth "Reader" "need_word" (eVar 0) (aCons (escf (eC (.str kd))) (aCons (escf (eC (.str c))) aNil)))) ⟨some (.d (.o r)) :: rho, t⟩ = .ok .nx ⟨some (.d (.o r)) :: rho, t'⟩ ∧ Rd t' r { s with a := s.a + 1 } ∧ Fr r t t' := by
 obtain ⟨t', e, h', f⟩ := need_word_ok n h hw hk hc hi
 exact ⟨t', ex_ok (rc2 (rho1 := some (.d (.o r)) :: rho) (rho2 := some (.d (.o r)) :: rho) h (by kernel_rfl) rfl rfl e), h', f⟩
theorem kind_st (n : Nat) {i : Nat} {kd : Str} (h : Rd t r s) (hw : WOk s) (hk : PyData.strOk kd = true) (hi : s.now.k = kd) (hl : s.a < s.w.length) : ∃ t', sSet i (eCall (mir (n + 2) .Reader_need_kind) (aMeth "Reader" "need_kind" (eVar 0) (aCons (escf (eC (.str kd))) aNil))) ⟨some (.d (.o r)) :: rho, t⟩ = .ok .nx ⟨(some (.d (.o r)) :: rho).set i (some (.d s.now.v)), t'⟩ ∧ Rd t' r { s with a := s.a + 1 } ∧ Fr r t t' := by
 obtain ⟨t', e, h', f⟩ := need_kind_ok n h hw hk hi hl
 exact ⟨t', set_d (rc1 (rho1 := some (.d (.o r)) :: rho) h (by kernel_rfl) rfl e), h', f⟩
end
theorem WOk.nx {s : RS} (h : WOk s) (a : Nat) : WOk { s with a := a } := ⟨h.n, h.f⟩
theorem do_variable_ok (n : Nat) {r : Nat} {s : RS} {t : List MO} {k : Int} (h : Rd t r s) (hw : WOk s) (hk : s.now.k = "var") (hv : s.now.v = .int k) (hm : k < s.many) (hl : s.a < s.w.length) (hm2 : s.md.length < lim) :
  ∃ t', mir (n + 2) .Reader_do_variable [.d (.o r)] t = .ok (.d .non) t' ∧ Rd t' r { s with a := s.a + 1, md := itm (.var (s.many - 1 - k)) :: s.md } ∧ Fr r t t' := by
 obtain ⟨k0, j0, h1, h2, h3, h4, h5, h6⟩ := id h
 have hj : ∀ w a l m k j w' a' l' m' k' j', t[r]? = some (rob w a l m k j) → (t.set r (rob (s.w.map Wd.d) ((s.a + 1 : Nat) : Int) s.len s.many k0 j0))[r]? = some (rob w' a' l' m' k' j') → j = j' := by
  intro w a l m k j w' a' l' m' k' j' q1 q2
  rw [getset_eq h1] at q2
  rw [h1] at q1
  rw [← rob_j (Option.some.inj q1), ← rob_j (Option.some.inj q2)]
 have nx : Rd (t.set r (rob (s.w.map Wd.d) ((s.a + 1 : Nat) : Int) s.len s.many k0 j0)) r { s with a := s.a + 1 } := ⟨k0, j0, getset_eq h1, (getset_ne (by omega)).trans h2, (getset_ne (by omega)).trans h3, h4, h5, h6⟩
 have go : mir (n + 1) .Reader_go_on [.d (.o r)] t = .ok (.d (.int k)) (t.set r (rob (s.w.map Wd.d) ((s.a + 1 : Nat) : Int) s.len s.many k0 j0)) := by
  obtain ⟨k1, j1, g1, g2⟩ := h.at_ (s.a + 1)
  show fnM 1 (m_Reader_go_on (mir n)) [.d (.o r)] t = _
  have s1 : (sFldM ["Reader"] "at" (eBin dAdd (eFld ["Reader"] "at" (eVar 0)) (eC (.int 1))) (eVar 0) : Sm MX Out) ⟨[some (.d (.o r))], t⟩ = .ok .nx ⟨[some (.d (.o r))], t.set r (rob (s.w.map Wd.d) ((s.a + 1 : Nat) : Int) s.len s.many k0 j0)⟩ := by
   refine sf_at (a' := ((s.a + 1 : Nat) : Int)) ?_ h1
   walk_at "ex"
   rw [fa h1]
   walk_at "ex"
   rfl
  have e3 : (sRet (eBin dIx (eBin dIx (eFld ["Reader"] "words" (eVar 0)) (eBin dSub (eFld ["Reader"] "at" (eVar 0)) (eC (.int 1)))) (eC (.int 1))) : Sm MX Out) ⟨[some (.d (.o r))], t.set r (rob (s.w.map Wd.d) ((s.a + 1 : Nat) : Int) s.len s.many k0 j0)⟩ = .ok (.rt (.d s.now.v)) ⟨[some (.d (.o r))], t.set r (rob (s.w.map Wd.d) ((s.a + 1 : Nat) : Int) s.len s.many k0 j0)⟩ := by
   walk_at "ex"
   rw [fw (getset_eq h1)]
   walk_at "ex"
   rw [fa (getset_eq h1)]
   walk_at "ex"
   have e2 : s.w[s.a]? = some s.w[s.a] := List.getElem?_eq_getElem hl
   have e3 : (s.w.map Wd.d)[s.a]? = some (s.w[s.a]).d := by rw [List.getElem?_map, e2]; rfl
   have e5 : (((s.a + 1 : Nat) : Int) - 1) = ((s.a : Nat) : Int) := by omega
   have e4 : dIx (.lst (s.w.map Wd.d)) (.int (((s.a + 1 : Nat) : Int) - 1)) = some (.d (s.w[s.a]).d) := by
    rw [e5]
    show (atI (s.w.map Wd.d) ((s.a : Nat) : Int)).map R.d = _
    rw [atI_n e3]; rfl
   rw [e4]
   walk_at "ex"
   have e6 : s.now = s.w[s.a] := by unfold RS.now; rw [e2]; rfl
   rw [e6]
   rfl
  rw [← hv]
  exact fnM_d (M := MX) ((seq_nx s1).trans e3)
 have c1 : (tOrM (tOf (eBin dNe (eBin dIx (eCall (mir (n + 1) .Reader_now) (aMeth "Reader" "now" (eVar 0) aNil)) (eC (.int 0))) (eC (.str "var")))) (tOf (eBin dGe (eBin dIx (eCall (mir (n + 1) .Reader_now) (aMeth "Reader" "now" (eVar 0) aNil)) (eC (.int 1))) (eFld ["Reader"] "many" (eVar 0)))) : Sm MX Bool) ⟨[some (.d (.o r))], t⟩ = .ok false ⟨[some (.d (.o r))], t⟩ := by
  obtain ⟨q1, q2⟩ := now_flt hw
  walk_at "ex"
  rw [now_call n h]
  walk_at "ex"
  rw [show dIx s.now.d (.int 0) = some (.d (.str s.now.k)) from rfl]
  walk_at "ex"
  rw [dNe_s q1 (by decide +kernel), hk, beq_self_eq_true]
  walk_at "ex"
  rw [now_call n h]
  walk_at "ex"
  rw [show dIx s.now.d (.int 1) = some (.d s.now.v) from rfl]
  walk_at "ex"
  rw [hv, fy h1]
  walk_at "ex"
  have : ¬ s.many ≤ k := by omega
  simp only [this]
  walk_at "ex"
 have a1 : escf (M := MX) (eTup (aCons (escf (eTup (aCons (escf (eC (.str "var"))) (aCons (escf (eBin dSub (eBin dSub (eFld ["Reader"] "many" (eVar 0)) (eC (.int 1))) (eCall (mir (n + 1) .Reader_go_on) (aMeth "Reader" "go_on" (eVar 0) aNil)))) aNil)))) (aCons (escf (eC (.int 1))) (aCons (escf (eC (.int 1))) aNil)))) ⟨[some (.d (.o r))], t⟩ = .ok (.d (itm (.var (s.many - 1 - k)))) ⟨[some (.d (.o r))], t.set r (rob (s.w.map Wd.d) ((s.a + 1 : Nat) : Int) s.len s.many k0 j0)⟩ := by
  walk_at "ex"
  rw [fy h1]
  walk_at "ex"
  rw [rc0 h (by kernel_rfl) go]
  walk_at "ex"
  rw [itm_var]
 obtain ⟨t2, e2, d2, f2⟩ := push_stmt h a1 nx hj hm2
 refine ⟨t2, ?_, d2, (Fr.set (Nat.le_refl _)).trans f2⟩
 show fnM 1 (m_Reader_do_variable (mir (n + 1))) [.d (.o r)] t = _
 exact fnM_n (M := MX) ((seq_nx (if_f c1)).trans (ex_ok e2))
section
variable {r : Nat} {s : RS} {t : List MO} {rho : List (Option S)}
theorem pop_made {y : D} {md : List D} (h : Rd t r s) (hm : s.md = y :: md) : ∃ t', ePopO (eFld ["Reader"] "made" (eVar 0)) ⟨some (.d (.o r)) :: rho, t⟩ = .ok (.d y) ⟨some (.d (.o r)) :: rho, t'⟩ ∧ Rd t' r { s with md := md } ∧ Fr r t t' := by
 obtain ⟨k, j, h1, h2, h3, h4, h5, h6⟩ := h
 rw [hm, List.reverse_cons] at h3
 exact ⟨t.set j (.lst md.reverse), pop_ok (opd_m h1) h3, ⟨k, j, (getset_ne (by omega)).trans h1, (getset_ne (Ne.symm h6)).trans h2, getset_eq h3, h4, h5, h6⟩, Fr.set (by omega)⟩
theorem pop_todo {y : D} {td : List D} (h : Rd t r s) (hm : s.td = y :: td) : ∃ t', ePopO (eFld ["Reader"] "todo" (eVar 0)) ⟨some (.d (.o r)) :: rho, t⟩ = .ok (.d y) ⟨some (.d (.o r)) :: rho, t'⟩ ∧ Rd t' r { s with td := td } ∧ Fr r t t' := by
 obtain ⟨k, j, h1, h2, h3, h4, h5, h6⟩ := h
 rw [hm, List.reverse_cons] at h2
 exact ⟨t.set k (.lst td.reverse), pop_ok (opd_t h1) h2, ⟨k, j, (getset_ne (by omega)).trans h1, getset_eq h2, (getset_ne h6).trans h3, h4, h5, h6⟩, Fr.set (by omega)⟩
theorem do_same_ok (n : Nat) (h : Rd t r s) (hw : WOk s) (hi : s.now.is "mark" "=" = true) (hl : s.td.length + 2 ≤ lim) : ∃ t', mir (n + 3) .Reader_do_same [.d (.o r)] t = .ok (.d .non) t' ∧ Rd t' r { s with a := s.a + 1, td := tTerm :: tMake "same" :: s.td } ∧ Fr r t t' := by
 obtain ⟨t1, e1, d1, f1⟩ := word_st n (rho := []) h hw (by decide +kernel) (by decide +kernel) hi
 obtain ⟨t2, e2, d2, f2⟩ := plan_st (n + 1) [] [tTerm, tMake "same"] d1 hl
 refine ⟨t2, ?_, d2, f1.trans f2⟩
 show fnM 1 (m_Reader_do_same (mir (n + 2))) [.d (.o r)] t = _
 exact fnM_n (M := MX) ((seq_nx e1).trans (e2 _ rfl))
theorem do_term_v (n : Nat) {k : Int} (h : Rd t r s) (hw : WOk s) (hk : s.now.k = "var") (hv : s.now.v = .int k) (hm : k < s.many) (hl : s.a < s.w.length) (hm2 : s.md.length < lim) :
  ∃ t', mir (n + 3) .Reader_do_term [.d (.o r)] t = .ok (.d .non) t' ∧ Rd t' r { s with a := s.a + 1, md := itm (.var (s.many - 1 - k)) :: s.md } ∧ Fr r t t' := by
 obtain ⟨t1, e1, d1, f1⟩ := do_variable_ok n h hw hk hv hm hl hm2
 refine ⟨t1, ?_, d1, f1⟩
 show fnM 2 (m_Reader_do_term (mir (n + 2))) [.d (.o r)] t = _
 have c := t_kind (n + 1) (kd := "var") (rho := [none]) h hw (by decide +kernel)
 rw [hk, beq_self_eq_true] at c
 exact fnM_n (M := MX) ((if_t c).trans (ex_ok (rc0 h (by kernel_rfl) e1)))
theorem do_term_n (n : Nat) {f : Str} (h : Rd t r s) (hw : WOk s) (hk : s.now.k = "name") (hv : s.now.v = .str f) (hl : s.a < s.w.length) (hl2 : s.td.length + 2 ≤ lim) :
  ∃ t', mir (n + 3) .Reader_do_term [.d (.o r)] t = .ok (.d .non) t' ∧ Rd t' r { s with a := s.a + 1, td := tArgs :: tCall f :: s.td } ∧ Fr r t t' := by
 obtain ⟨t1, e1, d1, f1⟩ := kind_st n (i := 1) (rho := [none]) (kd := "name") h hw (by decide +kernel) hk hl
 rw [hv] at e1
 obtain ⟨t2, e2, d2, f2⟩ := plan_st (n + 1) [some (.d (.str f))] [tArgs, tCall f] d1 hl2
 refine ⟨t2, ?_, d2, f1.trans f2⟩
 show fnM 2 (m_Reader_do_term (mir (n + 2))) [.d (.o r)] t = _
 have c := t_kind (n + 1) (kd := "var") (rho := [none]) h hw (by decide +kernel)
 rw [hk, show ((Str.ofString "name") == (Str.ofString "var")) = false from by decide +kernel] at c
 exact fnM_n (M := MX) ((if_f c).trans ((seq_nx e1).trans (e2 _ rfl)))
theorem do_args_n (n : Nat) (h : Rd t r s) (hw : WOk s) (hi : s.now.is "mark" "(" = false) (hl : s.md.length < lim) : ∃ t', mir (n + 3) .Reader_do_args [.d (.o r)] t = .ok (.d .non) t' ∧ Rd t' r { s with md := .int 0 :: s.md } ∧ Fr r t t' := by
 obtain ⟨t1, e1, d1, f1⟩ := push_st (g := eC (.int 0)) (rho := []) h rfl hl
 refine ⟨t1, ?_, d1, f1⟩
 show fnM 1 (m_Reader_do_args (mir (n + 2))) [.d (.o r)] t = _
 have c := t_mark n (c := "(") (rho := []) h hw (by decide +kernel)
 rw [hi] at c
 have c2 : (tNotM (tTru dTru (eCall (mir (n + 2) .Reader_is_mark) (aMeth "Reader" "is_mark" (eVar 0) (aCons (escf (eC (.str "("))) aNil)))) : Sm MX Bool) ⟨[some (.d (.o r))], t⟩ = .ok true ⟨[some (.d (.o r))], t⟩ := by
  unfold tNotM; rw [c]; rfl
 have e2 := (if_t (g := sNil) (f := (sSeq (sExpr (eAppO (eFld ["Reader"] "made" (eVar 0)) (eC (.int 0)))) (fun z => .ok (.rt (.d .non)) z))) c2).trans (seq_nx e1)
 exact fnM_d (M := MX) (seq_rt e2)
theorem do_args_y (n : Nat) (h : Rd t r s) (hw : WOk s) (hi : s.now.is "mark" "(" = true) (hl : s.td.length + 2 ≤ lim) : ∃ t', mir (n + 3) .Reader_do_args [.d (.o r)] t = .ok (.d .non) t' ∧ Rd t' r { s with a := s.a + 1, td := tTerm :: tMore 1 :: s.td } ∧ Fr r t t' := by
 obtain ⟨t1, e1, d1, f1⟩ := next_stmt (rho := []) h
 obtain ⟨t2, e2, d2, f2⟩ := plan_st (n + 1) [] [tTerm, tMore 1] d1 hl
 refine ⟨t2, ?_, d2, f1.trans f2⟩
 show fnM 1 (m_Reader_do_args (mir (n + 2))) [.d (.o r)] t = _
 have c := t_mark n (c := "(") (rho := []) h hw (by decide +kernel)
 rw [hi] at c
 have c2 : (tNotM (tTru dTru (eCall (mir (n + 2) .Reader_is_mark) (aMeth "Reader" "is_mark" (eVar 0) (aCons (escf (eC (.str "("))) aNil)))) : Sm MX Bool) ⟨[some (.d (.o r))], t⟩ = .ok false ⟨[some (.d (.o r))], t⟩ := by
  unfold tNotM; rw [c]; rfl
 exact fnM_n (M := MX) ((seq_nx (if_f c2)).trans ((seq_nx e1).trans (e2 _ rfl)))
theorem do_more_y (n : Nat) {c : Nat} (h : Rd t r s) (hw : WOk s) (hi : s.now.is "mark" "," = true) (hl : s.td.length + 2 ≤ lim) : ∃ t', mir (n + 3) .Reader_do_more [.d (.o r), .d (.int (c : Nat))] t = .ok (.d .non) t' ∧ Rd t' r { s with a := s.a + 1, td := tTerm :: tMore ((c + 1 : Nat) : Int) :: s.td } ∧ Fr r t t' := by
 obtain ⟨t1, e1, d1, f1⟩ := next_stmt (rho := [some (.d (.int (c : Nat)))]) h
 obtain ⟨t2, e2, d2, f2⟩ := plan_st (n + 1) [some (.d (.int (c : Nat)))] [tTerm, tMore ((c + 1 : Nat) : Int)] d1 hl
 refine ⟨t2, ?_, d2, f1.trans f2⟩
 show fnM 2 (m_Reader_do_more (mir (n + 2))) [.d (.o r), .d (.int (c : Nat))] t = _
 have q := t_mark n (c := ",") (rho := [some (.d (.int (c : Nat)))]) h hw (by decide +kernel)
 rw [hi] at q
 exact fnM_n (M := MX) ((if_t q).trans ((seq_nx e1).trans (e2 _ rfl)))
theorem do_more_n (n : Nat) {c : Nat} (h : Rd t r s) (hw : WOk s) (hi : s.now.is "mark" ")" = true) (hl : s.md.length < lim) : ∃ t', mir (n + 3) .Reader_do_more [.d (.o r), .d (.int (c : Nat))] t = .ok (.d .non) t' ∧ Rd t' r { s with a := s.a + 1, md := .int (c : Nat) :: s.md } ∧ Fr r t t' := by
 obtain ⟨t1, e1, d1, f1⟩ := word_st n (rho := [some (.d (.int (c : Nat)))]) h hw (by decide +kernel) (by decide +kernel) hi
 obtain ⟨t2, e2, d2, f2⟩ := push_st (g := eVar 1) (rho := [some (.d (.int (c : Nat)))]) d1 rfl hl
 refine ⟨t2, ?_, d2, f1.trans f2⟩
 show fnM 2 (m_Reader_do_more (mir (n + 2))) [.d (.o r), .d (.int (c : Nat))] t = _
 have q := t_mark n (c := ",") (rho := [some (.d (.int (c : Nat)))]) h hw (by decide +kernel)
 have hn : s.now.is "mark" "," = false := by
  unfold Wd.is at hi ⊢
  rw [Bool.and_eq_true] at hi
  obtain ⟨a1, a2⟩ := hi
  obtain ⟨b1, b2⟩ := now_flt hw
  rcases b2 with ⟨m, e⟩ | ⟨x, e, _⟩
  ·rw [e] at a2; cases a2
  ·rw [e] at a2 ⊢
   have : x = Str.ofString ")" := eq_of_beq a2
   rw [this, Bool.and_eq_false_iff]
   exact .inr (by decide +kernel)
 rw [hn] at q
 exact fnM_n (M := MX) ((if_f q).trans ((seq_nx e1).trans e2))
theorem do_call_ok (n : Nat) {f : Str} {ts : List Th} {md : List D} (h : Rd t r s) (hm : s.md = .int (ts.length : Nat) :: ((ts.map itm).reverse ++ md)) (hl : s.md.length < lim) : ∃ t', mir (n + 3) .Reader_do_call [.d (.o r), .d (.str f)] t = .ok (.d .non) t' ∧ Rd t' r { s with md := itm (.call f ts) :: md } ∧ Fr r t t' := by
 obtain ⟨t1, e1, d1, f1⟩ := pop_made (rho := [some (.d (.str f))]) h hm
 have hl2 : ((ts.map itm).reverse ++ md).length < lim := by
  have := congrArg List.length hm
  rw [List.length_cons] at this
  omega
 obtain ⟨t2, e2, d2, f2⟩ := make_call_ok n (wd := "call") (nm := f) (ts := ts) (md := md) d1 rfl hl2
 rw [itm_call] at d2
 refine ⟨t2, ?_, d2, f1.trans f2⟩
 show fnM 2 (m_Reader_do_call (mir (n + 2))) [.d (.o r), .d (.str f)] t = _
 exact fnM_n (M := MX) (ex_ok (rc3 (rho1 := [some (.d (.o r)), some (.d (.str f))]) (t1 := t) (rho2 := [some (.d (.o r)), some (.d (.str f))]) (t2 := t) (rho3 := [some (.d (.o r)), some (.d (.str f))]) (t3 := t1) h (by kernel_rfl) rfl rfl (by unfold escf; rw [e1]; rfl) e2))
theorem do_rel_r (n : Nat) {f : Str} {ts : List Th} {md : List D} (h : Rd t r s) (hw : WOk s) (hm : s.md = .int (ts.length : Nat) :: ((ts.map itm).reverse ++ md)) (hl : s.md.length < lim) (hi : s.now.is "mark" "=" = false) : ∃ t', mir (n + 4) .Reader_do_rel [.d (.o r), .d (.str f)] t = .ok (.d .non) t' ∧ Rd t' r { s with md := itm (.rel f ts) :: md } ∧ Fr r t t' := by
 obtain ⟨t1, e1, d1, f1⟩ := pop_made (rho := [some (.d (.str f)), none]) h hm
 have hl2 : ((ts.map itm).reverse ++ md).length < lim := by
  have := congrArg List.length hm
  rw [List.length_cons] at this
  omega
 obtain ⟨t2, e2, d2, f2⟩ := make_call_ok (n + 1) (wd := "rel") (nm := f) (ts := ts) (md := md) d1 rfl hl2
 rw [itm_rel] at d2
 refine ⟨t2, ?_, d2, f1.trans f2⟩
 show fnM 3 (m_Reader_do_rel (mir (n + 3))) [.d (.o r), .d (.str f)] t = _
 have q := t_mark (n + 1) (c := "=") (rho := [some (.d (.str f)), some (.d (.int (ts.length : Nat)))]) d1 ⟨hw.n, hw.f⟩ (by decide +kernel)
 rw [show RS.now { s with md := (ts.map itm).reverse ++ md } = s.now from rfl, hi] at q
 exact fnM_n (M := MX) ((seq_nx (set_d e1)).trans ((if_f q).trans (ex_ok (rc3 (rho1 := [some (.d (.o r)), some (.d (.str f)), some (.d (.int (ts.length : Nat)))]) (t1 := t1) (rho2 := [some (.d (.o r)), some (.d (.str f)), some (.d (.int (ts.length : Nat)))]) (t2 := t1) (rho3 := [some (.d (.o r)), some (.d (.str f)), some (.d (.int (ts.length : Nat)))]) (t3 := t1) d1 (by kernel_rfl) rfl rfl rfl e2))))
theorem do_rel_s (n : Nat) {f : Str} {ts : List Th} {md : List D} (h : Rd t r s) (hw : WOk s) (hm : s.md = .int (ts.length : Nat) :: ((ts.map itm).reverse ++ md)) (hl : s.md.length < lim) (hi : s.now.is "mark" "=" = true) (hl3 : s.td.length + 2 ≤ lim) : ∃ t', mir (n + 4) .Reader_do_rel [.d (.o r), .d (.str f)] t = .ok (.d .non) t' ∧ Rd t' r { s with a := s.a + 1, td := tTerm :: tMake "same" :: s.td, md := itm (.call f ts) :: md } ∧ Fr r t t' := by
 obtain ⟨t1, e1, d1, f1⟩ := pop_made (rho := [some (.d (.str f)), none]) h hm
 have hl2 : ((ts.map itm).reverse ++ md).length < lim := by
  have := congrArg List.length hm
  rw [List.length_cons] at this
  omega
 obtain ⟨t2, e2, d2, f2⟩ := make_call_ok (n + 1) (wd := "call") (nm := f) (ts := ts) (md := md) d1 rfl hl2
 rw [itm_call] at d2
 obtain ⟨t3, e3, d3, f3⟩ := do_same_ok n d2 ⟨hw.n, hw.f⟩ hi hl3
 refine ⟨t3, ?_, d3, f1.trans (f2.trans f3)⟩
 show fnM 3 (m_Reader_do_rel (mir (n + 3))) [.d (.o r), .d (.str f)] t = _
 have q := t_mark (n + 1) (c := "=") (rho := [some (.d (.str f)), some (.d (.int (ts.length : Nat)))]) d1 ⟨hw.n, hw.f⟩ (by decide +kernel)
 rw [show RS.now { s with md := (ts.map itm).reverse ++ md } = s.now from rfl, hi] at q
 exact fnM_n (M := MX) ((seq_nx (set_d e1)).trans ((if_t q).trans ((seq_nx (ex_ok (rc3 (rho1 := [some (.d (.o r)), some (.d (.str f)), some (.d (.int (ts.length : Nat)))]) (t1 := t1) (rho2 := [some (.d (.o r)), some (.d (.str f)), some (.d (.int (ts.length : Nat)))]) (t2 := t1) (rho3 := [some (.d (.o r)), some (.d (.str f)), some (.d (.int (ts.length : Nat)))]) (t3 := t1) d1 (by kernel_rfl) rfl rfl rfl e2))).trans (ex_ok (rc0 d2 (by kernel_rfl) e3)))))
end
section
variable {r : Nat} {s : RS} {t : List MO} {rho : List (Option S)}
theorem now_2 {s : RS} {k : Str} {v : D} (hk : s.now.k = k) (hv : s.now.v = v) : dSl s.now.d none (some 2) = some (.t [.str k, v]) := by
 rw [Wd.d, sl2, hk, hv]
theorem do_bound_ok (n : Nat) {wd f : Str} (h : Rd t r s) (hw : WOk s) (h1 : s.now.k = "var" ∧ s.now.v = .int s.many) (h2 : RS.now { s with a := s.a + 1 } |>.is "mark" ":") (h3 : (RS.now { s with a := s.a + 1 + 1 }).k = "name" ∧ (RS.now { s with a := s.a + 1 + 1 }).v = .str f) (h3l : s.a + 1 + 1 < s.w.length)
  (h4 : RS.now { s with a := s.a + 1 + 1 + 1 } |>.is "mark" ".") (hl : s.td.length + 2 ≤ lim) : ∃ t', mir (n + 3) .Reader_do_bound [.d (.o r), .d (.str wd)] t = .ok (.d .non) t' ∧ Rd t' r { s with a := s.a + 4, many := s.many + 1, td := tStat :: tBound wd f :: s.td } ∧ Fr r t t' := by
 obtain ⟨q1, q2⟩ := now_flt hw
 obtain ⟨k0, j0, g1, _⟩ := id h
 have c1 : (tOf (eBin dNe (eSl dSl (eCall (mir (n + 2) .Reader_now) (aMeth "Reader" "now" (eVar 0) aNil)) (fun z => .ok none z) (oInt (eC (.int 2)))) (eTup (aCons (escf (eC (.str "var"))) (aCons (escf (eFld ["Reader"] "many" (eVar 0))) aNil)))) : Sm MX Bool) ⟨[some (.d (.o r)), some (.d (.str wd)), none], t⟩ = .ok false ⟨[some (.d (.o r)), some (.d (.str wd)), none], t⟩ := by
  walk_at "ex"
  rw [now_call (n + 1) h]
  walk_at "ex"
  rw [now_2 h1.1 h1.2]
  walk_at "ex"
  rw [fy g1]
  walk_at "ex"
  rw [dNe_2 (by decide +kernel) (by decide +kernel) (.inl ⟨_, rfl⟩) (.inl ⟨_, rfl⟩)]
  have : eqF (.int s.many) (.int s.many) = true := by simp [eqF]
  rw [this, beq_self_eq_true]
  walk_at "ex"
 obtain ⟨t1, e1, d1, f1⟩ := next_stmt (rho := [some (.d (.str wd)), none]) h
 obtain ⟨t2, e2, d2, f2⟩ := word_st n (rho := [some (.d (.str wd)), none]) (kd := "mark") (c := ":") d1 ⟨hw.n, hw.f⟩ (by decide +kernel) (by decide +kernel) h2
 obtain ⟨t3, e3, d3, f3⟩ := kind_st n (i := 2) (rho := [some (.d (.str wd)), none]) (kd := "name") d2 ⟨hw.n, hw.f⟩ (by decide +kernel) h3.1 h3l
 have e3' : sSet 2 (eCall (mir (n + 2) .Reader_need_kind) (aMeth "Reader" "need_kind" (eVar 0) (aCons (escf (eC (.str "name"))) aNil))) ⟨[some (.d (.o r)), some (.d (.str wd)), none], t2⟩ = .ok .nx ⟨[some (.d (.o r)), some (.d (.str wd)), some (.d (.str f))], t3⟩ := by
  rw [← h3.2]; exact e3
 obtain ⟨t4, e4, d4, f4⟩ := word_st n (rho := [some (.d (.str wd)), some (.d (.str f))]) (kd := "mark") (c := ".") d3 ⟨hw.n, hw.f⟩ (by decide +kernel) (by decide +kernel) h4
 obtain ⟨k5, j5, g5, d5⟩ := d4.many_ (s.many + 1)
 have e5 : escf (M := MX) (eBin dAdd (eFld ["Reader"] "many" (eVar 0)) (eC (.int 1))) ⟨[some (.d (.o r)), some (.d (.str wd)), some (.d (.str f))], t4⟩ = .ok (.d (.int (s.many + 1))) ⟨[some (.d (.o r)), some (.d (.str wd)), some (.d (.str f))], t4⟩ := by
  walk_at "ex"
  rw [fy g5]
  walk_at "ex"
 obtain ⟨t6, e6, d6, f6⟩ := plan_st (n + 1) [some (.d (.str wd)), some (.d (.str f))] [tStat, tBound wd f] d5 hl
 refine ⟨t6, ?_, d6, f1.trans (f2.trans (f3.trans (f4.trans ((Fr.set (Nat.le_refl _)).trans f6))))⟩
 show fnM 3 (m_Reader_do_bound (mir (n + 2))) [.d (.o r), .d (.str wd)] t = _
 exact fnM_n (M := MX) ((seq_nx (if_f c1)).trans ((seq_nx e1).trans ((seq_nx e2).trans ((seq_nx e3').trans ((seq_nx e4).trans ((seq_nx (sf_many e5 g5)).trans (e6 _ rfl)))))))
noncomputable def sgn (i : Nat) : Str := match i with
 | 0 => "->"
 | 1 => "|"
 | _ => "&"
noncomputable def knd (i : Nat) : Str := match i with
 | 0 => "if"
 | 1 => "or"
 | _ => "and"
theorem sgn_ok (i : Nat) : PyData.strOk (sgn i) = true := by
 unfold sgn; split <;> decide +kernel
theorem ix_sgn {i : Nat} (h : i < 3) : dIx c_SIGNS (.int (i : Nat)) = some (.d (.str (sgn i))) := by
 match i, h with
 | 0, _ => kernel_rfl
 | 1, _ => kernel_rfl
 | 2, _ => kernel_rfl
theorem ix_knd {i : Nat} (h : i < 3) : dIx c_KINDS (.int (i : Nat)) = some (.d (.str (knd i))) := by
 match i, h with
 | 0, _ => kernel_rfl
 | 1, _ => kernel_rfl
 | 2, _ => kernel_rfl
theorem t_rest (n : Nat) {i : Nat} (h : Rd t r s) (hw : WOk s) (hi : i < 3) : tTru (M := MX) dTru (eCall (mir (n + 2) .Reader_is_mark) (aMeth "Reader" "is_mark" (eVar 0) (aCons (escf (eBin dIx (eC c_SIGNS) (eVar 1))) aNil))) ⟨[some (.d (.o r)), some (.d (.int (i : Nat)))], t⟩ = .ok (s.now.is "mark" (sgn i)) ⟨[some (.d (.o r)), some (.d (.int (i : Nat)))], t⟩ := by
 have hf : escf (M := MX) (eBin dIx (eC c_SIGNS) (eVar 1)) ⟨[some (.d (.o r)), some (.d (.int (i : Nat)))], t⟩ = .ok (.d (.str (sgn i))) ⟨[some (.d (.o r)), some (.d (.int (i : Nat)))], t⟩ := by
  walk_at "ex"
  rw [ix_sgn hi]
  walk_at "ex"
 have := rc1 (nm := "is_mark") (rho1 := [some (.d (.o r)), some (.d (.int (i : Nat)))]) h (by kernel_rfl) hf (is_mark_ok n h hw (sgn_ok i))
 walk_at "ex"
 rw [show eCall (M := MX) _ _ _ = _ from this]
 rfl
theorem do_rest_n (n : Nat) {i : Nat} (h : Rd t r s) (hw : WOk s) (hi : i < 3) (hm : s.now.is "mark" (sgn i) = false) : mir (n + 3) .Reader_do_rest [.d (.o r), .d (.int (i : Nat))] t = .ok (.d .non) t := by
 show fnM 2 (m_Reader_do_rest (mir (n + 2))) [.d (.o r), .d (.int (i : Nat))] t = _
 have c := t_rest n h hw hi
 rw [hm] at c
 have c2 : (tNotM (tTru dTru (eCall (mir (n + 2) .Reader_is_mark) (aMeth "Reader" "is_mark" (eVar 0) (aCons (escf (eBin dIx (eC c_SIGNS) (eVar 1))) aNil)))) : Sm MX Bool) ⟨[some (.d (.o r)), some (.d (.int (i : Nat)))], t⟩ = .ok true ⟨[some (.d (.o r)), some (.d (.int (i : Nat)))], t⟩ := by
  unfold tNotM; rw [c]; rfl
 exact fnM_d (M := MX) (seq_rt (if_t c2))
theorem do_rest_0 (n : Nat) (h : Rd t r s) (hw : WOk s) (hm : s.now.is "mark" "->" = true) (hl : s.td.length + 2 ≤ lim) : ∃ t', mir (n + 3) .Reader_do_rest [.d (.o r), .d (.int 0)] t = .ok (.d .non) t' ∧ Rd t' r { s with a := s.a + 1, td := tLevel 0 :: tMake "if" :: s.td } ∧ Fr r t t' := by
 have c := t_rest n (i := 0) h hw (by omega)
 rw [show s.now.is "mark" (sgn 0) = true from hm] at c
 have c2 : (tNotM (tTru dTru (eCall (mir (n + 2) .Reader_is_mark) (aMeth "Reader" "is_mark" (eVar 0) (aCons (escf (eBin dIx (eC c_SIGNS) (eVar 1))) aNil)))) : Sm MX Bool) ⟨[some (.d (.o r)), some (.d (.int ((0 : Nat) : Int)))], t⟩ = .ok false ⟨[some (.d (.o r)), some (.d (.int ((0 : Nat) : Int)))], t⟩ := by
  unfold tNotM; rw [c]; rfl
 obtain ⟨t1, e1, d1, f1⟩ := next_stmt (rho := [some (.d (.int 0))]) h
 obtain ⟨t2, e2, d2, f2⟩ := plan_st (n + 1) [some (.d (.int 0))] [tLevel 0, tMake "if"] d1 hl
 refine ⟨t2, ?_, d2, f1.trans f2⟩
 show fnM 2 (m_Reader_do_rest (mir (n + 2))) [.d (.o r), .d (.int 0)] t = _
 have c3 : (tOf (eBin dEq (eVar 1) (eC (.int 0))) : Sm MX Bool) ⟨[some (.d (.o r)), some (.d (.int 0))], t1⟩ = .ok true ⟨[some (.d (.o r)), some (.d (.int 0))], t1⟩ := rfl
 exact fnM_n (M := MX) ((seq_nx (if_f c2)).trans ((seq_nx e1).trans ((if_t c3).trans (e2 _ rfl))))
theorem do_rest_i (n : Nat) {i : Nat} (h : Rd t r s) (hw : WOk s) (hi : i < 3) (h0 : 0 < i) (hm : s.now.is "mark" (sgn i) = true) (hl : s.td.length + 3 ≤ lim) : ∃ t', mir (n + 3) .Reader_do_rest [.d (.o r), .d (.int (i : Nat))] t = .ok (.d .non) t' ∧ Rd t' r { s with a := s.a + 1, td := tLevel ((i + 1 : Nat) : Int) :: tMake (knd i) :: tRest (i : Nat) :: s.td } ∧ Fr r t t' := by
 have c := t_rest n (i := i) h hw hi
 rw [hm] at c
 have c2 : (tNotM (tTru dTru (eCall (mir (n + 2) .Reader_is_mark) (aMeth "Reader" "is_mark" (eVar 0) (aCons (escf (eBin dIx (eC c_SIGNS) (eVar 1))) aNil)))) : Sm MX Bool) ⟨[some (.d (.o r)), some (.d (.int (i : Nat)))], t⟩ = .ok false ⟨[some (.d (.o r)), some (.d (.int (i : Nat)))], t⟩ := by
  unfold tNotM; rw [c]; rfl
 obtain ⟨t1, e1, d1, f1⟩ := next_stmt (rho := [some (.d (.int (i : Nat)))]) h
 obtain ⟨t2, e2, d2, f2⟩ := plan_st (n + 1) [some (.d (.int (i : Nat)))] [tLevel ((i + 1 : Nat) : Int), tMake (knd i), tRest (i : Nat)] d1 hl
 refine ⟨t2, ?_, d2, f1.trans f2⟩
 show fnM 2 (m_Reader_do_rest (mir (n + 2))) [.d (.o r), .d (.int (i : Nat))] t = _
 have c3 : (tOf (eBin dEq (eVar 1) (eC (.int 0))) : Sm MX Bool) ⟨[some (.d (.o r)), some (.d (.int (i : Nat)))], t1⟩ = .ok false ⟨[some (.d (.o r)), some (.d (.int (i : Nat)))], t1⟩ := by
  walk_at "ex"
  have : ¬ ((i : Nat) : Int) = 0 := by omega
  simp only [this]
  walk_at "ex"
 refine fnM_n (M := MX) ((seq_nx (if_f c2)).trans ((seq_nx e1).trans ((if_f c3).trans (e2 _ ?_))))
 walk_at "ex"
 rw [ix_knd hi]
 walk_at "ex"
 rfl
end
theorem is_not {x : Wd} {k c c' : Str} (h : x.is k c = true) (n : (c == c') = false) : x.is k c' = false := by
 unfold Wd.is at h ⊢
 rw [Bool.and_eq_true] at h
 obtain ⟨a, b⟩ := h
 rw [Bool.and_eq_false_iff]
 right
 cases e : x.v with
 | str y =>
  rw [e] at b
  have : y = c := eq_of_beq b
  rw [this]
  exact n
 | _ => rfl
theorem is_k {x : Wd} {k k' c : Str} (h : x.k = k) (n : (k == k') = false) : x.is k' c = false := by
 unfold Wd.is
 rw [h, n]; rfl
section
variable {r : Nat} {s : RS} {t : List MO} {rho : List (Option S)}
theorem do_not_not (n : Nat) (h : Rd t r s) (hw : WOk s) (hi : s.now.is "mark" "~" = true) (hl : s.td.length + 2 ≤ lim) : ∃ t', mir (n + 4) .Reader_do_not [.d (.o r)] t = .ok (.d .non) t' ∧ Rd t' r { s with a := s.a + 1, td := tLevel 3 :: tNot :: s.td } ∧ Fr r t t' := by
 obtain ⟨t1, e1, d1, f1⟩ := next_stmt (rho := [none]) h
 obtain ⟨t2, e2, d2, f2⟩ := plan_st (n + 2) [none] [tLevel 3, tNot] d1 hl
 refine ⟨t2, ?_, d2, f1.trans f2⟩
 show fnM 2 (m_Reader_do_not (mir (n + 3))) [.d (.o r)] t = _
 have c := t_mark (n + 1) (c := "~") (rho := [none]) h hw (by decide +kernel)
 rw [hi] at c
 exact fnM_n (M := MX) ((if_t c).trans ((seq_nx e1).trans (e2 _ rfl)))
theorem do_not_br (n : Nat) (h : Rd t r s) (hw : WOk s) (hi : s.now.is "mark" "(" = true) (hl : s.td.length + 2 ≤ lim) : ∃ t', mir (n + 4) .Reader_do_not [.d (.o r)] t = .ok (.d .non) t' ∧ Rd t' r { s with a := s.a + 1, td := tStat :: tTake ")" :: s.td } ∧ Fr r t t' := by
 obtain ⟨t1, e1, d1, f1⟩ := next_stmt (rho := [none]) h
 obtain ⟨t2, e2, d2, f2⟩ := plan_st (n + 2) [none] [tStat, tTake ")"] d1 hl
 refine ⟨t2, ?_, d2, f1.trans f2⟩
 show fnM 2 (m_Reader_do_not (mir (n + 3))) [.d (.o r)] t = _
 have c := t_mark (n + 1) (c := "~") (rho := [none]) h hw (by decide +kernel)
 rw [is_not hi (by decide +kernel)] at c
 have c' := t_mark (n + 1) (c := "(") (rho := [none]) h hw (by decide +kernel)
 rw [hi] at c'
 exact fnM_n (M := MX) ((if_f c).trans ((if_t c').trans ((seq_nx e1).trans (e2 _ rfl))))
theorem do_not_no (n : Nat) (h : Rd t r s) (hw : WOk s) (hi : s.now.is "told" "no" = true) (hk : s.now.k = "told") (hl : s.md.length < lim) : ∃ t', mir (n + 4) .Reader_do_not [.d (.o r)] t = .ok (.d .non) t' ∧ Rd t' r { s with a := s.a + 1, md := itm .no :: s.md } ∧ Fr r t t' := by
 obtain ⟨t1, e1, d1, f1⟩ := next_stmt (rho := [none]) h
 have a1 : escf (M := MX) (eTup (aCons (escf (eTup (aCons (escf (eC (.str "no"))) aNil))) (aCons (escf (eC (.int 1))) (aCons (escf (eC (.int 1))) aNil)))) ⟨[some (.d (.o r)), none], t1⟩ = .ok (.d (itm .no)) ⟨[some (.d (.o r)), none], t1⟩ := by
  rw [← itm_no]; rfl
 obtain ⟨t2, e2, d2, f2⟩ := push_st (rho := [none]) d1 a1 hl
 refine ⟨t2, ?_, d2, f1.trans f2⟩
 show fnM 2 (m_Reader_do_not (mir (n + 3))) [.d (.o r)] t = _
 have c := t_mark (n + 1) (c := "~") (rho := [none]) h hw (by decide +kernel)
 rw [is_k hk (by decide +kernel)] at c
 have c' := t_mark (n + 1) (c := "(") (rho := [none]) h hw (by decide +kernel)
 rw [is_k hk (by decide +kernel)] at c'
 have c2 := t_told (n + 1) (c := "no") (rho := [none]) h hw (by decide +kernel)
 rw [hi] at c2
 exact fnM_n (M := MX) ((if_f c).trans ((if_f c').trans ((if_t c2).trans ((seq_nx e1).trans e2))))
theorem do_not_v (n : Nat) {k : Int} (h : Rd t r s) (hw : WOk s) (hk : s.now.k = "var") (hv : s.now.v = .int k) (hm : k < s.many) (hl : s.a < s.w.length) (hm2 : s.md.length < lim) (hi : RS.now { s with a := s.a + 1 } |>.is "mark" "=") (hl3 : s.td.length + 2 ≤ lim) : ∃ t', mir (n + 4) .Reader_do_not [.d (.o r)] t = .ok (.d .non) t' ∧ Rd t' r { s with a := s.a + 2, td := tTerm :: tMake "same" :: s.td, md := itm (.var (s.many - 1 - k)) :: s.md } ∧ Fr r t t' := by
 obtain ⟨t1, e1, d1, f1⟩ := do_variable_ok (n + 1) h hw hk hv hm hl hm2
 obtain ⟨t2, e2, d2, f2⟩ := do_same_ok n d1 ⟨hw.n, hw.f⟩ hi hl3
 refine ⟨t2, ?_, d2, f1.trans f2⟩
 show fnM 2 (m_Reader_do_not (mir (n + 3))) [.d (.o r)] t = _
 have c := t_mark (n + 1) (c := "~") (rho := [none]) h hw (by decide +kernel)
 rw [is_k hk (by decide +kernel)] at c
 have c' := t_mark (n + 1) (c := "(") (rho := [none]) h hw (by decide +kernel)
 rw [is_k hk (by decide +kernel)] at c'
 have c2 := t_told (n + 1) (c := "no") (rho := [none]) h hw (by decide +kernel)
 rw [is_k hk (by decide +kernel)] at c2
 have c3 := t_kind (n + 2) (kd := "var") (rho := [none]) h hw (by decide +kernel)
 rw [hk, beq_self_eq_true] at c3
 exact fnM_n (M := MX) ((if_f c).trans ((if_f c').trans ((if_f c2).trans ((if_t c3).trans ((seq_nx (ex_ok (rc0 h (by kernel_rfl) e1))).trans (ex_ok (rc0 d1 (by kernel_rfl) e2)))))))
theorem do_not_n (n : Nat) {f : Str} (h : Rd t r s) (hw : WOk s) (hk : s.now.k = "name") (hv : s.now.v = .str f) (hl : s.a < s.w.length) (hl2 : s.td.length + 2 ≤ lim) : ∃ t', mir (n + 4) .Reader_do_not [.d (.o r)] t = .ok (.d .non) t' ∧ Rd t' r { s with a := s.a + 1, td := tArgs :: tRel f :: s.td } ∧ Fr r t t' := by
 obtain ⟨t1, e1, d1, f1⟩ := kind_st (n + 1) (i := 1) (rho := [none]) (kd := "name") h hw (by decide +kernel) hk hl
 rw [hv] at e1
 obtain ⟨t2, e2, d2, f2⟩ := plan_st (n + 2) [some (.d (.str f))] [tArgs, tRel f] d1 hl2
 refine ⟨t2, ?_, d2, f1.trans f2⟩
 show fnM 2 (m_Reader_do_not (mir (n + 3))) [.d (.o r)] t = _
 have c := t_mark (n + 1) (c := "~") (rho := [none]) h hw (by decide +kernel)
 rw [is_k hk (by decide +kernel)] at c
 have c' := t_mark (n + 1) (c := "(") (rho := [none]) h hw (by decide +kernel)
 rw [is_k hk (by decide +kernel)] at c'
 have c2 := t_told (n + 1) (c := "no") (rho := [none]) h hw (by decide +kernel)
 rw [is_k hk (by decide +kernel)] at c2
 have c3 := t_kind (n + 2) (kd := "var") (rho := [none]) h hw (by decide +kernel)
 rw [hk, show ((Str.ofString "name") == (Str.ofString "var")) = false from by decide +kernel] at c3
 exact fnM_n (M := MX) ((if_f c).trans ((if_f c').trans ((if_f c2).trans ((if_f c3).trans ((seq_nx e1).trans (e2 _ rfl))))))
theorem do_level_i (n : Nat) {i : Nat} (h : Rd t r s) (hi : i < 3) (hl : s.td.length + 2 ≤ lim) : ∃ t', mir (n + 5) .Reader_do_level [.d (.o r), .d (.int (i : Nat))] t = .ok (.d .non) t' ∧ Rd t' r { s with td := tLevel ((i + 1 : Nat) : Int) :: tRest (i : Nat) :: s.td } ∧ Fr r t t' := by
 obtain ⟨t2, e2, d2, f2⟩ := plan_st (n + 3) [some (.d (.int (i : Nat)))] [tLevel ((i + 1 : Nat) : Int), tRest (i : Nat)] h hl
 refine ⟨t2, ?_, d2, f2⟩
 show fnM 2 (m_Reader_do_level (mir (n + 4))) [.d (.o r), .d (.int (i : Nat))] t = _
 have c3 : (tOf (eBin dEq (eVar 1) (eC c_NOT_LEVEL)) : Sm MX Bool) ⟨[some (.d (.o r)), some (.d (.int (i : Nat)))], t⟩ = .ok false ⟨[some (.d (.o r)), some (.d (.int (i : Nat)))], t⟩ := by
  have : ¬ ((i : Nat) : Int) = 3 := by omega
  unfold c_NOT_LEVEL
  walk_at "ex"
  simp only [this]
  walk_at "ex"
 exact fnM_n (M := MX) ((if_f c3).trans (e2 _ rfl))
theorem do_level_3 (n : Nat) {s' : RS} (h : Rd t r s) (e : ∃ t', mir (n + 4) .Reader_do_not [.d (.o r)] t = .ok (.d .non) t' ∧ Rd t' r s' ∧ Fr r t t') : ∃ t', mir (n + 5) .Reader_do_level [.d (.o r), .d (.int 3)] t = .ok (.d .non) t' ∧ Rd t' r s' ∧ Fr r t t' := by
 obtain ⟨t', e1, d1, f1⟩ := e
 refine ⟨t', ?_, d1, f1⟩
 show fnM 2 (m_Reader_do_level (mir (n + 4))) [.d (.o r), .d (.int 3)] t = _
 have c3 : (tOf (eBin dEq (eVar 1) (eC c_NOT_LEVEL)) : Sm MX Bool) ⟨[some (.d (.o r)), some (.d (.int 3))], t⟩ = .ok true ⟨[some (.d (.o r)), some (.d (.int 3))], t⟩ := rfl
 exact fnM_n (M := MX) ((if_t c3).trans (ex_ok (rc0 h (by kernel_rfl) e1)))
theorem do_stat_l (n : Nat) (h : Rd t r s) (hw : WOk s) (h1 : s.now.is "told" "all" = false) (h2 : s.now.is "told" "some" = false) (hl : s.td.length + 2 ≤ lim) : ∃ t', mir (n + 6) .Reader_do_statement [.d (.o r)] t = .ok (.d .non) t' ∧ Rd t' r { s with td := tLevel 1 :: tRest 0 :: s.td } ∧ Fr r t t' := by
 obtain ⟨t', e1, d1, f1⟩ := do_level_i n (i := 0) h (by omega) hl
 refine ⟨t', ?_, d1, f1⟩
 show fnM 1 (m_Reader_do_statement (mir (n + 5))) [.d (.o r)] t = _
 have c := t_told (n + 3) (c := "all") (rho := []) h hw (by decide +kernel)
 have c' := t_told (n + 3) (c := "some") (rho := []) h hw (by decide +kernel)
 rw [h1] at c
 rw [h2] at c'
 have c2 : (tOrM (tTru dTru (eCall (mir (n + 5) .Reader_is_told) (aMeth "Reader" "is_told" (eVar 0) (aCons (escf (eC (.str "all"))) aNil)))) (tTru dTru (eCall (mir (n + 5) .Reader_is_told) (aMeth "Reader" "is_told" (eVar 0) (aCons (escf (eC (.str "some"))) aNil)))) : Sm MX Bool) ⟨[some (.d (.o r))], t⟩ = .ok false ⟨[some (.d (.o r))], t⟩ := by
  unfold tOrM
  rw [c, Rs.bind_ok]
  exact c'
 exact fnM_n (M := MX) ((if_f c2).trans (ex_ok (rc1 (rho1 := [some (.d (.o r))]) h (by kernel_rfl) rfl e1)))
theorem do_stat_b (n : Nat) {wd f : Str} (h : Rd t r s) (hw : WOk s) (hb : wd = "all" ∨ wd = "some") (h0 : s.now.k = "told" ∧ s.now.v = .str wd) (h0l : s.a < s.w.length) (h1 : (RS.now { s with a := s.a + 1 }).k = "var" ∧ (RS.now { s with a := s.a + 1 }).v = .int s.many) (h2 : RS.now { s with a := s.a + 2 } |>.is "mark" ":") (h3 : (RS.now { s with a := s.a + 3 }).k = "name" ∧ (RS.now { s with a := s.a + 3 }).v = .str f) (h3l : s.a + 3 < s.w.length)
  (h4 : RS.now { s with a := s.a + 4 } |>.is "mark" ".") (hl : s.td.length + 2 ≤ lim) : ∃ t', mir (n + 6) .Reader_do_statement [.d (.o r)] t = .ok (.d .non) t' ∧ Rd t' r { s with a := s.a + 5, many := s.many + 1, td := tStat :: tBound wd f :: s.td } ∧ Fr r t t' := by
 obtain ⟨t1, e1, d1, f1⟩ := go_on_ok (n + 4) h h0l
 obtain ⟨t2, e2, d2, f2⟩ := do_bound_ok (n + 2) (wd := wd) (f := f) d1 ⟨hw.n, hw.f⟩ h1 h2 h3 h3l h4 hl
 refine ⟨t2, ?_, d2, f1.trans f2⟩
 show fnM 1 (m_Reader_do_statement (mir (n + 5))) [.d (.o r)] t = _
 have c := t_told (n + 3) (c := "all") (rho := []) h hw (by decide +kernel)
 have c' := t_told (n + 3) (c := "some") (rho := []) h hw (by decide +kernel)
 have c2 : (tOrM (tTru dTru (eCall (mir (n + 5) .Reader_is_told) (aMeth "Reader" "is_told" (eVar 0) (aCons (escf (eC (.str "all"))) aNil)))) (tTru dTru (eCall (mir (n + 5) .Reader_is_told) (aMeth "Reader" "is_told" (eVar 0) (aCons (escf (eC (.str "some"))) aNil)))) : Sm MX Bool) ⟨[some (.d (.o r))], t⟩ = .ok true ⟨[some (.d (.o r))], t⟩ := by
  unfold tOrM
  rw [c, Rs.bind_ok]
  rcases hb with rfl | rfl
  ·rw [show s.now.is "told" "all" = true from by unfold Wd.is; rw [h0.1, h0.2]; decide +kernel]; rfl
  ·rw [show s.now.is "told" "all" = false from by unfold Wd.is; rw [h0.1, h0.2]; decide +kernel]
   rw [show s.now.is "told" "some" = true from by unfold Wd.is; rw [h0.1, h0.2]; decide +kernel] at c'
   exact c'
 have e1' : escf (M := MX) (eCall (mir (n + 5) .Reader_go_on) (aMeth "Reader" "go_on" (eVar 0) aNil)) ⟨[some (.d (.o r))], t⟩ = .ok (.d (.str wd)) ⟨[some (.d (.o r))], t1⟩ := by
  unfold escf
  rw [rc0 h (by kernel_rfl) e1, ← h0.2]
  rfl
 exact fnM_n (M := MX) ((if_t c2).trans (ex_ok (rc1 (rho1 := [some (.d (.o r))]) h (by kernel_rfl) e1' e2)))
end
theorem if_F {c : Sm MX Bool} {f g : Sm MX Out} {z : Z (List MO)} (h : c z = .ok false z) : sIf c f g z = g z := if_f h
theorem if_T {c : Sm MX Bool} {f g : Sm MX Out} {z : Z (List MO)} (h : c z = .ok true z) : sIf c f g z = f z := if_t h
noncomputable def Met (r : Nat) (t : List MO) (g : Fn) (n : Nat) (as : List S) (s' : RS) : Prop := ∃ t', mir n g (.d (.o r) :: as) t = .ok (.d .non) t' ∧ Rd t' r s' ∧ Fr r t t'
section
variable {r : Nat} {s s' : RS} {t : List MO}
theorem work_term (n : Nat)  (h : Rd t r s) (q : Met r t .Reader_do_term (n + 6) [] s') : Met r t .Reader_work (n + 8) [.d tTerm] s' := by
 obtain ⟨t', e, d, fr⟩ := q
 refine ⟨t', ?_, d, fr⟩
 have e2 : mir (n + 7) .Reader_work_plain [.d (.o r), .d tTerm] t = .ok (.d .non) t' := by
  show fnM 3 (m_Reader_work_plain (mir (n + 6))) [.d (.o r), .d tTerm] t = _
  have s1 : (sSet 2 (eBin dIx (eVar 1) (eC (.int 0))) : Sm MX Out) ⟨[some (.d (.o r)), some (.d tTerm), none], t⟩ = .ok .nx ⟨[some (.d (.o r)), some (.d tTerm), some (.d (.str "term"))], t⟩ := rfl
  exact fnM_n (M := MX) ((seq_nx s1).trans ((if_T (by kernel_rfl)).trans (ex_ok (rc0 h (by kernel_rfl) e))))
 show fnM 2 (m_Reader_work (mir (n + 7))) [.d (.o r), .d tTerm] t = _
 exact fnM_n (M := MX) ((if_F (by kernel_rfl)).trans ((if_F (by kernel_rfl)).trans ((if_F (by kernel_rfl)).trans ((if_F (by kernel_rfl)).trans ((if_F (by kernel_rfl)).trans ((if_F (by kernel_rfl)).trans (ex_ok (rc1 (rho1 := [some (.d (.o r)), some (.d tTerm)]) h (by kernel_rfl) rfl e2))))))))
theorem work_args (n : Nat)  (h : Rd t r s) (q : Met r t .Reader_do_args (n + 6) [] s') : Met r t .Reader_work (n + 8) [.d tArgs] s' := by
 obtain ⟨t', e, d, fr⟩ := q
 refine ⟨t', ?_, d, fr⟩
 have e2 : mir (n + 7) .Reader_work_plain [.d (.o r), .d tArgs] t = .ok (.d .non) t' := by
  show fnM 3 (m_Reader_work_plain (mir (n + 6))) [.d (.o r), .d tArgs] t = _
  have s1 : (sSet 2 (eBin dIx (eVar 1) (eC (.int 0))) : Sm MX Out) ⟨[some (.d (.o r)), some (.d tArgs), none], t⟩ = .ok .nx ⟨[some (.d (.o r)), some (.d tArgs), some (.d (.str "args"))], t⟩ := rfl
  exact fnM_n (M := MX) ((seq_nx s1).trans ((if_F (by kernel_rfl)).trans ((if_T (by kernel_rfl)).trans (ex_ok (rc0 h (by kernel_rfl) e)))))
 show fnM 2 (m_Reader_work (mir (n + 7))) [.d (.o r), .d tArgs] t = _
 exact fnM_n (M := MX) ((if_F (by kernel_rfl)).trans ((if_F (by kernel_rfl)).trans ((if_F (by kernel_rfl)).trans ((if_F (by kernel_rfl)).trans ((if_F (by kernel_rfl)).trans ((if_F (by kernel_rfl)).trans (ex_ok (rc1 (rho1 := [some (.d (.o r)), some (.d tArgs)]) h (by kernel_rfl) rfl e2))))))))
theorem work_more (n : Nat) {c : Int} (h : Rd t r s) (q : Met r t .Reader_do_more (n + 6) [.d (.int c)] s') : Met r t .Reader_work (n + 8) [.d (tMore c)] s' := by
 obtain ⟨t', e, d, fr⟩ := q
 refine ⟨t', ?_, d, fr⟩
 have e2 : mir (n + 7) .Reader_work_plain [.d (.o r), .d (tMore c)] t = .ok (.d .non) t' := by
  show fnM 3 (m_Reader_work_plain (mir (n + 6))) [.d (.o r), .d (tMore c)] t = _
  have s1 : (sSet 2 (eBin dIx (eVar 1) (eC (.int 0))) : Sm MX Out) ⟨[some (.d (.o r)), some (.d (tMore c)), none], t⟩ = .ok .nx ⟨[some (.d (.o r)), some (.d (tMore c)), some (.d (.str "more"))], t⟩ := rfl
  exact fnM_n (M := MX) ((seq_nx s1).trans ((if_F (by kernel_rfl)).trans ((if_F (by kernel_rfl)).trans ((if_T (by kernel_rfl)).trans (ex_ok (rc1 (rho1 := [some (.d (.o r)), some (.d (tMore c)), some (.d (.str "more"))]) h (by kernel_rfl) rfl e))))))
 show fnM 2 (m_Reader_work (mir (n + 7))) [.d (.o r), .d (tMore c)] t = _
 exact fnM_n (M := MX) ((if_F (by kernel_rfl)).trans ((if_F (by kernel_rfl)).trans ((if_F (by kernel_rfl)).trans ((if_F (by kernel_rfl)).trans ((if_F (by kernel_rfl)).trans ((if_F (by kernel_rfl)).trans (ex_ok (rc1 (rho1 := [some (.d (.o r)), some (.d (tMore c))]) h (by kernel_rfl) rfl e2))))))))
theorem work_call (n : Nat) {f : Str} (h : Rd t r s) (q : Met r t .Reader_do_call (n + 6) [.d (.str f)] s') : Met r t .Reader_work (n + 8) [.d (tCall f)] s' := by
 obtain ⟨t', e, d, fr⟩ := q
 refine ⟨t', ?_, d, fr⟩
 have e2 : mir (n + 7) .Reader_work_plain [.d (.o r), .d (tCall f)] t = .ok (.d .non) t' := by
  show fnM 3 (m_Reader_work_plain (mir (n + 6))) [.d (.o r), .d (tCall f)] t = _
  have s1 : (sSet 2 (eBin dIx (eVar 1) (eC (.int 0))) : Sm MX Out) ⟨[some (.d (.o r)), some (.d (tCall f)), none], t⟩ = .ok .nx ⟨[some (.d (.o r)), some (.d (tCall f)), some (.d (.str "call"))], t⟩ := rfl
  exact fnM_n (M := MX) ((seq_nx s1).trans ((if_F (by kernel_rfl)).trans ((if_F (by kernel_rfl)).trans ((if_F (by kernel_rfl)).trans ((if_T (by kernel_rfl)).trans (ex_ok (rc1 (rho1 := [some (.d (.o r)), some (.d (tCall f)), some (.d (.str "call"))]) h (by kernel_rfl) rfl e)))))))
 show fnM 2 (m_Reader_work (mir (n + 7))) [.d (.o r), .d (tCall f)] t = _
 exact fnM_n (M := MX) ((if_F (by kernel_rfl)).trans ((if_F (by kernel_rfl)).trans ((if_F (by kernel_rfl)).trans ((if_F (by kernel_rfl)).trans ((if_F (by kernel_rfl)).trans ((if_F (by kernel_rfl)).trans (ex_ok (rc1 (rho1 := [some (.d (.o r)), some (.d (tCall f))]) h (by kernel_rfl) rfl e2))))))))
theorem work_rel (n : Nat) {f : Str} (h : Rd t r s) (q : Met r t .Reader_do_rel (n + 6) [.d (.str f)] s') : Met r t .Reader_work (n + 8) [.d (tRel f)] s' := by
 obtain ⟨t', e, d, fr⟩ := q
 refine ⟨t', ?_, d, fr⟩
 have e2 : mir (n + 7) .Reader_work_plain [.d (.o r), .d (tRel f)] t = .ok (.d .non) t' := by
  show fnM 3 (m_Reader_work_plain (mir (n + 6))) [.d (.o r), .d (tRel f)] t = _
  have s1 : (sSet 2 (eBin dIx (eVar 1) (eC (.int 0))) : Sm MX Out) ⟨[some (.d (.o r)), some (.d (tRel f)), none], t⟩ = .ok .nx ⟨[some (.d (.o r)), some (.d (tRel f)), some (.d (.str "rel"))], t⟩ := rfl
  exact fnM_n (M := MX) ((seq_nx s1).trans ((if_F (by kernel_rfl)).trans ((if_F (by kernel_rfl)).trans ((if_F (by kernel_rfl)).trans ((if_F (by kernel_rfl)).trans ((if_T (by kernel_rfl)).trans (ex_ok (rc1 (rho1 := [some (.d (.o r)), some (.d (tRel f)), some (.d (.str "rel"))]) h (by kernel_rfl) rfl e))))))))
 show fnM 2 (m_Reader_work (mir (n + 7))) [.d (.o r), .d (tRel f)] t = _
 exact fnM_n (M := MX) ((if_F (by kernel_rfl)).trans ((if_F (by kernel_rfl)).trans ((if_F (by kernel_rfl)).trans ((if_F (by kernel_rfl)).trans ((if_F (by kernel_rfl)).trans ((if_F (by kernel_rfl)).trans (ex_ok (rc1 (rho1 := [some (.d (.o r)), some (.d (tRel f))]) h (by kernel_rfl) rfl e2))))))))
theorem work_statement (n : Nat)  (h : Rd t r s) (q : Met r t .Reader_do_statement (n + 6) [] s') : Met r t .Reader_work (n + 8) [.d tStat] s' := by
 obtain ⟨t', e, d, fr⟩ := q
 refine ⟨t', ?_, d, fr⟩
 have e2 : mir (n + 7) .Reader_work_plain [.d (.o r), .d tStat] t = .ok (.d .non) t' := by
  show fnM 3 (m_Reader_work_plain (mir (n + 6))) [.d (.o r), .d tStat] t = _
  have s1 : (sSet 2 (eBin dIx (eVar 1) (eC (.int 0))) : Sm MX Out) ⟨[some (.d (.o r)), some (.d tStat), none], t⟩ = .ok .nx ⟨[some (.d (.o r)), some (.d tStat), some (.d (.str "statement"))], t⟩ := rfl
  exact fnM_n (M := MX) ((seq_nx s1).trans ((if_F (by kernel_rfl)).trans ((if_F (by kernel_rfl)).trans ((if_F (by kernel_rfl)).trans ((if_F (by kernel_rfl)).trans ((if_F (by kernel_rfl)).trans ((if_T (by kernel_rfl)).trans (ex_ok (rc0 h (by kernel_rfl) e)))))))))
 show fnM 2 (m_Reader_work (mir (n + 7))) [.d (.o r), .d tStat] t = _
 exact fnM_n (M := MX) ((if_F (by kernel_rfl)).trans ((if_F (by kernel_rfl)).trans ((if_F (by kernel_rfl)).trans ((if_F (by kernel_rfl)).trans ((if_F (by kernel_rfl)).trans ((if_F (by kernel_rfl)).trans (ex_ok (rc1 (rho1 := [some (.d (.o r)), some (.d tStat)]) h (by kernel_rfl) rfl e2))))))))
theorem work_level (n : Nat) {c : Int} (h : Rd t r s) (q : Met r t .Reader_do_level (n + 6) [.d (.int c)] s') : Met r t .Reader_work (n + 8) [.d (tLevel c)] s' := by
 obtain ⟨t', e, d, fr⟩ := q
 refine ⟨t', ?_, d, fr⟩
 have e2 : mir (n + 7) .Reader_work_plain [.d (.o r), .d (tLevel c)] t = .ok (.d .non) t' := by
  show fnM 3 (m_Reader_work_plain (mir (n + 6))) [.d (.o r), .d (tLevel c)] t = _
  have s1 : (sSet 2 (eBin dIx (eVar 1) (eC (.int 0))) : Sm MX Out) ⟨[some (.d (.o r)), some (.d (tLevel c)), none], t⟩ = .ok .nx ⟨[some (.d (.o r)), some (.d (tLevel c)), some (.d (.str "level"))], t⟩ := rfl
  exact fnM_n (M := MX) ((seq_nx s1).trans ((if_F (by kernel_rfl)).trans ((if_F (by kernel_rfl)).trans ((if_F (by kernel_rfl)).trans ((if_F (by kernel_rfl)).trans ((if_F (by kernel_rfl)).trans ((if_F (by kernel_rfl)).trans ((if_T (by kernel_rfl)).trans (ex_ok (rc1 (rho1 := [some (.d (.o r)), some (.d (tLevel c)), some (.d (.str "level"))]) h (by kernel_rfl) rfl e))))))))))
 show fnM 2 (m_Reader_work (mir (n + 7))) [.d (.o r), .d (tLevel c)] t = _
 exact fnM_n (M := MX) ((if_F (by kernel_rfl)).trans ((if_F (by kernel_rfl)).trans ((if_F (by kernel_rfl)).trans ((if_F (by kernel_rfl)).trans ((if_F (by kernel_rfl)).trans ((if_F (by kernel_rfl)).trans (ex_ok (rc1 (rho1 := [some (.d (.o r)), some (.d (tLevel c))]) h (by kernel_rfl) rfl e2))))))))
theorem work_rest (n : Nat) {c : Int} (h : Rd t r s) (q : Met r t .Reader_do_rest (n + 6) [.d (.int c)] s') : Met r t .Reader_work (n + 8) [.d (tRest c)] s' := by
 obtain ⟨t', e, d, fr⟩ := q
 refine ⟨t', ?_, d, fr⟩
 have e2 : mir (n + 7) .Reader_work_plain [.d (.o r), .d (tRest c)] t = .ok (.d .non) t' := by
  show fnM 3 (m_Reader_work_plain (mir (n + 6))) [.d (.o r), .d (tRest c)] t = _
  have s1 : (sSet 2 (eBin dIx (eVar 1) (eC (.int 0))) : Sm MX Out) ⟨[some (.d (.o r)), some (.d (tRest c)), none], t⟩ = .ok .nx ⟨[some (.d (.o r)), some (.d (tRest c)), some (.d (.str "rest"))], t⟩ := rfl
  exact fnM_n (M := MX) ((seq_nx s1).trans ((if_F (by kernel_rfl)).trans ((if_F (by kernel_rfl)).trans ((if_F (by kernel_rfl)).trans ((if_F (by kernel_rfl)).trans ((if_F (by kernel_rfl)).trans ((if_F (by kernel_rfl)).trans ((if_F (by kernel_rfl)).trans ((if_T (by kernel_rfl)).trans (ex_ok (rc1 (rho1 := [some (.d (.o r)), some (.d (tRest c)), some (.d (.str "rest"))]) h (by kernel_rfl) rfl e)))))))))))
 show fnM 2 (m_Reader_work (mir (n + 7))) [.d (.o r), .d (tRest c)] t = _
 exact fnM_n (M := MX) ((if_F (by kernel_rfl)).trans ((if_F (by kernel_rfl)).trans ((if_F (by kernel_rfl)).trans ((if_F (by kernel_rfl)).trans ((if_F (by kernel_rfl)).trans ((if_F (by kernel_rfl)).trans (ex_ok (rc1 (rho1 := [some (.d (.o r)), some (.d (tRest c))]) h (by kernel_rfl) rfl e2))))))))
theorem work_make (n : Nat) {w : Str} (h : Rd t r s) (q : Met r t .Reader_make (n + 5) [.d (.str w), .d (.int 2)] s') : Met r t .Reader_work (n + 8) [.d (tMake w)] s' := by
 obtain ⟨t', e, d, fr⟩ := q
 refine ⟨t', ?_, d, fr⟩
 have e1 : mir (n + 6) .Reader_work_made [.d (.o r), .d (tMake w)] t = .ok (.d .non) t' := by
  show fnM 2 (m_Reader_work_made (mir (n + 5))) [.d (.o r), .d (tMake w)] t = _
  exact fnM_n (M := MX) ((if_T (by kernel_rfl)).trans (ex_ok (rc2 (rho1 := [some (.d (.o r)), some (.d (tMake w))]) (rho2 := [some (.d (.o r)), some (.d (tMake w))]) h (by kernel_rfl) rfl rfl e)))
 have e2 : mir (n + 7) .Reader_work_plain [.d (.o r), .d (tMake w)] t = .ok (.d .non) t' := by
  show fnM 3 (m_Reader_work_plain (mir (n + 6))) [.d (.o r), .d (tMake w)] t = _
  have s1 : (sSet 2 (eBin dIx (eVar 1) (eC (.int 0))) : Sm MX Out) ⟨[some (.d (.o r)), some (.d (tMake w)), none], t⟩ = .ok .nx ⟨[some (.d (.o r)), some (.d (tMake w)), some (.d (.str "make"))], t⟩ := rfl
  exact fnM_n (M := MX) ((seq_nx s1).trans ((if_F (by kernel_rfl)).trans ((if_F (by kernel_rfl)).trans ((if_F (by kernel_rfl)).trans ((if_F (by kernel_rfl)).trans ((if_F (by kernel_rfl)).trans ((if_F (by kernel_rfl)).trans ((if_F (by kernel_rfl)).trans ((if_F (by kernel_rfl)).trans (ex_ok (rc1 (rho1 := [some (.d (.o r)), some (.d (tMake w)), some (.d (.str "make"))]) h (by kernel_rfl) rfl e1)))))))))))
 show fnM 2 (m_Reader_work (mir (n + 7))) [.d (.o r), .d (tMake w)] t = _
 exact fnM_n (M := MX) ((if_F (by kernel_rfl)).trans ((if_F (by kernel_rfl)).trans ((if_F (by kernel_rfl)).trans ((if_F (by kernel_rfl)).trans ((if_F (by kernel_rfl)).trans ((if_F (by kernel_rfl)).trans (ex_ok (rc1 (rho1 := [some (.d (.o r)), some (.d (tMake w))]) h (by kernel_rfl) rfl e2))))))))
theorem work_make_not (n : Nat)  (h : Rd t r s) (q : Met r t .Reader_make_not (n + 5) [] s') : Met r t .Reader_work (n + 8) [.d tNot] s' := by
 obtain ⟨t', e, d, fr⟩ := q
 refine ⟨t', ?_, d, fr⟩
 have e1 : mir (n + 6) .Reader_work_made [.d (.o r), .d tNot] t = .ok (.d .non) t' := by
  show fnM 2 (m_Reader_work_made (mir (n + 5))) [.d (.o r), .d tNot] t = _
  exact fnM_n (M := MX) ((if_F (by kernel_rfl)).trans ((if_T (by kernel_rfl)).trans (ex_ok (rc0 h (by kernel_rfl) e))))
 have e2 : mir (n + 7) .Reader_work_plain [.d (.o r), .d tNot] t = .ok (.d .non) t' := by
  show fnM 3 (m_Reader_work_plain (mir (n + 6))) [.d (.o r), .d tNot] t = _
  have s1 : (sSet 2 (eBin dIx (eVar 1) (eC (.int 0))) : Sm MX Out) ⟨[some (.d (.o r)), some (.d tNot), none], t⟩ = .ok .nx ⟨[some (.d (.o r)), some (.d tNot), some (.d (.str "make_not"))], t⟩ := rfl
  exact fnM_n (M := MX) ((seq_nx s1).trans ((if_F (by kernel_rfl)).trans ((if_F (by kernel_rfl)).trans ((if_F (by kernel_rfl)).trans ((if_F (by kernel_rfl)).trans ((if_F (by kernel_rfl)).trans ((if_F (by kernel_rfl)).trans ((if_F (by kernel_rfl)).trans ((if_F (by kernel_rfl)).trans (ex_ok (rc1 (rho1 := [some (.d (.o r)), some (.d tNot), some (.d (.str "make_not"))]) h (by kernel_rfl) rfl e1)))))))))))
 show fnM 2 (m_Reader_work (mir (n + 7))) [.d (.o r), .d tNot] t = _
 exact fnM_n (M := MX) ((if_F (by kernel_rfl)).trans ((if_F (by kernel_rfl)).trans ((if_F (by kernel_rfl)).trans ((if_F (by kernel_rfl)).trans ((if_F (by kernel_rfl)).trans ((if_F (by kernel_rfl)).trans (ex_ok (rc1 (rho1 := [some (.d (.o r)), some (.d tNot)]) h (by kernel_rfl) rfl e2))))))))
theorem work_bound (n : Nat) {w : Str} {f : Str} (h : Rd t r s) (q : Met r t .Reader_make_bound (n + 5) [.d (.str w), .d (.str f)] s') : Met r t .Reader_work (n + 8) [.d (tBound w f)] s' := by
 obtain ⟨t', e, d, fr⟩ := q
 refine ⟨t', ?_, d, fr⟩
 have e1 : mir (n + 6) .Reader_work_made [.d (.o r), .d (tBound w f)] t = .ok (.d .non) t' := by
  show fnM 2 (m_Reader_work_made (mir (n + 5))) [.d (.o r), .d (tBound w f)] t = _
  exact fnM_n (M := MX) ((if_F (by kernel_rfl)).trans ((if_F (by kernel_rfl)).trans ((if_T (by kernel_rfl)).trans (ex_ok (rc2 (rho1 := [some (.d (.o r)), some (.d (tBound w f))]) (rho2 := [some (.d (.o r)), some (.d (tBound w f))]) h (by kernel_rfl) rfl rfl e)))))
 have e2 : mir (n + 7) .Reader_work_plain [.d (.o r), .d (tBound w f)] t = .ok (.d .non) t' := by
  show fnM 3 (m_Reader_work_plain (mir (n + 6))) [.d (.o r), .d (tBound w f)] t = _
  have s1 : (sSet 2 (eBin dIx (eVar 1) (eC (.int 0))) : Sm MX Out) ⟨[some (.d (.o r)), some (.d (tBound w f)), none], t⟩ = .ok .nx ⟨[some (.d (.o r)), some (.d (tBound w f)), some (.d (.str "bound"))], t⟩ := rfl
  exact fnM_n (M := MX) ((seq_nx s1).trans ((if_F (by kernel_rfl)).trans ((if_F (by kernel_rfl)).trans ((if_F (by kernel_rfl)).trans ((if_F (by kernel_rfl)).trans ((if_F (by kernel_rfl)).trans ((if_F (by kernel_rfl)).trans ((if_F (by kernel_rfl)).trans ((if_F (by kernel_rfl)).trans (ex_ok (rc1 (rho1 := [some (.d (.o r)), some (.d (tBound w f)), some (.d (.str "bound"))]) h (by kernel_rfl) rfl e1)))))))))))
 show fnM 2 (m_Reader_work (mir (n + 7))) [.d (.o r), .d (tBound w f)] t = _
 exact fnM_n (M := MX) ((if_F (by kernel_rfl)).trans ((if_F (by kernel_rfl)).trans ((if_F (by kernel_rfl)).trans ((if_F (by kernel_rfl)).trans ((if_F (by kernel_rfl)).trans ((if_F (by kernel_rfl)).trans (ex_ok (rc1 (rho1 := [some (.d (.o r)), some (.d (tBound w f))]) h (by kernel_rfl) rfl e2))))))))
theorem work_take (n : Nat) {c : Str} (h : Rd t r s) (q : Met r t .Reader_need_word (n + 5) [.d (.str "mark"), .d (.str c)] s') : Met r t .Reader_work (n + 8) [.d (tTake c)] s' := by
 obtain ⟨t', e, d, fr⟩ := q
 refine ⟨t', ?_, d, fr⟩
 have e1 : mir (n + 6) .Reader_work_made [.d (.o r), .d (tTake c)] t = .ok (.d .non) t' := by
  show fnM 2 (m_Reader_work_made (mir (n + 5))) [.d (.o r), .d (tTake c)] t = _
  exact fnM_n (M := MX) ((if_F (by kernel_rfl)).trans ((if_F (by kernel_rfl)).trans ((if_F (by kernel_rfl)).trans (ex_ok (rc2 (rho1 := [some (.d (.o r)), some (.d (tTake c))]) (rho2 := [some (.d (.o r)), some (.d (tTake c))]) h (by kernel_rfl) rfl rfl e)))))
 have e2 : mir (n + 7) .Reader_work_plain [.d (.o r), .d (tTake c)] t = .ok (.d .non) t' := by
  show fnM 3 (m_Reader_work_plain (mir (n + 6))) [.d (.o r), .d (tTake c)] t = _
  have s1 : (sSet 2 (eBin dIx (eVar 1) (eC (.int 0))) : Sm MX Out) ⟨[some (.d (.o r)), some (.d (tTake c)), none], t⟩ = .ok .nx ⟨[some (.d (.o r)), some (.d (tTake c)), some (.d (.str "take"))], t⟩ := rfl
  exact fnM_n (M := MX) ((seq_nx s1).trans ((if_F (by kernel_rfl)).trans ((if_F (by kernel_rfl)).trans ((if_F (by kernel_rfl)).trans ((if_F (by kernel_rfl)).trans ((if_F (by kernel_rfl)).trans ((if_F (by kernel_rfl)).trans ((if_F (by kernel_rfl)).trans ((if_F (by kernel_rfl)).trans (ex_ok (rc1 (rho1 := [some (.d (.o r)), some (.d (tTake c)), some (.d (.str "take"))]) h (by kernel_rfl) rfl e1)))))))))))
 show fnM 2 (m_Reader_work (mir (n + 7))) [.d (.o r), .d (tTake c)] t = _
 exact fnM_n (M := MX) ((if_F (by kernel_rfl)).trans ((if_F (by kernel_rfl)).trans ((if_F (by kernel_rfl)).trans ((if_F (by kernel_rfl)).trans ((if_F (by kernel_rfl)).trans ((if_F (by kernel_rfl)).trans (ex_ok (rc1 (rho1 := [some (.d (.o r)), some (.d (tTake c))]) h (by kernel_rfl) rfl e2))))))))
end
noncomputable def Wk (s : RS) (d : D) (s' : RS) : Prop := ∀ (n r : Nat) (t : List MO), Rd t r s → Met r t .Reader_work (n + 8) [.d d] s'
inductive Go : Nat → RS → RS → Prop
  | nil (s : RS) : Go 0 s s
  | step {k : Nat} {s s1 s2 : RS} {d : D} {td : List D} : s.td = d :: td → Wk { s with td := td } d s1 → Go k s1 s2 → Go (k + 1) s s2
theorem Go.trans {k m : Nat} {a b c : RS} (h : Go k a b) (g : Go m b c) : Go (k + m) a c := by
 induction h with
 | nil s => rw [Nat.zero_add]; exact g
 | step e w _ ih => rw [Nat.add_right_comm]; exact .step e w (ih g)
theorem Go.one {s s' : RS} {d : D} {td : List D} (e : s.td = d :: td) (w : Wk { s with td := td } d s') : Go 1 s s' := .step e w (.nil _)
inductive Tk where
  | told (w : Str)
  | name (w : Str)
  | var (k : Int)
  | mark (c : Str)
noncomputable def Tk.k : Tk → Str
 | .told _ => "told"
 | .name _ => "name"
 | .var _ => "var"
 | .mark _ => "mark"
noncomputable def Tk.v : Tk → D
 | .told w => .str w
 | .name w => .str w
 | .var k => .int k
 | .mark c => .str c
noncomputable def AtW (w : List Wd) : Nat → List Tk → Prop
 | _, [] => True
 | a, x :: r => (∃ p, w[a]? = some ⟨x.k, x.v, p⟩) ∧ AtW w (a + 1) r
theorem AtW.app {w : List Wd} : ∀ {xs ys : List Tk} {a : Nat}, AtW w a (xs ++ ys) → AtW w a xs ∧ AtW w (a + xs.length) ys
 | [], ys, a, h => ⟨trivial, h⟩
 | x :: r, ys, a, h => by
  obtain ⟨h1, h2⟩ := h
  obtain ⟨h3, h4⟩ := AtW.app h2
  exact ⟨⟨h1, h3⟩, by rw [List.length_cons, show a + (r.length + 1) = a + 1 + r.length by omega]; exact h4⟩
noncomputable def nxt (s : RS) (n : Nat) : Wd := RS.now { s with a := s.a + n }
theorem nxt_at {s : RS} {n : Nat} {x : Tk} {r : List Tk} (h : AtW s.w (s.a + n) (x :: r)) : (nxt s n).k = x.k ∧ (nxt s n).v = x.v ∧ s.a + n < s.w.length := by
 obtain ⟨⟨p, e⟩, _⟩ := h
 unfold nxt RS.now
 simp only [e, Option.getD_some]
 exact ⟨trivial, trivial, (List.getElem?_eq_some_iff.mp e).1⟩
theorem now_at {s : RS} {x : Tk} {r : List Tk} (h : AtW s.w s.a (x :: r)) : s.now.k = x.k ∧ s.now.v = x.v ∧ s.a < s.w.length := nxt_at (n := 0) h
theorem is_of {x : Wd} {k c : Str} (h : x.k = k) (h2 : x.v = .str c) : x.is k c = true := by
 unfold Wd.is
 rw [h, h2, beq_self_eq_true]
 exact beq_self_eq_true c
noncomputable def Tail (i : Nat) (x : Wd) : Prop := x.is "mark" "(" = false ∧ (i ≤ 3 → x.is "mark" "=" = false) ∧ ∀ j, i ≤ j → j < 3 → x.is "mark" (sgn j) = false
theorem Tail.up {i j : Nat} {x : Wd} (h : Tail i x) (l : i ≤ j) : Tail j x := ⟨h.1, fun q => h.2.1 (by omega), fun k hk => h.2.2 k (by omega)⟩
theorem Tail.mark {i : Nat} {x : Wd} {c : Str} (h : x.k = "mark" ∧ x.v = .str c) (h1 : (c == "(") = false) (h2 : i ≤ 3 → (c == "=") = false) (h3 : ∀ j, i ≤ j → j < 3 → (c == sgn j) = false) : Tail i x := by
 have e := is_of h.1 h.2
 exact ⟨is_not e h1, fun q => is_not e (h2 q), fun j a b => is_not e (h3 j a b)⟩
noncomputable abbrev LL : Nat := 900000
noncomputable def Rch (c e : Nat) (m : Int) (ts : List Tk) (i : Nat) (src dst : List D) (A : Th) : Prop :=
 ∀ (s : RS) (td : List D), WOk s → s.many = m → AtW s.w s.a ts → s.td = src ++ td → td.length + 8 * ts.length ≤ LL + e → s.md.length + 4 * ts.length ≤ LL → Tail i (nxt s ts.length) →
  ∃ k, k + c ≤ 12 * ts.length ∧ Go k s { s with a := s.a + ts.length, td := dst ++ td, md := itm A :: s.md }
mutual
noncomputable def tkT (m : Int) : Th → List Tk
 | .var k => [.var (m - 1 - k)]
 | .call f as => .name f :: tkA m as
 | _ => []
noncomputable def tkA (m : Int) : List Th → List Tk
 | [] => []
 | x :: r => .mark "(" :: (tkT m x ++ tkR m r)
noncomputable def tkR (m : Int) : List Th → List Tk
 | [] => [.mark ")"]
 | x :: r => .mark "," :: (tkT m x ++ tkR m r)
end
mutual
noncomputable def tmOk (m : Int) : Th → Prop
 | .var k => 0 ≤ k ∧ k < m
 | .call f as => PyData.strOk f = true ∧ tmsOk m as
 | _ => False
noncomputable def tmsOk (m : Int) : List Th → Prop
 | [] => True
 | x :: r => tmOk m x ∧ tmsOk m r
end
theorem ltm {n : Nat} (h : n ≤ LL) : n < lim := Nat.lt_of_le_of_lt h (by decide)
theorem lt2 {n : Nat} (h : n ≤ LL) : n + 2 ≤ lim := by
 have : LL + 2 ≤ lim := by decide
 omega
theorem lt3 {n : Nat} (h : n ≤ LL) : n + 3 ≤ lim := by
 have : LL + 3 ≤ lim := by decide
 omega
theorem tail_comma {x : Wd} (h : x.k = "mark" ∧ x.v = .str ",") : Tail 4 x := Tail.mark h (by decide +kernel) (fun q => by omega) (fun j a b => by omega)
theorem tail_close {i : Nat} {x : Wd} (h : x.k = "mark" ∧ x.v = .str ")") : Tail i x := Tail.mark h (by decide +kernel) (fun _ => by decide +kernel) (fun j _ b => by match j, b with
 | 0, _ => decide +kernel
 | 1, _ => decide +kernel
 | 2, _ => decide +kernel)
noncomputable def RR (m : Int) (r : List Th) : Prop := ∀ (s : RS) (td : List D) (done : List Th) (md : List D), WOk s → s.many = m → AtW s.w s.a (tkR m r) → s.td = tMore (done.length : Nat) :: td → s.md = (done.map itm).reverse ++ md → s.td.length + 8 * (tkR m r).length ≤ LL → s.md.length + 4 * (tkR m r).length ≤ LL →
  ∃ k, k ≤ 12 * (tkR m r).length ∧ Go k s { s with a := s.a + (tkR m r).length, td := td, md := .int ((done ++ r).length : Nat) :: (((done ++ r).map itm).reverse ++ md) }
noncomputable def TC (m : Int) (T : Th) : Prop := Rch 0 0 m (tkT m T) 4 [tTerm] [] T
theorem tkR_hd (m : Int) (r : List Th) : ∃ c q, tkR m r = .mark c :: q ∧ (c = "," ∨ c = ")") := by
 cases r with
 | nil => exact ⟨_, _, by rw [tkR], .inr rfl⟩
 | cons x r => exact ⟨_, _, by rw [tkR], .inl rfl⟩
theorem tail_R {m : Int} {r : List Th} {s : RS} {n : Nat} (h : AtW s.w (s.a + n) (tkR m r)) : Tail 4 (nxt s n) := by
 obtain ⟨c, q, e, hc⟩ := tkR_hd m r
 rw [e] at h
 obtain ⟨h1, h2, _⟩ := nxt_at h
 rcases hc with rfl | rfl
 ·exact tail_comma ⟨h1, h2⟩
 ·exact tail_close ⟨h1, h2⟩
theorem tkT_pos (m : Int) {T : Th} (h : tmOk m T) : 1 ≤ (tkT m T).length := by
 cases T with
 | var k => rw [tkT]; exact Nat.le_refl _
 | call f as => rw [tkT, List.length_cons]; omega
 | _ => exact h.elim
theorem rr_ok (m : Int) : ∀ (r : List Th), (∀ x ∈ r, TC m x ∧ tmOk m x) → RR m r
 | [], _, s, td, done, md, hw, hm, ha, ht, hd, b1, b2 => by
  rw [tkR] at ha b1 b2 ⊢
  obtain ⟨h1, h2, h3⟩ := now_at ha
  rw [List.length_singleton] at b1 b2
  have w : Wk { s with td := td } (tMore (done.length : Nat)) { s with a := s.a + 1, td := td, md := .int (done.length : Nat) :: s.md } := fun n r t h =>
   work_more n h (do_more_n (n + 3) (c := done.length) h ⟨hw.n, hw.f⟩ (is_of h1 h2) (ltm (by show s.md.length ≤ LL; omega)))
  refine ⟨1, by rw [List.length_singleton]; omega, ?_⟩
  rw [List.append_nil, ← hd]
  exact Go.one ht w
 | x :: r, hx, s, td, done, md, hw, hm, ha, ht, hd, b1, b2 => by
  rw [tkR] at ha b1 b2 ⊢
  obtain ⟨h1, h2, h3⟩ := now_at ha
  obtain ⟨_, ha2⟩ := ha
  obtain ⟨ha3, ha4⟩ := AtW.app ha2
  obtain ⟨tx, ox⟩ := hx x List.mem_cons_self
  have px := tkT_pos m ox
  rw [List.length_cons, List.length_append] at b1 b2
  rw [ht, List.length_cons] at b1
  have w : Wk { s with td := td } (tMore (done.length : Nat)) { s with a := s.a + 1, td := tTerm :: tMore ((done.length + 1 : Nat) : Int) :: td } := fun n r t h =>
   work_more n h (do_more_y (n + 3) (c := done.length) h ⟨hw.n, hw.f⟩ (is_of h1 h2) (lt2 (by show td.length ≤ LL; omega)))
  obtain ⟨k1, l1, g1⟩ := tx { s with a := s.a + 1, td := tTerm :: tMore ((done.length + 1 : Nat) : Int) :: td } (tMore ((done.length + 1 : Nat) : Int) :: td) ⟨hw.n, hw.f⟩ hm ha3 rfl (by show (tMore ((done.length + 1 : Nat) : Int) :: td).length + _ ≤ _; rw [List.length_cons]; omega) (by show s.md.length + _ ≤ _; omega) (tail_R ha4)
  have e1 : (done ++ [x]).length = done.length + 1 := by rw [List.length_append, List.length_singleton]
  obtain ⟨k2, l2, g2⟩ := rr_ok m r (fun y hy => hx y (List.mem_cons_of_mem _ hy)) { s with a := s.a + 1 + (tkT m x).length, td := tMore ((done.length + 1 : Nat) : Int) :: td, md := itm x :: s.md } td (done ++ [x]) md ⟨hw.n, hw.f⟩ hm ha4 (by rw [e1]) (by
    show itm x :: s.md = _
    rw [hd, List.map_append, List.reverse_append]; rfl) (by show (tMore ((done.length + 1 : Nat) : Int) :: td).length + _ ≤ _; rw [List.length_cons]; omega) (by show (itm x :: s.md).length + _ ≤ _; rw [List.length_cons]; omega)
  refine ⟨1 + (k1 + k2), by rw [List.length_cons, List.length_append]; omega, ?_⟩
  have e2 : done ++ [x] ++ r = done ++ x :: r := by rw [List.append_assoc]; rfl
  rw [e2] at g2
  have e3 : s.a + (Tk.mark (Str.ofString ",") :: (tkT m x ++ tkR m r)).length = s.a + 1 + (tkT m x).length + (tkR m r).length := by
   rw [List.length_cons, List.length_append]; omega
  rw [e3]
  exact (Go.one ht w).trans (g1.trans g2)
theorem args_ok (m : Int) (as : List Th) (hx : ∀ x ∈ as, TC m x ∧ tmOk m x) (s : RS) (td : List D) (hw : WOk s) (hm : s.many = m) (ha : AtW s.w s.a (tkA m as)) (ht : s.td = tArgs :: td) (b1 : s.td.length + 8 * (tkA m as).length ≤ LL) (b2 : s.md.length + 4 * (tkA m as).length < LL) (hn : (nxt s (tkA m as).length).is "mark" "(" = false) :
  ∃ k, k ≤ 1 + 12 * (tkA m as).length ∧ Go k s { s with a := s.a + (tkA m as).length, td := td, md := .int (as.length : Nat) :: ((as.map itm).reverse ++ s.md) } := by
 cases as with
 | nil =>
  rw [tkA] at hn b1 b2 ⊢
  have w : Wk { s with td := td } tArgs { s with td := td, md := .int 0 :: s.md } := fun n r t h =>
   work_args n h (do_args_n (n + 3) h ⟨hw.n, hw.f⟩ hn (ltm (by show s.md.length ≤ LL; rw [List.length_nil] at b2; omega)))
  exact ⟨1, by omega, Go.one ht w⟩
 | cons x r =>
  rw [tkA] at ha b1 b2 ⊢
  obtain ⟨h1, h2, h3⟩ := now_at ha
  obtain ⟨_, ha2⟩ := ha
  obtain ⟨ha3, ha4⟩ := AtW.app ha2
  obtain ⟨tx, ox⟩ := hx x List.mem_cons_self
  have px := tkT_pos m ox
  rw [List.length_cons, List.length_append] at b1 b2
  rw [ht, List.length_cons] at b1
  have w : Wk { s with td := td } tArgs { s with a := s.a + 1, td := tTerm :: tMore 1 :: td } := fun n r t h =>
   work_args n h (do_args_y (n + 3) h ⟨hw.n, hw.f⟩ (is_of h1 h2) (lt2 (by show td.length ≤ LL; omega)))
  obtain ⟨k1, l1, g1⟩ := tx { s with a := s.a + 1, td := tTerm :: tMore 1 :: td } (tMore 1 :: td) ⟨hw.n, hw.f⟩ hm ha3 rfl (by show (tMore 1 :: td).length + _ ≤ _; rw [List.length_cons]; omega) (by show s.md.length + _ ≤ _; omega) (tail_R ha4)
  obtain ⟨k2, l2, g2⟩ := rr_ok m r (fun y hy => hx y (List.mem_cons_of_mem _ hy)) { s with a := s.a + 1 + (tkT m x).length, td := tMore 1 :: td, md := itm x :: s.md } td [x] s.md ⟨hw.n, hw.f⟩ hm ha4 rfl rfl (by show (tMore 1 :: td).length + _ ≤ _; rw [List.length_cons]; omega) (by show (itm x :: s.md).length + _ ≤ _; rw [List.length_cons]; omega)
  refine ⟨1 + (k1 + k2), by rw [List.length_cons, List.length_append]; omega, ?_⟩
  have e3 : s.a + (Tk.mark (Str.ofString "(") :: (tkT m x ++ tkR m r)).length = s.a + 1 + (tkT m x).length + (tkR m r).length := by
   rw [List.length_cons, List.length_append]; omega
  rw [e3]
  exact (Go.one ht w).trans (g1.trans g2)
theorem tmsOk_mem {m : Int} : ∀ {as : List Th}, tmsOk m as → ∀ x ∈ as, tmOk m x
 | y :: r, h, x, hx => by
  rw [tmsOk] at h
  rcases List.mem_cons.mp hx with rfl | hx
  ·exact h.1
  ·exact tmsOk_mem h.2 x hx
theorem mem_size {t : Th} : ∀ {ts : List Th}, t ∈ ts → size t ≤ sizes ts
 | u :: r, h => by
  rw [sizes]
  rcases List.mem_cons.mp h with rfl | h
  ·omega
  ·have := mem_size h; omega
theorem tc_ok (m : Int) : ∀ (n : Nat) (T : Th), size T ≤ n → tmOk m T → TC m T
 | 0, T, hn, _ => by
  rw [size_kids] at hn; omega
 | n + 1, .var k, _, ho => by
  intro s td hw hm ha ht b1 b2 htl
  rw [tkT] at ha b1 b2 ⊢
  rw [tmOk] at ho
  obtain ⟨h1, h2, h3⟩ := now_at ha
  rw [List.length_singleton] at b1 b2
  have w : Wk { s with td := td } tTerm { s with a := s.a + 1, td := td, md := itm (.var k) :: s.md } := fun n r t h => by
   have := do_term_v (n + 3) (k := m - 1 - k) h ⟨hw.n, hw.f⟩ h1 h2 (by show m - 1 - k < s.many; omega) h3 (ltm (by show s.md.length ≤ LL; omega))
   have e : ({ s with td := td } : RS).many - 1 - (m - 1 - k) = k := by show s.many - 1 - (m - 1 - k) = k; omega
   rw [e] at this
   exact work_term n h this
  exact ⟨1, by rw [List.length_singleton]; omega, Go.one ht w⟩
 | n + 1, .call f as, hn, ho => by
  intro s td hw hm ha ht b1 b2 htl
  rw [tkT] at ha b1 b2 htl ⊢
  rw [tmOk] at ho
  rw [size] at hn
  obtain ⟨h1, h2, h3⟩ := now_at ha
  obtain ⟨_, ha2⟩ := ha
  rw [List.length_cons] at b1 b2 htl ⊢
  have w : Wk { s with td := td } tTerm { s with a := s.a + 1, td := tArgs :: tCall f :: td } := fun n r t h =>
   work_term n h (do_term_n (n + 3) (f := f) h ⟨hw.n, hw.f⟩ h1 h2 h3 (lt2 (by show td.length ≤ LL; omega)))
  obtain ⟨k1, l1, g1⟩ := args_ok m as (fun x hx => ⟨tc_ok m n x (by have := mem_size hx; omega) (tmsOk_mem ho.2 x hx), tmsOk_mem ho.2 x hx⟩) { s with a := s.a + 1, td := tArgs :: tCall f :: td } (tCall f :: td) ⟨hw.n, hw.f⟩ hm ha2 rfl (by show (tArgs :: tCall f :: td).length + _ ≤ _; rw [List.length_cons, List.length_cons]; omega) (by show s.md.length + _ < _; omega) (by
   have := htl.1
   rw [show nxt s ((tkA m as).length + 1) = nxt { s with a := s.a + 1, td := tArgs :: tCall f :: td } (tkA m as).length from by unfold nxt RS.now; simp only [show s.a + ((tkA m as).length + 1) = s.a + 1 + (tkA m as).length by omega]] at this
   exact this)
  have hal : as.length ≤ (tkA m as).length := by
   cases as with
   | nil => exact Nat.zero_le _
   | cons x r =>
    rw [tkA, List.length_cons, List.length_cons, List.length_append]
    have : ∀ r : List Th, r.length ≤ (tkR m r).length := fun r => by
     induction r with
     | nil => exact Nat.zero_le _
     | cons y r ih => rw [tkR, List.length_cons, List.length_cons, List.length_append]; omega
    have := this r
    omega
  have w2 : Wk { s with a := s.a + 1 + (tkA m as).length, td := td, md := .int (as.length : Nat) :: ((as.map itm).reverse ++ s.md) } (tCall f) { s with a := s.a + 1 + (tkA m as).length, td := td, md := itm (.call f as) :: s.md } := fun n r t h =>
   work_call n h (do_call_ok (n + 3) (f := f) (ts := as) (md := s.md) h rfl (by show (D.int (as.length : Nat) :: ((as.map itm).reverse ++ s.md)).length < lim; rw [List.length_cons, List.length_append, List.length_reverse, List.length_map]; exact ltm (by omega)))
  refine ⟨1 + (k1 + 1), by omega, ?_⟩
  rw [show s.a + ((tkA m as).length + 1) = s.a + 1 + (tkA m as).length by omega]
  exact (Go.one ht w).trans (g1.trans (Go.one rfl w2))
 | n + 1, .rel _ _, _, ho => ho.elim
 | n + 1, .same _ _, _, ho => ho.elim
 | n + 1, .no, _, ho => ho.elim
 | n + 1, .and _ _, _, ho => ho.elim
 | n + 1, .or _ _, _, ho => ho.elim
 | n + 1, .imp _ _, _, ho => ho.elim
 | n + 1, .all _ _, _, ho => ho.elim
 | n + 1, .some _ _, _, ho => ho.elim
inductive Pt : Th → Nat → Int → List Tk → Prop
  | rel {f : Str} {as : List Th} {m : Int} : PyData.strOk f = true → tmsOk m as → Pt (.rel f as) 5 m (.name f :: tkA m as)
  | same {a b : Th} {m : Int} : tmOk m a → tmOk m b → Pt (.same a b) 5 m (tkT m a ++ .mark "=" :: tkT m b)
  | no {m : Int} : Pt .no 5 m [.told "no"]
  | not {a : Th} {r : Nat} {m : Int} {ts : List Tk} : Pt a r m ts → 4 ≤ r → Pt (.imp a .no) 4 m (.mark "~" :: ts)
  | and {a b : Th} {r r' : Nat} {m : Int} {ts ts' : List Tk} : Pt a r m ts → 3 ≤ r → Pt b r' m ts' → 4 ≤ r' → Pt (.and a b) 3 m (ts ++ .mark "&" :: ts')
  | or {a b : Th} {r r' : Nat} {m : Int} {ts ts' : List Tk} : Pt a r m ts → 2 ≤ r → Pt b r' m ts' → 3 ≤ r' → Pt (.or a b) 2 m (ts ++ .mark "|" :: ts')
  | imp {a b : Th} {r r' : Nat} {m : Int} {ts ts' : List Tk} : Pt a r m ts → 2 ≤ r → Pt b r' m ts' → 1 ≤ r' → Pt (.imp a b) 1 m (ts ++ .mark "->" :: ts')
  | all {s : Str} {a : Th} {r : Nat} {m : Int} {ts : List Tk} : PyData.strOk s = true → Pt a r (m + 1) ts → Pt (.all s a) 0 m (.told "all" :: .var m :: .mark ":" :: .name s :: .mark "." :: ts)
  | some {s : Str} {a : Th} {r : Nat} {m : Int} {ts : List Tk} : PyData.strOk s = true → Pt a r (m + 1) ts → Pt (.some s a) 0 m (.told "some" :: .var m :: .mark ":" :: .name s :: .mark "." :: ts)
  | br {a : Th} {r : Nat} {m : Int} {ts : List Tk} : Pt a r m ts → Pt a 5 m (.mark "(" :: (ts ++ [.mark ")"]))
theorem rest_end {s : RS} {i : Nat} {td : List D} (hi : i < 3) (hw : WOk s) (ht : s.td = tRest (i : Nat) :: td) (hm : s.now.is "mark" (sgn i) = false) : Go 1 s { s with td := td } := by
 refine Go.one ht (fun n r t h => ?_)
 exact work_rest n h ⟨t, do_rest_n (n + 3) h ⟨hw.n, hw.f⟩ hi hm, h, Fr.refl _ _⟩
noncomputable def PC (i : Nat) (m : Int) (ts : List Tk) (A : Th) : Prop := Rch (2 * i) i m ts i [tLevel (i : Nat)] [] A
noncomputable def CC (i : Nat) (m : Int) (ts : List Tk) (A : Th) : Prop := Rch (2 * i + 2) i m ts (i + 1) [tLevel ((i + 1 : Nat) : Int), tRest (i : Nat)] [tRest (i : Nat)] A
noncomputable def DC (i : Nat) (m : Int) (ts : List Tk) (A : Th) : Prop := Rch (2 * i + 1) i m ts i [tLevel ((i + 1 : Nat) : Int), tRest (i : Nat)] [] A
noncomputable def SC (m : Int) (ts : List Tk) (A : Th) : Prop := Rch 0 0 m ts 0 [tStat] [] A
theorem up_C {m : Int} {ts : List Tk} {i : Nat} {A : Th} (h : PC (i + 1) m ts A) : CC i m ts A := by
 intro s td a1 a2 a3 a4 a5 a6 a7
 exact h s (tRest (i : Nat) :: td) a1 a2 a3 a4 (by rw [List.length_cons]; omega) a6 a7
theorem up_D {m : Int} {ts : List Tk} {i : Nat} {A : Th} (hi : i < 3) (h : CC i m ts A) : DC i m ts A := by
 intro s td a1 a2 a3 a4 a5 a6 a7
 obtain ⟨k, h1, h2⟩ := h s td a1 a2 a3 a4 a5 a6 (a7.up (by omega))
 refine ⟨k + 1, by omega, h2.trans (rest_end hi ⟨a1.n, a1.f⟩ rfl ?_)⟩
 exact a7.2.2 i (Nat.le_refl _) hi
theorem up_P {m : Int} {ts : List Tk} {i : Nat} {A : Th} (hi : i < 3) (h : DC i m ts A) : PC i m ts A := by
 intro s td a1 a2 a3 a4 a5 a6 a7
 have w : Wk { s with td := td } (tLevel (i : Nat)) { s with td := tLevel ((i + 1 : Nat) : Int) :: tRest (i : Nat) :: td } := fun n r t hd =>
  work_level n hd (do_level_i (n + 1) hd hi (by show td.length + 2 ≤ lim; have : LL + i + 2 ≤ lim := (by have : LL + 5 ≤ lim := (by decide); omega); omega))
 obtain ⟨k, h1, h2⟩ := h { s with td := tLevel ((i + 1 : Nat) : Int) :: tRest (i : Nat) :: td } td ⟨a1.n, a1.f⟩ a2 a3 rfl a5 a6 a7
 exact ⟨1 + k, by omega, (Go.one a4 w).trans h2⟩
noncomputable def Hd (ts : List Tk) : Prop := ∃ x q, ts = x :: q ∧ x ≠ .told "all" ∧ x ≠ .told "some"
theorem up_S {m : Int} {ts : List Tk} {A : Th} (hh : Hd ts) (h : DC 0 m ts A) : SC m ts A := by
 intro s td a1 a2 a3 a4 a5 a6 a7
 obtain ⟨x, q, rfl, n1, n2⟩ := hh
 obtain ⟨h1, h2, _⟩ := now_at a3
 have no : ∀ c : Str, (x ≠ .told c) → s.now.is "told" c = false := fun c hc => by
  unfold Wd.is
  rw [h1, h2]
  cases x with
  | told w =>
   have hn : w ≠ c := fun e => hc (by rw [e])
   rw [Bool.and_eq_false_iff]
   exact .inr (beq_eq_false_iff_ne.mpr hn)
  | name w => rfl
  | var k => rfl
  | mark c => rfl
 have w : Wk { s with td := td } tStat { s with td := tLevel 1 :: tRest 0 :: td } := fun n r t hd =>
  work_statement n hd (do_stat_l n hd ⟨a1.n, a1.f⟩ (no _ n1) (no _ n2) (lt2 (by show td.length ≤ LL; omega)))
 obtain ⟨k, k1, k2⟩ := h { s with td := tLevel 1 :: tRest 0 :: td } td ⟨a1.n, a1.f⟩ a2 a3 rfl a5 a6 a7
 exact ⟨1 + k, by omega, (Go.one a4 w).trans k2⟩
structure Al (r : Nat) (m : Int) (ts : List Tk) (A : Th) : Prop where
  h : 1 ≤ r → Hd ts
  p : ∀ i, i ≤ 3 → i + 1 ≤ r → PC i m ts A
  c : ∀ i, 1 ≤ i → i ≤ 2 → i + 1 ≤ r → CC i m ts A
  s : SC m ts A
theorem al_3 {r : Nat} {m : Int} {ts : List Tk} {A : Th} (hr : r ≤ 5) (hh : Hd ts) (h : PC 3 m ts A) : Al r m ts A := by
 have c2 := up_C h
 have p2 := up_P (by omega) (up_D (by omega) c2)
 have c1 := up_C p2
 have p1 := up_P (by omega) (up_D (by omega) c1)
 have d0 := up_D (by omega) (up_C p1)
 have p0 := up_P (by omega) d0
 refine ⟨fun _ => hh, fun i hi _ => ?_, fun i h1 h2 _ => ?_, up_S hh d0⟩
 ·match i, hi with
  | 0, _ => exact p0
  | 1, _ => exact p1
  | 2, _ => exact p2
  | 3, _ => exact h
 ·match i, h1, h2 with
  | 1, _, _ => exact c1
  | 2, _, _ => exact c2
theorem al_2 {m : Int} {ts : List Tk} {A : Th} (hh : Hd ts) (c2 : CC 2 m ts A) : Al 3 m ts A := by
 have p2 := up_P (by omega) (up_D (by omega) c2)
 have c1 := up_C p2
 have p1 := up_P (by omega) (up_D (by omega) c1)
 have d0 := up_D (by omega) (up_C p1)
 have p0 := up_P (by omega) d0
 refine ⟨fun _ => hh, fun i _ hi => ?_, fun i h1 h2 _ => ?_, up_S hh d0⟩
 ·match i, hi with
  | 0, _ => exact p0
  | 1, _ => exact p1
  | 2, _ => exact p2
 ·match i, h1, h2 with
  | 1, _, _ => exact c1
  | 2, _, _ => exact c2
theorem al_1 {m : Int} {ts : List Tk} {A : Th} (hh : Hd ts) (c1 : CC 1 m ts A) : Al 2 m ts A := by
 have p1 := up_P (by omega) (up_D (by omega) c1)
 have d0 := up_D (by omega) (up_C p1)
 have p0 := up_P (by omega) d0
 refine ⟨fun _ => hh, fun i _ hi => ?_, fun i h1 _ h2 => ?_, up_S hh d0⟩
 ·match i, hi with
  | 0, _ => exact p0
  | 1, _ => exact p1
 ·match i, h1, h2 with
  | 1, _, _ => exact c1
theorem al_0 {m : Int} {ts : List Tk} {A : Th} (hh : Hd ts) (d0 : DC 0 m ts A) : Al 1 m ts A := by
 refine ⟨fun _ => hh, fun i _ hi => ?_, fun i h1 _ h2 => by omega, up_S hh d0⟩
 match i, hi with
 | 0, _ => exact up_P (by omega) d0
theorem lvl3 {s s' : RS} {td : List D} (ht : s.td = tLevel 3 :: td) (e : ∀ (n r : Nat) (t : List MO), Rd t r { s with td := td } → ∃ t', mir (n + 5) .Reader_do_not [.d (.o r)] t = .ok (.d .non) t' ∧ Rd t' r s' ∧ Fr r t t') : Go 1 s s' :=
 Go.one ht (fun n r t h => work_level n h (do_level_3 (n + 1) h (e n r t h)))
theorem mk2 {s : RS} {td md : List D} {w : Str} {a b T : Th} (hw : WOk s) (ht : s.td = tMake w :: td) (hm : s.md = itm b :: itm a :: md) (hl : s.md.length < lim) (e : jn (.tup [.str w, enc a, enc b]) [a, b] = itm T) : Go 1 s { s with td := td, md := itm T :: md } := by
 refine Go.one ht (fun n r t h => ?_)
 obtain ⟨t', e1, d1, f1⟩ := make_ok (n + 3) (wd := w) (ts := [a, b]) (md := md) h (by show s.md = _; rw [hm]; rfl) hl
 have d1' : Rd t' r { s with td := td, md := itm T :: md } := by
  rw [← e]; exact d1
 exact work_make n h ⟨t', e1, d1', f1⟩
theorem tail_sgn {x : Wd} {i j : Nat} (hi : i < 3) (hj : i < j) (h : x.k = "mark" ∧ x.v = .str (sgn i)) : Tail j x := by
 refine Tail.mark h ?_ (fun _ => ?_) (fun k h1 h2 => ?_)
 ·match i, hi with
  | 0, _ => decide +kernel
  | 1, _ => decide +kernel
  | 2, _ => decide +kernel
 ·match i, hi with
  | 0, _ => decide +kernel
  | 1, _ => decide +kernel
  | 2, _ => decide +kernel
 ·match i, k, hi, h2 with
  | 0, 1, _, _ => decide +kernel
  | 0, 2, _, _ => decide +kernel
  | 1, 2, _, _ => decide +kernel
  | 0, 0, _, _ => omega
  | 1, 0, _, _ => omega
  | 1, 1, _, _ => omega
  | 2, 0, _, _ => omega
  | 2, 1, _, _ => omega
  | 2, 2, _, _ => omega
theorem nxt_add (s : RS) (n k : Nat) (td md : List D) (b : Int) : nxt { s with a := s.a + n, td := td, md := md, many := b } k = nxt s (n + k) := by
 unfold nxt RS.now
 simp only [Nat.add_assoc]
theorem tcs {m : Int} {as : List Th} (h : tmsOk m as) : ∀ x ∈ as, TC m x ∧ tmOk m x := fun x hx => ⟨tc_ok m (size x) x (Nat.le_refl _) (tmsOk_mem h x hx), tmsOk_mem h x hx⟩
theorem same_end {m : Int} {a b : Th} {s : RS} {td md : List D} (hb : tmOk m b) (hw : WOk s) (hm : s.many = m) (ha : AtW s.w s.a (tkT m b)) (ht : s.td = tTerm :: tMake "same" :: td) (hd : s.md = itm a :: md) (b1 : td.length + 1 + 8 * (tkT m b).length ≤ LL) (b2 : md.length + 1 + 4 * (tkT m b).length ≤ LL) (htl : Tail 4 (nxt s (tkT m b).length)) :
  ∃ k, k ≤ 1 + 12 * (tkT m b).length ∧ Go k s { s with a := s.a + (tkT m b).length, td := td, md := itm (.same a b) :: md } := by
 obtain ⟨k, l, g⟩ := tc_ok m (size b) b (Nat.le_refl _) hb s (tMake "same" :: td) hw hm ha ht (by rw [List.length_cons]; omega) (by rw [hd, List.length_cons]; omega) htl
 refine ⟨k + 1, by omega, g.trans ?_⟩
 exact mk2 (s := { s with a := s.a + (tkT m b).length, td := tMake "same" :: td, md := itm b :: s.md }) ⟨hw.n, hw.f⟩ rfl (by show itm b :: s.md = _; rw [hd]) (by show (itm b :: s.md).length < lim; rw [hd, List.length_cons, List.length_cons]; have := tkT_pos m hb; exact ltm (by omega)) (itm_same a b)
theorem len_A (m : Int) (as : List Th) : as.length ≤ (tkA m as).length := by
 cases as with
 | nil => exact Nat.zero_le _
 | cons x r =>
  rw [tkA, List.length_cons, List.length_cons, List.length_append]
  have : ∀ r : List Th, r.length ≤ (tkR m r).length := fun r => by
   induction r with
   | nil => exact Nat.zero_le _
   | cons y r ih => rw [tkR, List.length_cons, List.length_cons, List.length_append]; omega
  have := this r
  omega
theorem p_rel {f : Str} {as : List Th} {m : Int} (ho : tmsOk m as) : PC 3 m (.name f :: tkA m as) (.rel f as) := by
 intro s td hw hm ha ht b1 b2 htl
 obtain ⟨h1, h2, h3⟩ := now_at ha
 obtain ⟨_, ha2⟩ := ha
 rw [List.length_cons] at b1 b2 htl ⊢
 have hl := len_A m as
 have g0 : Go 1 s { s with a := s.a + 1, td := tArgs :: tRel f :: td } := lvl3 ht (fun n r t h => do_not_n (n + 1) (f := f) h ⟨hw.n, hw.f⟩ h1 h2 h3 (lt2 (by show td.length ≤ LL; omega)))
 obtain ⟨k1, l1, g1⟩ := args_ok m as (tcs ho) { s with a := s.a + 1, td := tArgs :: tRel f :: td } (tRel f :: td) ⟨hw.n, hw.f⟩ hm ha2 rfl (by show (tArgs :: tRel f :: td).length + _ ≤ _; rw [List.length_cons, List.length_cons]; omega) (by show s.md.length + _ < _; omega) (by
  have := htl.1
  rw [Nat.add_comm, ← nxt_add s 1 _ (tArgs :: tRel f :: td) s.md s.many] at this
  exact this)
 have w2 : Wk { s with a := s.a + 1 + (tkA m as).length, td := td, md := .int (as.length : Nat) :: ((as.map itm).reverse ++ s.md) } (tRel f) { s with a := s.a + 1 + (tkA m as).length, td := td, md := itm (.rel f as) :: s.md } := fun n r t h =>
  work_rel n h (do_rel_r (n + 2) (f := f) (ts := as) (md := s.md) h ⟨hw.n, hw.f⟩ rfl (by show (D.int (as.length : Nat) :: ((as.map itm).reverse ++ s.md)).length < lim; rw [List.length_cons, List.length_append, List.length_reverse, List.length_map]; exact ltm (by omega)) (by
   have := htl.2.1 (by omega)
   rw [Nat.add_comm] at this
   rw [show s.a + 1 + (tkA m as).length = s.a + (1 + (tkA m as).length) by omega]
   exact this))
 refine ⟨1 + (k1 + 1), by omega, ?_⟩
 rw [show s.a + ((tkA m as).length + 1) = s.a + 1 + (tkA m as).length by omega]
 exact g0.trans (g1.trans (Go.one rfl w2))
theorem p_same {a b : Th} {m : Int} (oa : tmOk m a) (ob : tmOk m b) : PC 3 m (tkT m a ++ .mark "=" :: tkT m b) (.same a b) := by
 intro s td hw hm ha ht b1 b2 htl
 rw [List.length_append, List.length_cons] at b1 b2 htl ⊢
 obtain ⟨ha1, ha2⟩ := AtW.app ha
 cases a with
 | var k =>
  rw [tkT] at ha1 ha2 b1 b2 htl ⊢
  rw [List.length_singleton] at ha2 b1 b2 htl ⊢
  rw [tmOk] at oa
  obtain ⟨h1, h2, h3⟩ := now_at ha1
  obtain ⟨q1, q2, q3⟩ := nxt_at ha2
  obtain ⟨_, ha3⟩ := ha2
  have g0 : Go 1 s { s with a := s.a + 2, td := tTerm :: tMake "same" :: td, md := itm (.var k) :: s.md } := lvl3 ht (fun n r t h => by
   have := do_not_v (n + 1) (k := m - 1 - k) h ⟨hw.n, hw.f⟩ h1 h2 (by show m - 1 - k < s.many; omega) h3 (ltm (by show s.md.length ≤ LL; omega)) (is_of q1 q2) (lt2 (by show td.length ≤ LL; omega))
   have e : ({ s with td := td } : RS).many - 1 - (m - 1 - k) = k := by show s.many - 1 - (m - 1 - k) = k; omega
   rw [e] at this
   exact this)
  obtain ⟨k1, l1, g1⟩ := same_end (a := .var k) (m := m) (s := { s with a := s.a + 2, td := tTerm :: tMake "same" :: td, md := itm (.var k) :: s.md }) (td := td) (md := s.md) ob ⟨hw.n, hw.f⟩ hm ha3 rfl rfl (by omega) (by omega) (by
   rw [nxt_add s 2 _ _ _ s.many, show 2 + (tkT m b).length = 1 + ((tkT m b).length + 1) by omega]
   exact htl.up (by omega))
  refine ⟨1 + k1, by omega, ?_⟩
  rw [show s.a + (1 + ((tkT m b).length + 1)) = s.a + 2 + (tkT m b).length by omega]
  exact g0.trans g1
 | call f as =>
  rw [tkT] at ha1 ha2 b1 b2 htl ⊢
  rw [List.length_cons] at ha2 b1 b2 htl ⊢
  rw [tmOk] at oa
  obtain ⟨h1, h2, h3⟩ := now_at ha1
  obtain ⟨_, ha3⟩ := ha1
  obtain ⟨q1, q2, q3⟩ := nxt_at ha2
  obtain ⟨_, ha4⟩ := ha2
  have hl := len_A m as
  have g0 : Go 1 s { s with a := s.a + 1, td := tArgs :: tRel f :: td } := lvl3 ht (fun n r t h => do_not_n (n + 1) (f := f) h ⟨hw.n, hw.f⟩ h1 h2 h3 (lt2 (by show td.length ≤ LL; omega)))
  obtain ⟨k1, l1, g1⟩ := args_ok m as (tcs oa.2) { s with a := s.a + 1, td := tArgs :: tRel f :: td } (tRel f :: td) ⟨hw.n, hw.f⟩ hm ha3 rfl (by show (tArgs :: tRel f :: td).length + _ ≤ _; rw [List.length_cons, List.length_cons]; omega) (by show s.md.length + _ < _; omega) (by
   have : (nxt s (1 + (tkA m as).length)).is "mark" "(" = false := by
    rw [Nat.add_comm]; exact is_not (is_of q1 q2) (by decide +kernel)
   rw [← nxt_add s 1 _ (tArgs :: tRel f :: td) s.md s.many] at this
   exact this)
  have w2 : Wk { s with a := s.a + 1 + (tkA m as).length, td := td, md := .int (as.length : Nat) :: ((as.map itm).reverse ++ s.md) } (tRel f) { s with a := s.a + 1 + (tkA m as).length + 1, td := tTerm :: tMake "same" :: td, md := itm (.call f as) :: s.md } := fun n r t h =>
   work_rel n h (do_rel_s (n + 2) (f := f) (ts := as) (md := s.md) h ⟨hw.n, hw.f⟩ rfl (by show (D.int (as.length : Nat) :: ((as.map itm).reverse ++ s.md)).length < lim; rw [List.length_cons, List.length_append, List.length_reverse, List.length_map]; exact ltm (by omega)) (by
    rw [show s.a + 1 + (tkA m as).length = s.a + ((tkA m as).length + 1) by omega]
    exact is_of q1 q2) (lt2 (by show td.length ≤ LL; omega)))
  obtain ⟨k3, l3, g3⟩ := same_end (a := .call f as) (m := m) (s := { s with a := s.a + 1 + (tkA m as).length + 1, td := tTerm :: tMake "same" :: td, md := itm (.call f as) :: s.md }) (td := td) (md := s.md) ob ⟨hw.n, hw.f⟩ hm (by
    rw [show s.a + 1 + (tkA m as).length + 1 = s.a + ((tkA m as).length + 1) + 1 by omega]; exact ha4) rfl rfl (by omega) (by omega) (by
   rw [show s.a + 1 + (tkA m as).length + 1 = s.a + ((tkA m as).length + 2) by omega, nxt_add s ((tkA m as).length + 2) _ _ _ s.many, show (tkA m as).length + 2 + (tkT m b).length = (tkA m as).length + 1 + ((tkT m b).length + 1) by omega]
   exact htl.up (by omega))
  refine ⟨1 + (k1 + (1 + k3)), by omega, ?_⟩
  rw [show s.a + ((tkA m as).length + 1 + ((tkT m b).length + 1)) = s.a + 1 + (tkA m as).length + 1 + (tkT m b).length by omega]
  exact g0.trans (g1.trans ((Go.one rfl w2).trans g3))
 | _ => exact oa.elim
theorem p_no {m : Int} : PC 3 m [.told "no"] .no := by
 intro s td hw hm ha ht b1 b2 htl
 obtain ⟨h1, h2, h3⟩ := now_at ha
 rw [List.length_singleton] at b1 b2 htl ⊢
 exact ⟨1, by omega, lvl3 ht (fun n r t h => do_not_no (n + 1) h ⟨hw.n, hw.f⟩ (is_of h1 h2) h1 (ltm (by show s.md.length ≤ LL; omega)))⟩
theorem p_not {a : Th} {m : Int} {ts : List Tk} (h : PC 3 m ts a) : PC 3 m (.mark "~" :: ts) (.imp a .no) := by
 intro s td hw hm ha ht b1 b2 htl
 obtain ⟨h1, h2, h3⟩ := now_at ha
 obtain ⟨_, ha2⟩ := ha
 rw [List.length_cons] at b1 b2 htl ⊢
 have g0 : Go 1 s { s with a := s.a + 1, td := tLevel 3 :: tNot :: td } := lvl3 ht (fun n r t h => do_not_not (n + 1) h ⟨hw.n, hw.f⟩ (is_of h1 h2) (lt2 (by show td.length ≤ LL; omega)))
 obtain ⟨k1, l1, g1⟩ := h { s with a := s.a + 1, td := tLevel 3 :: tNot :: td } (tNot :: td) ⟨hw.n, hw.f⟩ hm ha2 rfl (by rw [List.length_cons]; omega) (by show s.md.length + _ ≤ _; omega) (by
  rw [nxt_add s 1 _ _ s.md s.many, Nat.add_comm]; exact htl)
 have w2 : Wk { s with a := s.a + 1 + ts.length, td := td, md := itm a :: s.md } tNot { s with a := s.a + 1 + ts.length, td := td, md := itm (.imp a .no) :: s.md } := fun n r t h =>
  work_make_not n h (make_not_ok (n + 3) (T := a) (md := s.md) h rfl (by show (itm a :: s.md).length < lim; rw [List.length_cons]; exact ltm (by omega)))
 refine ⟨1 + (k1 + 1), by omega, ?_⟩
 rw [show s.a + (ts.length + 1) = s.a + 1 + ts.length by omega]
 exact g0.trans (g1.trans (Go.one rfl w2))
theorem p_br {a : Th} {m : Int} {ts : List Tk} (h : SC m ts a) : PC 3 m (.mark "(" :: (ts ++ [.mark ")"])) a := by
 intro s td hw hm ha ht b1 b2 htl
 obtain ⟨h1, h2, h3⟩ := now_at ha
 obtain ⟨_, ha2⟩ := ha
 obtain ⟨ha3, ha4⟩ := AtW.app ha2
 rw [List.length_cons, List.length_append, List.length_singleton] at b1 b2 htl ⊢
 have q := nxt_at (s := s) (n := 1 + ts.length) (by rw [← Nat.add_assoc]; exact ha4)
 have g0 : Go 1 s { s with a := s.a + 1, td := tStat :: tTake ")" :: td } := lvl3 ht (fun n r t h => do_not_br (n + 1) h ⟨hw.n, hw.f⟩ (is_of h1 h2) (lt2 (by show td.length ≤ LL; omega)))
 obtain ⟨k1, l1, g1⟩ := h { s with a := s.a + 1, td := tStat :: tTake ")" :: td } (tTake ")" :: td) ⟨hw.n, hw.f⟩ hm ha3 rfl (by rw [List.length_cons]; omega) (by show s.md.length + _ ≤ _; omega) (by
  rw [nxt_add s 1 _ _ s.md s.many]; exact tail_close ⟨q.1, q.2.1⟩)
 have w2 : Wk { s with a := s.a + 1 + ts.length, td := td, md := itm a :: s.md } (tTake ")") { s with a := s.a + 1 + ts.length + 1, td := td, md := itm a :: s.md } := fun n r t h =>
  work_take n h (need_word_ok (n + 3) h ⟨hw.n, hw.f⟩ (by decide +kernel) (by decide +kernel) (by
   rw [Nat.add_assoc]; exact is_of q.1 q.2.1))
 refine ⟨1 + (k1 + 1), by omega, ?_⟩
 rw [show s.a + (ts.length + 1 + 1) = s.a + 1 + ts.length + 1 by omega]
 exact g0.trans (g1.trans (Go.one rfl w2))
theorem rest_i_go {s : RS} {i : Nat} {td : List D} (hi : i < 3) (h0 : 0 < i) (hw : WOk s) (ht : s.td = tRest (i : Nat) :: td) (hm : s.now.is "mark" (sgn i) = true) (hl : td.length ≤ LL) : Go 1 s { s with a := s.a + 1, td := tLevel ((i + 1 : Nat) : Int) :: tMake (knd i) :: tRest (i : Nat) :: td } :=
 Go.one ht (fun n r t h => work_rest n h (do_rest_i (n + 3) h ⟨hw.n, hw.f⟩ hi h0 hm (lt3 hl)))
theorem c_bin {a b T : Th} {i : Nat} {m : Int} {ts ts' : List Tk} (hi : i < 3) (h0 : 0 < i) (ca : CC i m ts a) (pb : PC (i + 1) m ts' b) (e : jn (.tup [.str (knd i), enc a, enc b]) [a, b] = itm T) : CC i m (ts ++ .mark (sgn i) :: ts') T := by
 intro s td hw hm ha ht b1 b2 htl
 obtain ⟨ha1, ha2⟩ := AtW.app ha
 obtain ⟨q1, q2, q3⟩ := nxt_at ha2
 obtain ⟨_, ha3⟩ := ha2
 rw [List.length_append, List.length_cons] at b1 b2 htl ⊢
 obtain ⟨k1, l1, g1⟩ := ca s td hw hm ha1 ht (by omega) (by omega) (tail_sgn hi (by omega) ⟨q1, q2⟩)
 have g2 := rest_i_go (s := { s with a := s.a + ts.length, td := tRest (i : Nat) :: td, md := itm a :: s.md }) hi h0 ⟨hw.n, hw.f⟩ rfl (is_of q1 q2) (by omega)
 obtain ⟨k3, l3, g3⟩ := pb { s with a := s.a + ts.length + 1, td := tLevel ((i + 1 : Nat) : Int) :: tMake (knd i) :: tRest (i : Nat) :: td, md := itm a :: s.md } (tMake (knd i) :: tRest (i : Nat) :: td) ⟨hw.n, hw.f⟩ hm ha3 rfl (by rw [List.length_cons, List.length_cons]; omega) (by show (itm a :: s.md).length + _ ≤ _; rw [List.length_cons]; omega) (by
  rw [Nat.add_assoc, nxt_add s (ts.length + 1) _ _ _ s.many, show ts.length + 1 + ts'.length = ts.length + (ts'.length + 1) by omega]; exact htl)
 have g4 := mk2 (s := { s with a := s.a + ts.length + 1 + ts'.length, td := tMake (knd i) :: tRest (i : Nat) :: td, md := itm b :: itm a :: s.md }) (td := tRest (i : Nat) :: td) (md := s.md) (w := knd i) (a := a) (b := b) (T := T) ⟨hw.n, hw.f⟩ rfl rfl (by show (itm b :: itm a :: s.md).length < lim; rw [List.length_cons, List.length_cons]; exact ltm (by omega)) e
 refine ⟨k1 + (1 + (k3 + 1)), by omega, ?_⟩
 rw [show s.a + (ts.length + (ts'.length + 1)) = s.a + ts.length + 1 + ts'.length by omega]
 exact g1.trans (g2.trans (g3.trans g4))
theorem d_imp {a b : Th} {m : Int} {ts ts' : List Tk} (pa : PC 1 m ts a) (pb : PC 0 m ts' b) : DC 0 m (ts ++ .mark "->" :: ts') (.imp a b) := by
 intro s td hw hm ha ht b1 b2 htl
 obtain ⟨ha1, ha2⟩ := AtW.app ha
 obtain ⟨q1, q2, q3⟩ := nxt_at ha2
 obtain ⟨_, ha3⟩ := ha2
 rw [List.length_append, List.length_cons] at b1 b2 htl ⊢
 obtain ⟨k1, l1, g1⟩ := pa s (tRest 0 :: td) hw hm ha1 ht (by rw [List.length_cons]; omega) (by omega) (tail_sgn (i := 0) (by omega) (by omega) ⟨q1, q2⟩)
 have g2 : Go 1 { s with a := s.a + ts.length, td := tRest 0 :: td, md := itm a :: s.md } { s with a := s.a + ts.length + 1, td := tLevel 0 :: tMake "if" :: td, md := itm a :: s.md } :=
  Go.one rfl (fun n r t h => work_rest n h (do_rest_0 (n + 3) h ⟨hw.n, hw.f⟩ (is_of q1 q2) (lt2 (by show td.length ≤ LL; omega))))
 obtain ⟨k3, l3, g3⟩ := pb { s with a := s.a + ts.length + 1, td := tLevel 0 :: tMake "if" :: td, md := itm a :: s.md } (tMake "if" :: td) ⟨hw.n, hw.f⟩ hm ha3 rfl (by rw [List.length_cons]; omega) (by show (itm a :: s.md).length + _ ≤ _; rw [List.length_cons]; omega) (by
  rw [Nat.add_assoc, nxt_add s (ts.length + 1) _ _ _ s.many, show ts.length + 1 + ts'.length = ts.length + (ts'.length + 1) by omega]; exact htl)
 have g4 := mk2 (s := { s with a := s.a + ts.length + 1 + ts'.length, td := tMake "if" :: td, md := itm b :: itm a :: s.md }) (td := td) (md := s.md) (w := "if") (a := a) (b := b) (T := .imp a b) ⟨hw.n, hw.f⟩ rfl rfl (by show (itm b :: itm a :: s.md).length < lim; rw [List.length_cons, List.length_cons]; exact ltm (by omega)) (itm_imp a b)
 refine ⟨k1 + (1 + (k3 + 1)), by omega, ?_⟩
 rw [show s.a + (ts.length + (ts'.length + 1)) = s.a + ts.length + 1 + ts'.length by omega]
 exact g1.trans (g2.trans (g3.trans g4))
theorem s_bound {a T : Th} {f wd : Str} {m : Int} {ts : List Tk} (hb : wd = "all" ∨ wd = "some") (e : jn (.tup [.str wd, .str f, enc a]) [a] = itm T) (h : SC (m + 1) ts a) : SC m (.told wd :: .var m :: .mark ":" :: .name f :: .mark "." :: ts) T := by
 intro s td hw hm ha ht b1 b2 htl
 obtain ⟨h1, h2, h3⟩ := now_at ha
 obtain ⟨_, hb2⟩ := ha
 obtain ⟨p1, p2, p3⟩ := nxt_at (s := s) (n := 1) hb2
 obtain ⟨_, hb3⟩ := hb2
 obtain ⟨p4, p5, p6⟩ := nxt_at (s := s) (n := 2) hb3
 obtain ⟨_, hb4⟩ := hb3
 obtain ⟨p7, p8, p9⟩ := nxt_at (s := s) (n := 3) hb4
 obtain ⟨_, hb5⟩ := hb4
 obtain ⟨p10, p11, p12⟩ := nxt_at (s := s) (n := 4) hb5
 obtain ⟨_, hb6⟩ := hb5
 have e5 : (Tk.told wd :: Tk.var m :: Tk.mark (Str.ofString ":") :: Tk.name f :: Tk.mark (Str.ofString ".") :: ts).length = 5 + ts.length := by simp only [List.length_cons]; omega
 rw [e5] at b1 b2 htl ⊢
 have g0 : Go 1 s { s with a := s.a + 5, many := s.many + 1, td := tStat :: tBound wd f :: td } := Go.one ht (fun n r t hd =>
  work_statement n hd (do_stat_b n (wd := wd) (f := f) hd ⟨hw.n, hw.f⟩ hb ⟨h1, h2⟩ h3 ⟨p1, by rw [show ({ s with td := td } : RS).many = m from hm]; exact p2⟩ (is_of p4 p5) ⟨p7, p8⟩ p9 (is_of p10 p11) (lt2 (by show td.length ≤ LL; omega))))
 obtain ⟨k1, l1, g1⟩ := h { s with a := s.a + 5, many := s.many + 1, td := tStat :: tBound wd f :: td } (tBound wd f :: td) ⟨hw.n, hw.f⟩ (by show s.many + 1 = m + 1; rw [hm]) hb6 rfl (by rw [List.length_cons]; omega) (by show s.md.length + _ ≤ _; omega) (by
  rw [nxt_add s 5 _ _ s.md _]; exact htl)
 have w2 : Wk { s with a := s.a + 5 + ts.length, many := s.many + 1, td := td, md := itm a :: s.md } (tBound wd f) { s with a := s.a + 5 + ts.length, td := td, md := itm T :: s.md } := fun n r t hd => by
  obtain ⟨t', e1, d1, f1⟩ := make_bound_ok (n + 3) (wd := wd) (nm := f) (T := a) (md := s.md) hd rfl (by show (itm a :: s.md).length < lim; rw [List.length_cons]; exact ltm (by omega))
  rw [e] at d1
  have q : s.many + 1 - 1 = s.many := by omega
  have d2 : Rd t' r { s with a := s.a + 5 + ts.length, td := td, md := itm T :: s.md, many := s.many + 1 - 1 } := d1
  rw [q] at d2
  exact work_bound n hd ⟨t', e1, d2, f1⟩
 refine ⟨1 + (k1 + 1), by omega, ?_⟩
 rw [show s.a + (5 + ts.length) = s.a + 5 + ts.length by omega]
 exact g0.trans (g1.trans (Go.one rfl w2))
theorem hd_app {ts ts' : List Tk} (h : Hd ts) : Hd (ts ++ ts') := by
 obtain ⟨x, q, rfl, h1, h2⟩ := h
 exact ⟨x, q ++ ts', rfl, h1, h2⟩
theorem hd_T (m : Int) {a : Th} (h : tmOk m a) : Hd (tkT m a) := by
 cases a with
 | var k => rw [tkT]; exact ⟨_, _, rfl, (fun e => by cases e), (fun e => by cases e)⟩
 | call f as => rw [tkT]; exact ⟨_, _, rfl, (fun e => by cases e), (fun e => by cases e)⟩
 | _ => exact h.elim
theorem told_ne {a b : Str} (h : a ≠ b) : Tk.told a ≠ .told b := fun e => by injection e with e; exact h e
theorem pt_ok {A : Th} {r : Nat} {m : Int} {ts : List Tk} (h : Pt A r m ts) : Al r m ts A := by
 induction h with
 | rel hf ho => exact al_3 (by omega) ⟨_, _, rfl, (fun e => by cases e), (fun e => by cases e)⟩ (p_rel ho)
 | same oa ob => exact al_3 (by omega) (hd_app (hd_T _ oa)) (p_same oa ob)
 | no => exact al_3 (by omega) ⟨_, _, rfl, told_ne (by decide +kernel), told_ne (by decide +kernel)⟩ p_no
 | not _ hr ih => exact al_3 (by omega) ⟨_, _, rfl, (fun e => by cases e), (fun e => by cases e)⟩ (p_not (ih.p 3 (by omega) (by omega)))
 | and _ hr _ hr' iha ihb => exact al_2 (hd_app (iha.h (by omega))) (c_bin (i := 2) (by omega) (by omega) (iha.c 2 (by omega) (by omega) (by omega)) (ihb.p 3 (by omega) (by omega)) (itm_and _ _))
 | or _ hr _ hr' iha ihb => exact al_1 (hd_app (iha.h (by omega))) (c_bin (i := 1) (by omega) (by omega) (iha.c 1 (by omega) (by omega) (by omega)) (ihb.p 2 (by omega) (by omega)) (itm_or _ _))
 | imp _ hr _ hr' iha ihb => exact al_0 (hd_app (iha.h (by omega))) (d_imp (iha.p 1 (by omega) (by omega)) (ihb.p 0 (by omega) (by omega)))
 | all hs _ ih => exact ⟨fun h => by omega, fun i _ h => by omega, fun i _ _ h => by omega, s_bound (.inl rfl) (itm_all _ _) ih.s⟩
 | some hs _ ih => exact ⟨fun h => by omega, fun i _ h => by omega, fun i _ _ h => by omega, s_bound (.inr rfl) (itm_some _ _) ih.s⟩
 | br _ ih => exact al_3 (by omega) ⟨_, _, rfl, (fun e => by cases e), (fun e => by cases e)⟩ (p_br ih.s)
theorem sfldG {x : Str} {d : D} {fv : Sm MX S} {fs fs' : List (Str × D)} {r : Nat} {t t' : List MO} {rho : List (Option S)} (hv : escf fv ⟨some (.d (.o r)) :: rho, t⟩ = .ok (.d d) ⟨some (.d (.o r)) :: rho, t'⟩) (h : t'[r]? = some (.ins "Reader" fs)) (hl : fs.length < 999) (hp : putFD x d fs = fs') :
  sFldM ["Reader"] x fv (eVar 0) ⟨some (.d (.o r)) :: rho, t⟩ = .ok .nx ⟨some (.d (.o r)) :: rho, t'.set r (.ins "Reader" fs')⟩ := by
 unfold sFldM
 rw [hv]
 have e : insAt ⟨some (.d (.o r)) :: rho, t'⟩ (.d (.o r)) = some (r, (Str.ofString "Reader"), fs) := by
  unfold insAt rd
  simp only [h]
 simp only [opd, eVar, List.getElem?_cons_zero, Rs.bind_ok, e, hp]
 rw [if_pos ⟨memR, hl⟩]
theorem init_ok (n : Nat) (t0 : List MO) (ws : List Wd) (l m : Int) : ∃ t', mir (n + 1) .Reader___init__ [.d (.o t0.length), .d (.lst (ws.map Wd.d)), .d (.int l), .d (.int m)] (t0 ++ [.ins "Reader" []]) = .ok (.d .non) t' ∧ Rd t' t0.length ⟨ws, 0, l, [], [], m⟩ ∧ Fr t0.length (t0 ++ [.ins "Reader" []]) t' := by
 have g0 : (t0 ++ [MO.ins "Reader" []])[t0.length]? = some (.ins "Reader" []) := getlast
 let rho : List (Option S) := [some (.d (.lst (ws.map Wd.d))), some (.d (.int l)), some (.d (.int m))]
 have s1 := sfldG (rho := rho) (x := "words") (fv := eVar 1) (d := .lst (ws.map Wd.d)) (fs' := [("words", .lst (ws.map Wd.d))]) rfl g0 (by show 0 < 999; omega) (by kernel_rfl)
 have g1 : ((t0 ++ [MO.ins "Reader" []]).set t0.length (.ins "Reader" [("words", .lst (ws.map Wd.d))]))[t0.length]? = some (.ins "Reader" [("words", .lst (ws.map Wd.d))]) := getset_eq g0
 have s2 := sfldG (rho := rho) (x := "at") (fv := eC (.int 0)) (d := .int 0) (fs' := [("words", .lst (ws.map Wd.d)), ("at", .int 0)]) rfl g1 (by show 1 < 999; omega) (by kernel_rfl)
 have g2 := getset_eq (o := MO.ins "Reader" [("words", .lst (ws.map Wd.d)), ("at", .int 0)]) g1
 have s3 := sfldG (rho := rho) (x := "length") (fv := eVar 2) (d := .int l) (fs' := [("words", .lst (ws.map Wd.d)), ("at", .int 0), ("length", .int l)]) rfl g2 (by show 2 < 999; omega) (by kernel_rfl)
 have g3 := getset_eq (o := MO.ins "Reader" [("words", .lst (ws.map Wd.d)), ("at", .int 0), ("length", .int l)]) g2
 have f3 : Fr t0.length (t0 ++ [.ins "Reader" []]) ((((t0 ++ [MO.ins "Reader" []]).set t0.length (.ins "Reader" [("words", .lst (ws.map Wd.d))])).set t0.length (.ins "Reader" [("words", .lst (ws.map Wd.d)), ("at", .int 0)])).set t0.length (.ins "Reader" [("words", .lst (ws.map Wd.d)), ("at", .int 0), ("length", .int l)])) := (Fr.set (Nat.le_refl _)).trans ((Fr.set (Nat.le_refl _)).trans (Fr.set (Nat.le_refl _)))
 generalize hT : (((t0 ++ [MO.ins "Reader" []]).set t0.length (.ins "Reader" [("words", .lst (ws.map Wd.d))])).set t0.length (.ins "Reader" [("words", .lst (ws.map Wd.d)), ("at", .int 0)])).set t0.length (.ins "Reader" [("words", .lst (ws.map Wd.d)), ("at", .int 0), ("length", .int l)]) = T at s3 g3 f3
 have hTl := getlt g3
 have nl : ∀ (t : List MO), escf (M := MX) (eNewL aNil) ⟨some (.d (.o t0.length)) :: rho, t⟩ = .ok (.d (.o t.length)) ⟨some (.d (.o t0.length)) :: rho, t ++ [.lst []]⟩ := fun t => by
  unfold escf eNewL
  walk_at "ex"
 have s4 := sfldG (x := "todo") (fs' := [("words", .lst (ws.map Wd.d)), ("at", .int 0), ("length", .int l), ("todo", .o T.length)]) (nl T) (getapp g3) (by show 3 < 999; omega) (by kernel_rfl)
 have g4 := getset_eq (o := MO.ins "Reader" [("words", .lst (ws.map Wd.d)), ("at", .int 0), ("length", .int l), ("todo", .o T.length)]) (getapp (o := .lst []) g3)
 have k4 : ((T ++ [MO.lst []]).set t0.length (.ins "Reader" [("words", .lst (ws.map Wd.d)), ("at", .int 0), ("length", .int l), ("todo", .o T.length)]))[T.length]? = some (.lst []) := (getset_ne (by omega)).trans getlast
 have l4 : ((T ++ [MO.lst []]).set t0.length (.ins "Reader" [("words", .lst (ws.map Wd.d)), ("at", .int 0), ("length", .int l), ("todo", .o T.length)])).length = T.length + 1 := by rw [List.length_set, List.length_append]; rfl
 generalize hU : (T ++ [MO.lst []]).set t0.length (.ins "Reader" [("words", .lst (ws.map Wd.d)), ("at", .int 0), ("length", .int l), ("todo", .o T.length)]) = U at s4 g4 k4 l4
 have f4 : Fr t0.length T U := by rw [← hU]; exact (Fr.app (by omega)).trans (Fr.set (Nat.le_refl _))
 have s5 := sfldG (x := "made") (fs' := [("words", .lst (ws.map Wd.d)), ("at", .int 0), ("length", .int l), ("todo", .o T.length), ("made", .o U.length)]) (nl U) (getapp g4) (by show 4 < 999; omega) (by kernel_rfl)
 have g5 := getset_eq (o := MO.ins "Reader" [("words", .lst (ws.map Wd.d)), ("at", .int 0), ("length", .int l), ("todo", .o T.length), ("made", .o U.length)]) (getapp (o := .lst []) g4)
 have s6 := sfldG (rho := rho) (x := "many") (fv := eVar 3) (d := .int m) (fs' := flds (ws.map Wd.d) 0 l m T.length U.length) rfl g5 (by show 5 < 999; omega) (by kernel_rfl)
 refine ⟨_, ?_, ⟨T.length, U.length, getset_eq g5, (getset_ne (by omega)).trans ((getset_ne (by omega)).trans (getapp k4)), (getset_ne (by omega)).trans ((getset_ne (by omega)).trans getlast), by omega, by omega, by omega⟩, f3.trans (f4.trans ((Fr.app (by omega)).trans ((Fr.set (Nat.le_refl _)).trans (Fr.set (Nat.le_refl _)))))⟩
 show fnM 4 (m_Reader___init__ (mir n)) [.d (.o t0.length), .d (.lst (ws.map Wd.d)), .d (.int l), .d (.int m)] (t0 ++ [.ins "Reader" []]) = _
 exact fnM_n (M := MX) ((seq_nx s1).trans ((seq_nx s2).trans ((seq_nx s3).trans ((seq_nx s4).trans ((seq_nx s5).trans s6)))))
theorem t_todo {r : Nat} {s : RS} {t : List MO} {rho : List (Option S)} (h : Rd t r s) : (tOf (eBinO (dEq0 true) (eFld ["Reader"] "todo" (eVar 0)) (eLst aNil)) : Sm MX Bool) ⟨some (.d (.o r)) :: rho, t⟩ = .ok (!s.td.isEmpty) ⟨some (.d (.o r)) :: rho, t⟩ := by
 obtain ⟨k, j, h1, h2, _⟩ := h
 have e : rdO ⟨some (.d (.o r)) :: rho, t⟩ (.d (.o k)) = some (.lst s.td.reverse) := by
  unfold rdO listAt rd
  simp only [h2]
 unfold tOf eBinO
 rw [opd_t h1]
 walk_at "ex"
 rw [e]
 simp only [Option.bind_some, dEq0]
 walk_at "ex"
 cases s.td with
 | nil => rfl
 | cons x q =>
  rw [List.reverse_cons]
  cases q.reverse <;> rfl
theorem loop_go (n : Nat) {r k : Nat} {s s' : RS} (g : Go k s s') (he : s'.td = []) : ∀ (N : Nat) (t : List MO) (x : Option S), k < N → Rd t r s → ∃ t', sWhile (M := MX) (tOf (eBinO (dEq0 true) (eFld ["Reader"] "todo" (eVar 0)) (eLst aNil))) (sExpr (eCall (mir (n + 8) .Reader_work) (aMeth "Reader" "work" (eVar 0) (aCons (escf (ePopO (eFld ["Reader"] "todo" (eVar 0)))) aNil)))) N ⟨[some (.d (.o r)), x], t⟩ = .ok .nx ⟨[some (.d (.o r)), x], t'⟩ ∧ Rd t' r s' ∧ Fr r t t' := by
 induction g with
 | nil s =>
  intro N t x hN hd
  match N, hN with
  | N + 1, _ =>
   refine ⟨t, ?_, hd, Fr.refl _ _⟩
   unfold sWhile
   rw [t_todo hd, he]
   rfl
 | step e w _ ih =>
  intro N t x hN hd
  match N, hN with
  | N + 1, hN =>
   obtain ⟨t1, e1, d1, f1⟩ := pop_todo (rho := [x]) hd e
   obtain ⟨t2, e2, d2, f2⟩ := w n r t1 d1
   obtain ⟨t3, e3, d3, f3⟩ := ih he N t2 x (by omega) d2
   refine ⟨t3, ?_, d3, f1.trans (f2.trans f3)⟩
   have b := ex_ok (rc1 (nm := "work") (f := ePopO (eFld ["Reader"] "todo" (eVar 0))) (rho := [x]) (rho1 := [some (.d (.o r)), x]) (t1 := t1) hd (by kernel_rfl) (by unfold escf; rw [e1]; rfl) e2)
   unfold sWhile
   rw [t_todo hd, e]
   simp only [Rs.bind_ok, List.isEmpty_cons, Bool.not_false, if_true]
   rw [b]
   exact e3
theorem run_ok (n : Nat) {r k : Nat} {s s' : RS} {t : List MO} {d y : D} {md : List D} (hw : WOk s) (h : Rd t r s) (h0 : s.td = []) (g : Go k { s with td := [d] } s') (he : s'.td = []) (hk : k < 1000000000) (hm : s'.md = y :: md) (ha : s'.w.length ≤ s'.a) :
  ∃ t', mir (n + 9) .Reader_run [.d (.o r), .d (.lst [d])] t = .ok (.d y) t' ∧ Fr r t t' := by
 obtain ⟨t1, e1, d1, f1⟩ := plan_st (n + 7) [some (.d (.lst [d]))] [d] h (by rw [h0]; show 0 + 1 ≤ 1000000; omega)
 rw [h0] at d1
 obtain ⟨t2, e2, d2, f2⟩ := loop_go n g he whileN t1 (some (.d (.lst [d]))) hk d1
 obtain ⟨t3, e3, d3, f3⟩ := pop_made (rho := [some (.d (.lst [d]))]) d2 hm
 refine ⟨t3, ?_, f1.trans (f2.trans f3)⟩
 show fnM 2 (m_Reader_run (mir (n + 8))) [.d (.o r), .d (.lst [d])] t = _
 have c : (tOf (eBin dLt (eFld ["Reader"] "at" (eVar 0)) (eFn fLen (aCons (opd (eFld ["Reader"] "words" (eVar 0))) aNil))) : Sm MX Bool) ⟨[some (.d (.o r)), some (.d (.lst [d]))], t2⟩ = .ok false ⟨[some (.d (.o r)), some (.d (.lst [d]))], t2⟩ := by
  obtain ⟨k, j, h1, _⟩ := d2
  walk_at "ex"
  rw [fa h1]
  walk_at "ex"
  rw [fw h1]
  walk_at "ex"
  rw [fLen_l]
  walk_at "ex"
  rw [List.length_map]
  have : ¬ ((s'.a : Nat) : Int) < ((s'.w.length : Nat) : Int) := by omega
  simp only [this]
  walk_at "ex"
 exact fnM_d (M := MX) ((seq_nx (e1 _ rfl)).trans ((seq_nx e2).trans ((seq_nx (if_f c)).trans (ret_d e3))))
theorem reader_of_ok (n : Nat) {x : Str} {m : Int} {t : List MO} {ws : List Wd} (hl : x.length ≤ 20000) (hx : mir (n + 2) .words_of [.d (.str x)] t = .ok (.l (ws.map Wd.d)) t) : ∃ t', mir (n + 3) .reader_of [.d (.str x), .d (.int m), .d c_MOST_SIGNS] t = .ok (.d (.o t.length)) t' ∧ Rd t' t.length ⟨ws, 0, (x.length : Nat), [], [], m⟩ ∧ Fr t.length t t' := by
 obtain ⟨t1, e1, d1, f1⟩ := init_ok n t ws (x.length : Nat) m
 refine ⟨t1, ?_, d1, ⟨fun i hi => by rw [f1.1 i hi, List.getElem?_append_left hi], Nat.le_trans (by rw [List.length_append]; omega) f1.2⟩⟩
 show fnM 3 (m_reader_of (mir (n + 2)) (mirI (n + 2))) [.d (.str x), .d (.int m), .d c_MOST_SIGNS] t = _
 have e2 : mirI (n + 2) .Reader___init__ [.d (.o t.length), .d (.lst (ws.map Wd.d)), .d (.int (x.length : Nat)), .d (.int m)] (t ++ [.ins "Reader" []]) = .ok (.d .non) t1 := e1
 have c : (tOrM (tNotM (tTru dTru (eUn (dIsiN "str") (eVar 0)))) (tOf (eBin dGt (eFn fLen (aCons (opd (eVar 0)) aNil)) (eVar 2))) : Sm MX Bool) ⟨[some (.d (.str x)), some (.d (.int m)), some (.d c_MOST_SIGNS)], t⟩ = .ok false ⟨[some (.d (.str x)), some (.d (.int m)), some (.d c_MOST_SIGNS)], t⟩ := by
  walk_at "ex"
  rw [show dIsiN "str" (.str x) = some (.d (.bl true)) from by kernel_rfl]
  walk_at "ex"
  rw [fLen_s (by have : 20000 ≤ lim := (by decide); omega)]
  walk_at "ex"
  have : ¬ (20000 : Int) < ((x.length : Nat) : Int) := by omega
  unfold c_MOST_SIGNS
  walk_at "ex"
  simp only [this]
  walk_at "ex"
 have a : (aCons (escf (eCall (mir (n + 2) .words_of) (aCons (escf (eVar 0)) aNil))) (aCons (escf (eFn fLen (aCons (opd (eVar 0)) aNil))) (aCons (escf (eVar 1)) aNil)) : Sm MX (List S)) ⟨[some (.d (.str x)), some (.d (.int m)), some (.d c_MOST_SIGNS)], t⟩ = .ok [.d (.lst (ws.map Wd.d)), .d (.int (x.length : Nat)), .d (.int m)] ⟨[some (.d (.str x)), some (.d (.int m)), some (.d c_MOST_SIGNS)], t⟩ := by
  walk_at "ec"
  rw [hx]
  walk_at "ec"
  rw [fLen_s (by have : 20000 ≤ lim := (by decide); omega)]
  walk_at "ec"
 refine fnM_d (M := MX) (rho' := [some (.d (.str x)), some (.d (.int m)), some (.d c_MOST_SIGNS)]) ((seq_nx (if_f c)).trans (ret_d ?_))
 unfold eMake
 rw [a]
 simp only [Rs.bind_ok, List.all_cons, List.all_nil, okArg, Bool.and_self, if_true, e2]
theorem asg_d {f : Sm MX S} {k : D → Z (List MO) → Option (Z (List MO))} {z z1 z2 : Z (List MO)} {x : D} (h : f z = .ok (.d x) z1) (hk : k x z1 = some z2) : sAsg f k z = .ok .nx z2 := by
 unfold sAsg escf
 rw [h]
 simp only [Rs.bind_ok, escS, hk, Option.map_some, Rs.opt_some]
theorem callF {w : List D} {a l m : Int} {r k j : Nat} {c : List S → List MO → Rs S (List MO)} {nm : Str} {f : Sm MX S} {g : Sm MX (List S)} {ss : List S} {v : S} {z : Z (List MO)} {rho1 rho2 : List (Option S)} {t1 t2 t' : List MO} (hf : opd f z = .ok (.d (.o r)) ⟨rho1, t1⟩) (h : t1[r]? = some (rob w a l m k j)) (hl : (flds w a l m k j).lookup nm = none) (hg : g ⟨rho1, t1⟩ = .ok ss ⟨rho2, t2⟩) (hs : ss.all okArg = true) (hc : c (.d (.o r) :: ss) t2 = .ok v t') : eCall c (aMeth "Reader" nm f g) z = .ok v ⟨rho2, t'⟩ := by
 have hA : aMeth (Str.ofString "Reader") nm f g z = .ok (.d (.o r) :: ss) ⟨rho2, t2⟩ := by
  unfold aMeth
  rw [hf]
  simp only [Rs.bind_ok, ins_r h]
  rw [if_pos ⟨trivial, hl⟩, hg]
  rfl
 unfold eCall
 rw [hA]
 simp only [Rs.bind_ok, List.all_cons, okArg, hs, Bool.and_self, if_true, hc]
theorem small_ok (n : Nat) {x wd : Str} {m : Int} {t : List MO} {ws : List Wd} {ts : List Tk} {A : Th} {i : Nat} {c e : Nat} (hl : x.length ≤ 20000) (hx : mir (n + 9) .words_of [.d (.str x)] t = .ok (.l (ws.map Wd.d)) t) (hW : WOk ⟨ws, 0, (x.length : Nat), [], [], m⟩) (ha : AtW ws 0 ts) (hlen : ws.length = ts.length) (hb : ts.length ≤ 100000) (hR : Rch c e m ts i [.tup [.str wd]] [] A) (hs : size A ≤ 400) (hd : depth A ≤ 40) :
  ∃ t', mir (n + 11) .small_one [.d (.str x), .d (.int m), .d (.str wd)] t = .ok (.d (enc A)) t' ∧ Fr t.length t t' := by
 obtain ⟨t1, e1, d1, f1⟩ := reader_of_ok (n + 7) (m := m) hl hx
 obtain ⟨k, hk, g⟩ := hR ⟨ws, 0, (x.length : Nat), [.tup [.str wd]], [], m⟩ [] ⟨hW.n, hW.f⟩ rfl ha rfl (by
  show 0 + _ ≤ 900000 + e; omega) (by show 0 + _ ≤ 900000; omega) (by
  unfold nxt RS.now
  simp only [Nat.zero_add]
  rw [List.getElem?_eq_none (by rw [hlen]; exact Nat.le_refl _)]
  refine ⟨?_, fun _ => ?_, fun j _ _ => ?_⟩ <;> exact is_k (k := "end") rfl (by decide +kernel))
 obtain ⟨t2, e2, f2⟩ := run_ok (n + 1) (r := t.length) (t := t1) (d := .tup [.str wd]) (y := itm A) (md := []) hW d1 rfl g rfl (by omega) rfl (by show ws.length ≤ 0 + ts.length; omega)
 refine ⟨t2, ?_, ⟨fun i hi => by rw [f2.1 i hi, f1.1 i hi], Nat.le_trans f1.2 f2.2⟩⟩
 show fnM 6 (m_small_one (mir (n + 10))) [.d (.str x), .d (.int m), .d (.str wd)] t = _
 obtain ⟨k1, j1, q1, _⟩ := d1
 have s1 : (sAsg (eCall (mir (n + 10) .Reader_run) (aMeth "Reader" "run" (eCall (mir (n + 10) .reader_of) (aCons (escf (eVar 0)) (aCons (escf (eVar 1)) (aCons (escf (eC c_MOST_SIGNS)) aNil)))) (aCons (escf (eLst (aCons (escf (eTup (aCons (escf (eVar 2)) aNil))) aNil))) aNil))) (kTup 3 (ksCons (kName 3) (ksCons (kName 4) (ksCons (kName 5) ksNil)))) : Sm MX Out) ⟨[some (.d (.str x)), some (.d (.int m)), some (.d (.str wd)), none, none, none], t⟩ = .ok .nx ⟨[some (.d (.str x)), some (.d (.int m)), some (.d (.str wd)), some (.d (enc A)), some (.d (.int (size A : Nat))), some (.d (.int (depth A : Nat)))], t2⟩ := by
  have r1 : opd (M := MX) (eCall (mir (n + 10) .reader_of) (aCons (escf (eVar 0)) (aCons (escf (eVar 1)) (aCons (escf (eC c_MOST_SIGNS)) aNil)))) ⟨[some (.d (.str x)), some (.d (.int m)), some (.d (.str wd)), none, none, none], t⟩ = .ok (.d (.o t.length)) ⟨[some (.d (.str x)), some (.d (.int m)), some (.d (.str wd)), none, none, none], t1⟩ := by
   walk_at "ec"
   rw [e1]
   walk_at "ec"
  have r2 : eCall (M := MX) (mir (n + 10) .Reader_run) (aMeth "Reader" "run" (eCall (mir (n + 10) .reader_of) (aCons (escf (eVar 0)) (aCons (escf (eVar 1)) (aCons (escf (eC c_MOST_SIGNS)) aNil)))) (aCons (escf (eLst (aCons (escf (eTup (aCons (escf (eVar 2)) aNil))) aNil))) aNil)) ⟨[some (.d (.str x)), some (.d (.int m)), some (.d (.str wd)), none, none, none], t⟩ = .ok (.d (itm A)) ⟨[some (.d (.str x)), some (.d (.int m)), some (.d (.str wd)), none, none, none], t2⟩ := by
   exact callF r1 q1 (lk_none (by kernel_rfl)) (ss := [.d (.lst [.tup [.str wd]])]) rfl rfl e2
  exact asg_d r2 rfl
 have c1 : (tOrM (tOf (eBin dGt (eVar 4) (eC c_MOST_PARTS))) (tOf (eBin dGt (eVar 5) (eC c_MOST_DEEP))) : Sm MX Bool) ⟨[some (.d (.str x)), some (.d (.int m)), some (.d (.str wd)), some (.d (enc A)), some (.d (.int (size A : Nat))), some (.d (.int (depth A : Nat)))], t2⟩ = .ok false ⟨[some (.d (.str x)), some (.d (.int m)), some (.d (.str wd)), some (.d (enc A)), some (.d (.int (size A : Nat))), some (.d (.int (depth A : Nat)))], t2⟩ := by
  unfold c_MOST_PARTS c_MOST_DEEP
  walk_at "ex"
  have a1 : ¬ (400 : Int) < ((size A : Nat) : Int) := by omega
  have a2 : ¬ (40 : Int) < ((depth A : Nat) : Int) := by omega
  simp only [a1, a2]
  walk_at "ex"
 exact fnM_d (M := MX) ((seq_nx s1).trans ((seq_nx (if_f c1)).trans (ret_d rfl)))
noncomputable abbrev sc (l : List Nat) : Str := ⟨l.toArray⟩
theorem sc_len (l : List Nat) : (sc l).length = l.length := by simp [Str.length]
theorem sc_app (a b : List Nat) : sc a ++ sc b = sc (a ++ b) := by
 show Str.append _ _ = _
 simp [Str.append, sc]
theorem sc_ofl (l : List Nat) : (sc l).cps.toList = l := by simp [sc]
theorem sx_nat (n d k : Nat) (h : k ≤ n) : HT.sIx n d (some (k : Int)) = k := by
 rw [HT.sIx_nat, Nat.min_eq_left h]
theorem cut_sc (l : List Nat) (a b : Nat) (h : a ≤ l.length) : cutS (sc l) (some (a : Int)) (some (b : Int)) = sc ((l.drop a).take (b - a)) := by
 unfold cutS
 rw [sc_len, sc_ofl, sx_nat _ _ _ h, HT.sIx_nat]
 congr 2
 by_cases hb : b ≤ l.length
 ·rw [Nat.min_eq_left hb]
 ·rw [Nat.min_eq_right (by omega), List.take_of_length_le (by rw [List.length_drop]; omega), List.take_of_length_le (by rw [List.length_drop]; omega)]
theorem cut_mid (p m q : List Nat) : cutS (sc (p ++ (m ++ q))) (some (p.length : Nat)) (some ((p.length + m.length : Nat) : Int)) = sc m := by
 rw [cut_sc _ _ _ (by rw [List.length_append]; omega), List.drop_left' rfl, Nat.add_sub_cancel_left, List.take_left' rfl]
theorem dSl_s {z : Str} {lo hi : Option Int} (h : z.length ≤ lim) : dSl (.str z) lo hi = some (.d (.str (cutS z lo hi))) := by
 unfold dSl
 simp only
 rw [if_pos h]
theorem dIx_sc {p q : List Nat} {c : Nat} (h : (p ++ c :: q).length ≤ lim) : dIx (.str (sc (p ++ c :: q))) (.int (p.length : Nat)) = some (.d (.str (sc [c]))) := by
 unfold dIx
 simp only
 rw [if_pos (by rw [sc_len]; exact h), atI_n (v := c) (by rw [List.getElem?_append_right (Nat.le_refl _), Nat.sub_self]; rfl)]
 rfl
noncomputable def RUNS : List Nat := [97, 98, 99, 100, 101, 102, 103, 104, 105, 106, 107, 108, 109, 110, 111, 112, 113, 114, 115, 116, 117, 118, 119, 120, 121, 122, 48, 49, 50, 51, 52, 53, 54, 55, 56, 57, 88]
theorem runs_add : dAdd c_SMALL c_FIGURES = some (.d (.str (sc (RUNS.take 36)))) := by kernel_rfl
theorem runs_add2 : dAdd (.str (sc (RUNS.take 36))) (.str "X") = some (.d (.str (sc RUNS))) := by kernel_rfl
theorem dIn_sc (c : Nat) (z : List Nat) : dIn (.str (sc [c])) (.str (sc z)) = some (.d (.bl (decide (c ∈ z)))) := by
 show (dInB _ _).map _ = _
 simp only [dInB]
 rw [if_pos (by simp)]
 simp
theorem t_run (n : Nat) {p q : List Nat} {c : Nat} {t : List MO} (h : (p ++ c :: q).length ≤ lim) : (tAndM (tOf (eBin dLt (eVar 1) (eFn fLen (aCons (opd (eVar 0)) aNil)))) (tOf (eBin dIn (eBin dIx (eVar 0) (eVar 1)) (eBin dAdd (eBin dAdd (eC c_SMALL) (eC c_FIGURES)) (eC (.str "X"))))) : Sm MX Bool) ⟨[some (.d (.str (sc (p ++ c :: q)))), some (.d (.int (p.length : Nat)))], t⟩ = .ok (decide (c ∈ RUNS)) ⟨[some (.d (.str (sc (p ++ c :: q)))), some (.d (.int (p.length : Nat)))], t⟩ := by
 walk_at "ex"
 rw [fLen_s (by rw [sc_len]; exact h)]
 walk_at "ex"
 rw [sc_len]
 have e : ((p.length : Nat) : Int) < (((p ++ c :: q).length : Nat) : Int) := by rw [List.length_append, List.length_cons]; omega
 simp only [e]
 walk_at "ex"
 rw [dIx_sc h]
 walk_at "ex"
 rw [runs_add]
 walk_at "ex"
 rw [runs_add2]
 walk_at "ex"
 rw [dIn_sc]
 rfl
theorem t_runE {p : List Nat} {t : List MO} (h : p.length ≤ lim) : (tAndM (tOf (eBin dLt (eVar 1) (eFn fLen (aCons (opd (eVar 0)) aNil)))) (tOf (eBin dIn (eBin dIx (eVar 0) (eVar 1)) (eBin dAdd (eBin dAdd (eC c_SMALL) (eC c_FIGURES)) (eC (.str "X"))))) : Sm MX Bool) ⟨[some (.d (.str (sc p))), some (.d (.int (p.length : Nat)))], t⟩ = .ok false ⟨[some (.d (.str (sc p))), some (.d (.int (p.length : Nat)))], t⟩ := by
 walk_at "ex"
 rw [fLen_s (by rw [sc_len]; exact h)]
 walk_at "ex"
 rw [sc_len]
 have e : ¬ ((p.length : Nat) : Int) < ((p.length : Nat) : Int) := by omega
 simp only [e]
 walk_at "ex"
noncomputable def Stop (q : List Nat) : Prop := ∀ c r, q = c :: r → c ∉ RUNS
theorem run_loop {t : List MO} : ∀ (m p q : List Nat) (N : Nat), m.length < N → (p ++ (m ++ q)).length ≤ lim → (∀ c ∈ m, c ∈ RUNS) → Stop q →
  sWhile (M := MX) (tAndM (tOf (eBin dLt (eVar 1) (eFn fLen (aCons (opd (eVar 0)) aNil)))) (tOf (eBin dIn (eBin dIx (eVar 0) (eVar 1)) (eBin dAdd (eBin dAdd (eC c_SMALL) (eC c_FIGURES)) (eC (.str "X")))))) (sSet 1 (eBin dAdd (eVar 1) (eC (.int 1)))) N ⟨[some (.d (.str (sc (p ++ (m ++ q))))), some (.d (.int (p.length : Nat)))], t⟩ = .ok .nx ⟨[some (.d (.str (sc (p ++ (m ++ q))))), some (.d (.int ((p.length + m.length : Nat) : Int)))], t⟩
 | [], p, q, N + 1, _, hl, _, hs => by
  unfold sWhile
  cases q with
  | nil =>
   rw [List.append_nil, List.append_nil] at hl ⊢
   rw [t_runE hl]
   rfl
  | cons c r =>
   rw [List.nil_append] at hl ⊢
   rw [t_run 0 hl, decide_eq_false (hs c r rfl)]
   rfl
 | c :: m, p, q, N + 1, hN, hl, hr, hs => by
  unfold sWhile
  rw [List.cons_append] at hl ⊢
  rw [t_run 0 hl, decide_eq_true (hr c List.mem_cons_self)]
  have ih := run_loop (t := t) m (p ++ [c]) q N (by rw [List.length_cons] at hN; omega) (by rw [List.append_assoc]; exact hl) (fun x hx => hr x (List.mem_cons_of_mem _ hx)) hs
  rw [List.append_assoc, List.length_append, List.length_singleton] at ih
  rw [List.length_cons, show p.length + (m.length + 1) = p.length + 1 + m.length by omega]
  exact ih
theorem run_at_ok (n : Nat) {m p q : List Nat} {t : List MO} (hl : (p ++ (m ++ q)).length ≤ lim) (hr : ∀ c ∈ m, c ∈ RUNS) (hs : Stop q) : mir (n + 1) .run_at [.d (.str (sc (p ++ (m ++ q)))), .d (.int (p.length : Nat))] t = .ok (.d (.int ((p.length + m.length : Nat) : Int))) t := by
 show fnM 2 (m_run_at (mir n)) [.d (.str (sc (p ++ (m ++ q)))), .d (.int (p.length : Nat))] t = _
 have hm : m.length < whileN := by
  rw [List.length_append, List.length_append] at hl
  have : lim < whileN := by decide
  omega
 exact fnM_d (M := MX) ((seq_nx (run_loop m p q whileN hm hl hr hs)).trans (ret_d rfl))
inductive Pc where
  | run (cs : List Nat) (t : Tk)
  | mk (c : Nat)
  | arrow
  | sp
noncomputable def MKS : List Nat := [40, 41, 91, 93, 44, 46, 58, 61, 38, 124, 126]
theorem mks_eq : c_MARKS_words = .str (sc MKS) := by kernel_rfl
noncomputable def Pc.cs : Pc → List Nat
 | .run cs _ => cs
 | .mk c => [c]
 | .arrow => [45, 62]
 | .sp => [32]
noncomputable def cds : List Pc → List Nat
 | [] => []
 | p :: r => p.cs ++ cds r
noncomputable def Pc.tk : Pc → List Tk
 | .run _ t => [t]
 | .mk c => [.mark (sc [c])]
 | .arrow => [.mark "->"]
 | .sp => []
noncomputable def tks : List Pc → List Tk
 | [] => []
 | p :: r => p.tk ++ tks r
noncomputable abbrev tw (t : Tk) (a : Int) : Wd := ⟨t.k, t.v, a⟩
noncomputable def wds : Nat → List Pc → List Wd
 | _, [] => []
 | a, p :: r => (p.tk.map fun t => tw t (a : Nat)) ++ wds (a + p.cs.length) r
structure RunOk (cs : List Nat) (t : Tk) : Prop where
  ne : cs ≠ []
  r : ∀ c ∈ cs, c ∈ RUNS
  w : ∀ (n : Nat) (m : List MO), mir (n + 4) .run_word [.d (.str (sc cs))] m = .ok (.d (.tup [.str t.k, t.v])) m
  f : flt t.v
noncomputable def isRun : List Pc → Bool
 | .run _ _ :: _ => true
 | _ => false
noncomputable def Good : List Pc → Prop
 | [] => True
 | .run cs t :: r => RunOk cs t ∧ isRun r = false ∧ Good r
 | .mk c :: r => c ∈ MKS ∧ Good r
 | .arrow :: r => Good r
 | .sp :: r => Good r
theorem Good.tail {p : Pc} {r : List Pc} (h : Good (p :: r)) : Good r := by
 cases p with
 | run _ _ => exact h.2.2
 | mk _ => exact h.2
 | arrow => exact h
 | sp => exact h
theorem mks_runs : ∀ c ∈ MKS, c ∉ RUNS := by decide
theorem mks_45 : ∀ c ∈ MKS, c ≠ 45 := by decide
theorem mks_ok : ∀ c ∈ MKS, PyData.strOk (sc [c]) = true := by decide +kernel
theorem stop_of {r : List Pc} (h : Good r) (n : isRun r = false) : Stop (cds r) := by
 intro c q e
 cases r with
 | nil => cases e
 | cons p r =>
  cases p with
  | run _ _ => cases n
  | mk d =>
   have e' : d :: cds r = c :: q := e
   cases e'
   exact mks_runs _ h.1
  | arrow =>
   have e' : 45 :: 62 :: cds r = c :: q := e
   cases e'
   decide
  | sp =>
   have e' : 32 :: cds r = c :: q := e
   cases e'
   decide
noncomputable def WT : Sm MX Bool := (tOf (eBin dLt (eVar 2) (eFn fLen (aCons (opd (eVar 0)) aNil))))
noncomputable def WB (n : Nat) : Sm MX Out := (sSeq (sSet 3 (eCall (mir n .run_at) (aCons (escf (eVar 0)) (aCons (escf (eVar 2)) aNil))))
  (sSeq (sIf (tOf (eBin dGt (eVar 3) (eVar 2))) (sSeq (sSet 4 (eCall (mir n .run_word) (aCons (escf (eSl dSl (eVar 0) (oInt (eVar 2)) (oInt (eVar 3)))) aNil)))
  (sExpr (eApp 1 (eIf (tOf (eBin dIs (eVar 4) (eC .non))) (eTup (aCons (escf (eC (.str "none"))) (aCons (escf (eC (.str ""))) (aCons (escf (eVar 2)) aNil)))) (eBin dAdd (eVar 4) (eTup (aCons (escf (eVar 2)) aNil))))))) (sIf (tOf (eBin dEq (eSl dSl (eVar 0) (oInt (eVar 2)) (oInt (eBin dAdd (eVar 2) (eC (.int 2))))) (eC (.str "->")))) (sSeq (sSet 3 (eBin dAdd (eVar 2) (eC (.int 2))))
  (sExpr (eApp 1 (eTup (aCons (escf (eC (.str "mark"))) (aCons (escf (eC (.str "->"))) (aCons (escf (eVar 2)) aNil))))))) (sIf (tOf (eBin dIn (eBin dIx (eVar 0) (eVar 2)) (eC c_MARKS_words))) (sSeq (sSet 3 (eBin dAdd (eVar 2) (eC (.int 1))))
  (sExpr (eApp 1 (eTup (aCons (escf (eC (.str "mark"))) (aCons (escf (eBin dIx (eVar 0) (eVar 2))) (aCons (escf (eVar 2)) aNil))))))) (sIf (tOf (eBin dEq (eBin dIx (eVar 0) (eVar 2)) (eC (.str " ")))) (sSet 3 (eBin dAdd (eVar 2) (eC (.int 1)))) (sExpr (eApp 1 (eTup (aCons (escf (eC (.str "none"))) (aCons (escf (eC (.str ""))) (aCons (escf (eVar 2)) aNil))))))))))
  (sSeq (sIf (tAndM (tOf (eBin (dEq0 true) (eVar 1) (eLst aNil))) (tOf (eBin dEq (eBin dIx (eBin dIx (eVar 1) (eUn dNeg (eC (.int 1)))) (eC (.int 0))) (eC (.str "none"))))) (sRet (eVar 1)) sNil)
  (sSet 2 (eVar 3)))))
theorem add_word {k : Str} {v : D} {a : Int} : dAdd (.tup [.str k, v]) (.tup [.int a]) = some (.t [.str k, v, .int a]) := rfl
theorem dEq0_l (xs : List D) : dEq0 true (.lst xs) (.lst []) = some (.d (.bl (!xs.isEmpty))) := by
 cases xs <;> rfl
noncomputable def CK : Sm MX Out := (sIf (tAndM (tOf (eBin (dEq0 true) (eVar 1) (eLst aNil))) (tOf (eBin dEq (eBin dIx (eBin dIx (eVar 1) (eUn dNeg (eC (.int 1)))) (eC (.int 0))) (eC (.str "none"))))) (sRet (eVar 1)) sNil)
theorem last_ix (xs : List D) (y : D) : dIx (.lst (xs ++ [y])) (.int (-1)) = some (.d y) := by
 show (atI (xs ++ [y]) (-1)).map R.d = _
 have : atI (xs ++ [y]) (-1) = some y := by
  unfold atI ixN
  rw [List.length_append, List.length_singleton]
  rw [if_neg (by omega), if_pos (by omega)]
  simp only [Option.bind_some]
  rw [show ((-1 : Int) + ((xs.length + 1 : Nat) : Int)).toNat = xs.length by omega, List.getElem?_append_right (Nat.le_refl _), Nat.sub_self]
  rfl
 rw [this]; rfl
noncomputable def okw (ws : List Wd) : Prop := ∀ w ∈ ws, PyData.strOk w.k = true ∧ (w.k == Str.ofString "none") = false
theorem ck_ok {x a b c : Option S} {ws : List Wd} {t : List MO} (h : okw ws) : CK ⟨[x, some (.l (ws.map Wd.d)), a, b, c], t⟩ = .ok .nx ⟨[x, some (.l (ws.map Wd.d)), a, b, c], t⟩ := by
 unfold CK
 rcases List.eq_nil_or_concat ws with rfl | ⟨q, w, rfl⟩
 ·rfl
 ·rw [List.concat_eq_append] at h ⊢
  obtain ⟨h1, h2⟩ := h w (List.mem_append_right _ List.mem_cons_self)
  rw [List.map_append, List.map_cons, List.map_nil]
  walk_at "ex"
  rw [dEq0_l]
  walk_at "ex"
  rw [show (!(q.map Wd.d ++ [w.d]).isEmpty) = true from by cases q <;> rfl]
  walk_at "ex"
  rw [last_ix]
  walk_at "ex"
  rw [show dIx w.d (.int 0) = some (.d (.str w.k)) from rfl]
  walk_at "ex"
  rw [dEq_s h1 (by decide +kernel), h2]
  walk_at "ex"
theorem tk_k (t : Tk) : PyData.strOk t.k = true ∧ (t.k == Str.ofString "none") = false := by
 cases t with
 | told w => exact ⟨show PyData.strOk (Str.ofString "told") = true from by decide +kernel, show (Str.ofString "told" == Str.ofString "none") = false from by decide +kernel⟩
 | name w => exact ⟨show PyData.strOk (Str.ofString "name") = true from by decide +kernel, show (Str.ofString "name" == Str.ofString "none") = false from by decide +kernel⟩
 | var w => exact ⟨show PyData.strOk (Str.ofString "var") = true from by decide +kernel, show (Str.ofString "var" == Str.ofString "none") = false from by decide +kernel⟩
 | mark w => exact ⟨show PyData.strOk (Str.ofString "mark") = true from by decide +kernel, show (Str.ofString "mark" == Str.ofString "none") = false from by decide +kernel⟩
theorem tk_okw (p : Pc) (a : Int) (h : ∀ t ∈ p.tk, True) : okw (p.tk.map fun t => tw t a) := by
 intro w hw
 obtain ⟨t, _, rfl⟩ := List.mem_map.mp hw
 exact tk_k t
theorem okw_app {a b : List Wd} (h : okw a) (g : okw b) : okw (a ++ b) := fun w hw => by
 rcases List.mem_append.mp hw with q | q
 ·exact h w q
 ·exact g w q
theorem t_at {xs : List Nat} {t : List MO} {b c : Option S} {k : Nat} {f : List D} (h : xs.length ≤ lim) : WT ⟨[some (.d (.str (sc xs))), some (.l f), some (.d (.int (k : Nat))), b, c], t⟩ = .ok (decide (k < xs.length)) ⟨[some (.d (.str (sc xs))), some (.l f), some (.d (.int (k : Nat))), b, c], t⟩ := by
 unfold WT
 walk_at "ex"
 rw [fLen_s (by rw [sc_len]; exact h)]
 walk_at "ex"
 rw [sc_len]
 have : (decide (((k : Nat) : Int) < ((xs.length : Nat) : Int))) = decide (k < xs.length) := by
  rw [decide_eq_decide]; omega
 rw [this]
theorem run_at_call (n : Nat) {m p q : List Nat} {f : List D} {b c : Option S} {t : List MO} (hl : (p ++ (m ++ q)).length ≤ lim) (hr : ∀ x ∈ m, x ∈ RUNS) (hs : Stop q) : (sSet 3 (eCall (mir (n + 1) .run_at) (aCons (escf (eVar 0)) (aCons (escf (eVar 2)) aNil))) : Sm MX Out) ⟨[some (.d (.str (sc (p ++ (m ++ q))))), some (.l f), some (.d (.int (p.length : Nat))), b, c], t⟩ = .ok .nx ⟨[some (.d (.str (sc (p ++ (m ++ q))))), some (.l f), some (.d (.int (p.length : Nat))), some (.d (.int ((p.length + m.length : Nat) : Int))), c], t⟩ := by
 walk_at "ec"
 rw [run_at_ok n hl hr hs]
 walk_at "ec"
theorem it_run (n : Nat) {cs : List Nat} {tk : Tk} {q p : List Nat} {ws : List Wd} {b c : Option S} {t : List MO} (hl : (p ++ (cs ++ q)).length < lim) (h : RunOk cs tk) (hs : Stop q) (hw : okw ws) (hn : ws.length < lim) : ∃ b' c', WB (n + 4) ⟨[some (.d (.str (sc (p ++ (cs ++ q))))), some (.l (ws.map Wd.d)), some (.d (.int (p.length : Nat))), b, c], t⟩ = .ok .nx ⟨[some (.d (.str (sc (p ++ (cs ++ q))))), some (.l ((ws ++ [tw tk (p.length : Nat)]).map Wd.d)), some (.d (.int ((p.length + cs.length : Nat) : Int))), b', c'], t⟩ := by
 refine ⟨some (.d (.int ((p.length + cs.length : Nat) : Int))), some (.d (.tup [.str tk.k, tk.v])), ?_⟩
 unfold WB
 rw [seq_nx (run_at_call (n + 3) (by omega) h.r hs)]
 have hp : 0 < cs.length := by
  cases cs with
  | nil => exact (h.ne rfl).elim
  | cons _ _ => rw [List.length_cons]; omega
 have c1 : (tOf (eBin dGt (eVar 3) (eVar 2)) : Sm MX Bool) ⟨[some (.d (.str (sc (p ++ (cs ++ q))))), some (.l (ws.map Wd.d)), some (.d (.int (p.length : Nat))), some (.d (.int ((p.length + cs.length : Nat) : Int))), c], t⟩ = .ok true ⟨[some (.d (.str (sc (p ++ (cs ++ q))))), some (.l (ws.map Wd.d)), some (.d (.int (p.length : Nat))), some (.d (.int ((p.length + cs.length : Nat) : Int))), c], t⟩ := by
  walk_at "ex"
  have : ((p.length : Nat) : Int) < ((p.length + cs.length : Nat) : Int) := by omega
  simp only [this]
  walk_at "ex"
 have s1 : (sSet 4 (eCall (mir (n + 4) .run_word) (aCons (escf (eSl dSl (eVar 0) (oInt (eVar 2)) (oInt (eVar 3)))) aNil)) : Sm MX Out) ⟨[some (.d (.str (sc (p ++ (cs ++ q))))), some (.l (ws.map Wd.d)), some (.d (.int (p.length : Nat))), some (.d (.int ((p.length + cs.length : Nat) : Int))), c], t⟩ = .ok .nx ⟨[some (.d (.str (sc (p ++ (cs ++ q))))), some (.l (ws.map Wd.d)), some (.d (.int (p.length : Nat))), some (.d (.int ((p.length + cs.length : Nat) : Int))), some (.d (.tup [.str tk.k, tk.v]))], t⟩ := by
  walk_at "ec"
  rw [dSl_s (by rw [sc_len]; omega), cut_mid]
  walk_at "ec"
  rw [h.w n t]
  walk_at "ec"
 have s2 : (sExpr (eApp 1 (eIf (tOf (eBin dIs (eVar 4) (eC .non))) (eTup (aCons (escf (eC (.str "none"))) (aCons (escf (eC (.str ""))) (aCons (escf (eVar 2)) aNil)))) (eBin dAdd (eVar 4) (eTup (aCons (escf (eVar 2)) aNil))))) : Sm MX Out) ⟨[some (.d (.str (sc (p ++ (cs ++ q))))), some (.l (ws.map Wd.d)), some (.d (.int (p.length : Nat))), some (.d (.int ((p.length + cs.length : Nat) : Int))), some (.d (.tup [.str tk.k, tk.v]))], t⟩ = .ok .nx ⟨[some (.d (.str (sc (p ++ (cs ++ q))))), some (.l ((ws ++ [tw tk (p.length : Nat)]).map Wd.d)), some (.d (.int (p.length : Nat))), some (.d (.int ((p.length + cs.length : Nat) : Int))), some (.d (.tup [.str tk.k, tk.v]))], t⟩ := by
  walk_at "ex"
  rw [show dIs (.tup [.str tk.k, tk.v]) .non = some (.d (.bl false)) from rfl]
  walk_at "ex"
  rw [add_word]
  walk_at "ex"
  rw [if_pos (by rw [List.length_map]; exact hn), List.map_append]
  rfl
 rw [seq_nx ((if_T c1).trans ((seq_nx s1).trans s2))]
 have ck := ck_ok (x := some (.d (.str (sc (p ++ (cs ++ q)))))) (a := some (.d (.int (p.length : Nat)))) (b := some (.d (.int ((p.length + cs.length : Nat) : Int)))) (c := some (.d (.tup [.str tk.k, tk.v]))) (t := t) (okw_app hw (tk_okw (.run cs tk) (p.length : Nat) (fun _ _ => trivial)))
 exact (seq_nx ck).trans rfl
theorem strOk_sc {l : List Nat} (h : ∀ c ∈ l, c < 1114112) : PyData.strOk (sc l) = true := by
 unfold PyData.strOk
 simp only [sc, List.all_toArray, List.all_eq_true, decide_eq_true_eq]
 exact h
theorem sc_ne {a b : List Nat} (h : a ≠ b) : (sc a == sc b) = false := by
 refine beq_eq_false_iff_ne.mpr (fun e => h ?_)
 have := congrArg (fun x : Str => x.cps.toList) e
 simpa using this
theorem arrow_sc : (Str.ofString "->") = sc [45, 62] := by kernel_rfl
theorem blank_sc : (Str.ofString " ") = sc [32] := by kernel_rfl
section
variable {n : Nat} {q p : List Nat} {ws : List Wd} {b c : Option S} {t : List MO} {x : Nat}
noncomputable abbrev st5 (L : List Nat) (ws : List Wd) (k : Nat) (b c : Option S) (t : List MO) : Z (List MO) := ⟨[some (.d (.str (sc L))), some (.l (ws.map Wd.d)), some (.d (.int (k : Nat))), b, c], t⟩
theorem c_gt {L : List Nat} {k : Nat} : (tOf (eBin dGt (eVar 3) (eVar 2)) : Sm MX Bool) (st5 L ws k (some (.d (.int (k : Nat)))) c t) = .ok false (st5 L ws k (some (.d (.int (k : Nat)))) c t) := by
 walk_at "ex"
 have : ¬ ((k : Nat) : Int) < ((k : Nat) : Int) := by omega
 simp only [this]
 walk_at "ex"
theorem c_arrow {L : List Nat} (hl : L.length ≤ lim) (hk : p.length ≤ L.length) (ho : ∀ x ∈ L, x < 1114112) : (tOf (eBin dEq (eSl dSl (eVar 0) (oInt (eVar 2)) (oInt (eBin dAdd (eVar 2) (eC (.int 2))))) (eC (.str "->"))) : Sm MX Bool) (st5 L ws p.length b c t) = .ok (sc ((L.drop p.length).take 2) == sc [45, 62]) (st5 L ws p.length b c t) := by
 walk_at "ex"
 rw [dSl_s (by rw [sc_len]; exact hl), show ((p.length : Nat) : Int) + 2 = ((p.length + 2 : Nat) : Int) by omega, cut_sc _ _ _ hk, show p.length + 2 - p.length = 2 by omega]
 walk_at "ex"
 rw [arrow_sc, dEq_s (strOk_sc (fun x hx => ho x (List.mem_of_mem_drop (List.mem_of_mem_take hx)))) (strOk_sc (by decide))]
 rfl
theorem c_marks (hl : (p ++ x :: q).length ≤ lim) : (tOf (eBin dIn (eBin dIx (eVar 0) (eVar 2)) (eC c_MARKS_words)) : Sm MX Bool) (st5 (p ++ x :: q) ws p.length b c t) = .ok (decide (x ∈ MKS)) (st5 (p ++ x :: q) ws p.length b c t) := by
 walk_at "ex"
 rw [dIx_sc hl]
 walk_at "ex"
 rw [mks_eq, dIn_sc]
 rfl
theorem c_blank (hl : (p ++ x :: q).length ≤ lim) (hx : x < 1114112) : (tOf (eBin dEq (eBin dIx (eVar 0) (eVar 2)) (eC (.str " "))) : Sm MX Bool) (st5 (p ++ x :: q) ws p.length b c t) = .ok (sc [x] == sc [32]) (st5 (p ++ x :: q) ws p.length b c t) := by
 walk_at "ex"
 rw [dIx_sc hl]
 walk_at "ex"
 rw [blank_sc, dEq_s (strOk_sc (by intro c hc; rw [List.mem_singleton] at hc; rw [hc]; exact hx)) (strOk_sc (by decide))]
 rfl
theorem drop2 (p : List Nat) (x : Nat) (q : List Nat) : ((p ++ x :: q).drop p.length).take 2 = x :: q.take 1 := by
 rw [List.drop_left' rfl]
 rfl
theorem run0 (hl : (p ++ x :: q).length ≤ lim) (hs : x ∉ RUNS) : (sSet 3 (eCall (mir (n + 1) .run_at) (aCons (escf (eVar 0)) (aCons (escf (eVar 2)) aNil))) : Sm MX Out) (st5 (p ++ x :: q) ws p.length b c t) = .ok .nx (st5 (p ++ x :: q) ws p.length (some (.d (.int (p.length : Nat)))) c t) := by
 have := run_at_call n (m := []) (p := p) (q := x :: q) (f := ws.map Wd.d) (b := b) (c := c) (t := t) hl (fun _ h => by cases h) (fun d r e => by cases e; exact hs)
 exact this
theorem it_mk (hl : (p ++ x :: q).length < lim) (hm : x ∈ MKS) (ho : ∀ y ∈ p ++ x :: q, y < 1114112) (hw : okw ws) (hn : ws.length < lim) : ∃ b' c', WB (n + 4) (st5 (p ++ x :: q) ws p.length b c t) = .ok .nx (st5 (p ++ x :: q) (ws ++ [tw (.mark (sc [x])) (p.length : Nat)]) (p.length + 1) b' c' t) := by
 refine ⟨some (.d (.int ((p.length + 1 : Nat) : Int))), c, ?_⟩
 unfold WB
 rw [seq_nx (run0 (n := n + 3) (by omega) (mks_runs x hm))]
 have ca := c_arrow (p := p) (ws := ws) (b := some (.d (.int (p.length : Nat)))) (c := c) (t := t) (L := p ++ x :: q) (by omega) (by rw [List.length_append]; omega) ho
 rw [drop2, sc_ne (by intro e; injection e with e _; exact mks_45 x hm e)] at ca
 have cm := c_marks (p := p) (x := x) (q := q) (ws := ws) (b := some (.d (.int (p.length : Nat)))) (c := c) (t := t) (by omega)
 rw [decide_eq_true hm] at cm
 have s1 : (sSet 3 (eBin dAdd (eVar 2) (eC (.int 1))) : Sm MX Out) (st5 (p ++ x :: q) ws p.length (some (.d (.int (p.length : Nat)))) c t) = .ok .nx (st5 (p ++ x :: q) ws p.length (some (.d (.int ((p.length + 1 : Nat) : Int)))) c t) := rfl
 have s2 : (sExpr (eApp 1 (eTup (aCons (escf (eC (.str "mark"))) (aCons (escf (eBin dIx (eVar 0) (eVar 2))) (aCons (escf (eVar 2)) aNil))))) : Sm MX Out) (st5 (p ++ x :: q) ws p.length (some (.d (.int ((p.length + 1 : Nat) : Int)))) c t) = .ok .nx (st5 (p ++ x :: q) (ws ++ [tw (.mark (sc [x])) (p.length : Nat)]) p.length (some (.d (.int ((p.length + 1 : Nat) : Int)))) c t) := by
  walk_at "ex"
  rw [dIx_sc (by omega)]
  walk_at "ex"
  rw [if_pos (by rw [List.length_map]; exact hn)]
  simp only [st5, List.map_append]
  rfl
 rw [seq_nx ((if_F c_gt).trans ((if_F ca).trans ((if_T cm).trans ((seq_nx s1).trans s2))))]
 have ck := ck_ok (x := some (.d (.str (sc (p ++ x :: q))))) (a := some (.d (.int (p.length : Nat)))) (b := some (.d (.int ((p.length + 1 : Nat) : Int)))) (c := c) (t := t) (okw_app hw (tk_okw (.mk x) (p.length : Nat) (fun _ _ => trivial)))
 exact (seq_nx ck).trans rfl
theorem it_arrow (hl : (p ++ 45 :: 62 :: q).length < lim) (ho : ∀ y ∈ p ++ 45 :: 62 :: q, y < 1114112) (hw : okw ws) (hn : ws.length < lim) : ∃ b' c', WB (n + 4) (st5 (p ++ 45 :: 62 :: q) ws p.length b c t) = .ok .nx (st5 (p ++ 45 :: 62 :: q) (ws ++ [tw (.mark "->") (p.length : Nat)]) (p.length + 2) b' c' t) := by
 refine ⟨some (.d (.int ((p.length + 2 : Nat) : Int))), c, ?_⟩
 unfold WB
 rw [seq_nx (run0 (n := n + 3) (by omega) (by decide))]
 have ca := c_arrow (p := p) (ws := ws) (b := some (.d (.int (p.length : Nat)))) (c := c) (t := t) (L := p ++ 45 :: 62 :: q) (by omega) (by rw [List.length_append]; omega) ho
 rw [drop2, show (sc (45 :: List.take 1 (62 :: q)) == sc [45, 62]) = true from beq_self_eq_true _] at ca
 have s1 : (sSet 3 (eBin dAdd (eVar 2) (eC (.int 2))) : Sm MX Out) (st5 (p ++ 45 :: 62 :: q) ws p.length (some (.d (.int (p.length : Nat)))) c t) = .ok .nx (st5 (p ++ 45 :: 62 :: q) ws p.length (some (.d (.int ((p.length + 2 : Nat) : Int)))) c t) := rfl
 have s2 : (sExpr (eApp 1 (eTup (aCons (escf (eC (.str "mark"))) (aCons (escf (eC (.str "->"))) (aCons (escf (eVar 2)) aNil))))) : Sm MX Out) (st5 (p ++ 45 :: 62 :: q) ws p.length (some (.d (.int ((p.length + 2 : Nat) : Int)))) c t) = .ok .nx (st5 (p ++ 45 :: 62 :: q) (ws ++ [tw (.mark "->") (p.length : Nat)]) p.length (some (.d (.int ((p.length + 2 : Nat) : Int)))) c t) := by
  walk_at "ex"
  rw [if_pos (by rw [List.length_map]; exact hn)]
  simp only [st5, List.map_append]
  rfl
 rw [seq_nx ((if_F c_gt).trans ((if_T ca).trans ((seq_nx s1).trans s2)))]
 have ck := ck_ok (x := some (.d (.str (sc (p ++ 45 :: 62 :: q))))) (a := some (.d (.int (p.length : Nat)))) (b := some (.d (.int ((p.length + 2 : Nat) : Int)))) (c := c) (t := t) (okw_app hw (tk_okw .arrow (p.length : Nat) (fun _ _ => trivial)))
 exact (seq_nx ck).trans rfl
theorem it_sp (hl : (p ++ 32 :: q).length < lim) (ho : ∀ y ∈ p ++ 32 :: q, y < 1114112) (hw : okw ws) : ∃ b' c', WB (n + 4) (st5 (p ++ 32 :: q) ws p.length b c t) = .ok .nx (st5 (p ++ 32 :: q) ws (p.length + 1) b' c' t) := by
 refine ⟨some (.d (.int ((p.length + 1 : Nat) : Int))), c, ?_⟩
 unfold WB
 rw [seq_nx (run0 (n := n + 3) (by omega) (by decide))]
 have ca := c_arrow (p := p) (ws := ws) (b := some (.d (.int (p.length : Nat)))) (c := c) (t := t) (L := p ++ 32 :: q) (by omega) (by rw [List.length_append]; omega) ho
 rw [drop2, sc_ne (by intro e; injection e with e _; cases e)] at ca
 have cm := c_marks (p := p) (x := 32) (q := q) (ws := ws) (b := some (.d (.int (p.length : Nat)))) (c := c) (t := t) (by omega)
 rw [decide_eq_false (by decide)] at cm
 have cb := c_blank (p := p) (x := 32) (q := q) (ws := ws) (b := some (.d (.int (p.length : Nat)))) (c := c) (t := t) (by omega) (by omega)
 rw [beq_self_eq_true] at cb
 have s1 : (sSet 3 (eBin dAdd (eVar 2) (eC (.int 1))) : Sm MX Out) (st5 (p ++ 32 :: q) ws p.length (some (.d (.int (p.length : Nat)))) c t) = .ok .nx (st5 (p ++ 32 :: q) ws p.length (some (.d (.int ((p.length + 1 : Nat) : Int)))) c t) := rfl
 rw [seq_nx ((if_F c_gt).trans ((if_F ca).trans ((if_F cm).trans ((if_T cb).trans s1))))]
 have ck := ck_ok (x := some (.d (.str (sc (p ++ 32 :: q))))) (a := some (.d (.int (p.length : Nat)))) (b := some (.d (.int ((p.length + 1 : Nat) : Int)))) (c := c) (t := t) hw
 exact (seq_nx ck).trans rfl
end
theorem runs_lt : ∀ c ∈ RUNS, c < 1114112 := by decide
theorem mks_lt : ∀ c ∈ MKS, c < 1114112 := by decide
theorem good_lt : ∀ {ps : List Pc}, Good ps → ∀ c ∈ cds ps, c < 1114112
 | [], _, c, hc => by cases hc
 | .run cs tk :: r, h, c, hc => by
  rcases List.mem_append.mp hc with q | q
  ·exact runs_lt c (h.1.r c q)
  ·exact good_lt h.2.2 c q
 | .mk x :: r, h, c, hc => by
  rcases List.mem_append.mp hc with q | q
  ·rw [Pc.cs, List.mem_singleton] at q
   rw [q]; exact mks_lt x h.1
  ·exact good_lt h.2 c q
 | .arrow :: r, h, c, hc => by
  rcases List.mem_append.mp hc with q | q
  ·have : c = 45 ∨ c = 62 := by simpa [Pc.cs] using q
   omega
  ·exact good_lt (show Good r from h) c q
 | .sp :: r, h, c, hc => by
  rcases List.mem_append.mp hc with q | q
  ·rw [Pc.cs, List.mem_singleton] at q
   omega
  ·exact good_lt (show Good r from h) c q
theorem cs_pos {p : Pc} {r : List Pc} (h : Good (p :: r)) : 1 ≤ p.cs.length := by
 cases p with
 | run cs t =>
  have := h.1.ne
  cases cs with
  | nil => exact (this rfl).elim
  | cons _ _ => rw [Pc.cs, List.length_cons]; omega
 | mk _ => exact Nat.le_refl _
 | arrow => show 1 ≤ 2; omega
 | sp => exact Nat.le_refl _
theorem words_loop (n : Nat) {t : List MO} : ∀ (ps : List Pc) (p : List Nat) (ws : List Wd) (b c : Option S) (N : Nat), Good ps → ps.length < N → (p ++ cds ps).length < lim → (∀ y ∈ p, y < 1114112) → okw ws → ws.length + ps.length < lim →
  ∃ b' c', sWhile (M := MX) WT (WB (n + 4)) N (st5 (p ++ cds ps) ws p.length b c t) = .ok .nx (st5 (p ++ cds ps) (ws ++ wds p.length ps) (p ++ cds ps).length b' c' t)
 | [], p, ws, b, c, N + 1, _, _, hl, _, _, _ => by
  refine ⟨b, c, ?_⟩
  unfold sWhile
  rw [show cds [] = [] from rfl, List.append_nil] at hl ⊢
  rw [show WT (st5 p ws p.length b c t) = _ from t_at (by omega), decide_eq_false (by omega), show wds p.length [] = [] from rfl, List.append_nil]
  rfl
 | x :: r, p, ws, b, c, N + 1, hg, hN, hl, ho, hw, hn => by
  have hp := cs_pos hg
  rw [List.length_cons] at hN hn
  have e : p ++ cds (x :: r) = (p ++ x.cs) ++ cds r := by rw [List.append_assoc]; rfl
  have hal : ∀ y ∈ p ++ cds (x :: r), y < 1114112 := fun y hy => by
   rcases List.mem_append.mp hy with q | q
   ·exact ho y q
   ·exact good_lt hg y q
  have it : ∃ b' c', WB (n + 4) (st5 (p ++ cds (x :: r)) ws p.length b c t) = .ok .nx (st5 (p ++ cds (x :: r)) (ws ++ x.tk.map fun t => tw t (p.length : Nat)) (p.length + x.cs.length) b' c' t) := by
   cases x with
   | run cs tk => exact it_run n (q := cds r) hl hg.1 (stop_of hg.2.2 hg.2.1) hw (by omega)
   | mk d => exact it_mk (q := cds r) hl hg.1 hal hw (by omega)
   | arrow => exact it_arrow (q := cds r) hl hal hw (by omega)
   | sp =>
    obtain ⟨b', c', q⟩ := it_sp (n := n) (q := cds r) (p := p) (ws := ws) (b := b) (c := c) (t := t) hl hal hw
    exact ⟨b', c', by rw [show (Pc.sp.tk.map fun t => tw t (p.length : Nat)) = [] from rfl, List.append_nil]; exact q⟩
  obtain ⟨b1, c1, e1⟩ := it
  have hk : (x.tk.map fun t => tw t (p.length : Nat)).length ≤ 1 := by
   cases x <;> simp [Pc.tk]
  obtain ⟨b2, c2, e2⟩ := words_loop n r (p ++ x.cs) (ws ++ x.tk.map fun t => tw t (p.length : Nat)) b1 c1 N hg.tail (by omega) (by rw [← e]; exact hl) (fun y hy => hal y (by rw [e]; exact List.mem_append_left _ hy)) (okw_app hw (tk_okw x _ (fun _ _ => trivial))) (by rw [List.length_append]; omega)
  refine ⟨b2, c2, ?_⟩
  unfold sWhile
  rw [show WT (st5 (p ++ cds (x :: r)) ws p.length b c t) = _ from t_at (by omega), decide_eq_true (by rw [e, List.length_append, List.length_append]; omega)]
  simp only [Rs.bind_ok, if_true]
  rw [e1]
  simp only [Rs.bind_ok]
  rw [List.length_append, ← e, List.append_assoc] at e2
  exact e2
theorem words_ok (n : Nat) {ps : List Pc} {t : List MO} (hg : Good ps) (hl : (cds ps).length < lim) (hn : ps.length < lim) : mir (n + 5) .words_of [.d (.str (sc (cds ps)))] t = .ok (.l ((wds 0 ps).map Wd.d)) t := by
 show fnM 5 (m_words_of (mir (n + 4))) [.d (.str (sc (cds ps)))] t = _
 obtain ⟨b', c', e⟩ := words_loop n (t := t) ps [] [] none none whileN hg (Nat.lt_trans hn (by decide)) hl (fun _ h => by cases h) (fun _ h => by cases h) (by rw [List.length_nil]; omega)
 rw [List.nil_append, List.nil_append] at e
 have s0 : (sSet 1 (eLst aNil) : Sm MX Out) ⟨[some (.d (.str (sc (cds ps)))), none, none, none, none], t⟩ = .ok .nx ⟨[some (.d (.str (sc (cds ps)))), some (.l []), none, none, none], t⟩ := rfl
 have s1 : (sSet 2 (eC (.int 0)) : Sm MX Out) ⟨[some (.d (.str (sc (cds ps)))), some (.l []), none, none, none], t⟩ = .ok .nx (st5 (cds ps) [] 0 none none t) := rfl
 exact fnM_l (M := MX) (rho' := [some (.d (.str (sc (cds ps)))), some (.l ((wds 0 ps).map Wd.d)), some (.d (.int ((cds ps).length : Nat))), b', c']) ((seq_nx s0).trans ((seq_nx s1).trans ((seq_nx e).trans rfl)))
theorem at_wds : ∀ (ps : List Pc) (a k : Nat) (w : List Wd), w.length = k → AtW (w ++ wds a ps) k (tks ps)
 | [], _, _, _, _ => trivial
 | p :: r, a, k, w, hk => by
  have ih := at_wds r (a + p.cs.length) (k + (p.tk.map fun t => tw t (a : Nat)).length) (w ++ p.tk.map fun t => tw t (a : Nat)) (by rw [List.length_append, hk])
  rw [List.append_assoc] at ih
  show AtW (w ++ ((p.tk.map fun t => tw t (a : Nat)) ++ wds (a + p.cs.length) r)) k (p.tk ++ tks r)
  have g : ∀ t, p.tk = [t] → AtW (w ++ ((p.tk.map fun t => tw t (a : Nat)) ++ wds (a + p.cs.length) r)) k (p.tk ++ tks r) := fun t ht => by
   rw [ht] at ih ⊢
   refine ⟨⟨(a : Nat), ?_⟩, ih⟩
   rw [← hk, List.getElem?_append_right (Nat.le_refl _), Nat.sub_self]
   rfl
  cases p with
  | run cs t => exact g t rfl
  | mk c => exact g _ rfl
  | arrow => exact g _ rfl
  | sp => exact ih
theorem wds_len : ∀ (ps : List Pc) (a : Nat), (wds a ps).length = (tks ps).length
 | [], _ => rfl
 | p :: r, a => by
  show ((p.tk.map fun t => tw t (a : Nat)) ++ wds (a + p.cs.length) r).length = (p.tk ++ tks r).length
  rw [List.length_append, List.length_append, List.length_map, wds_len r]
theorem wds_f : ∀ (ps : List Pc) (a : Nat), Good ps → ∀ x ∈ wds a ps, PyData.strOk x.k = true ∧ flt x.v
 | [], _, _, x, hx => by cases hx
 | p :: r, a, hg, x, hx => by
  rcases List.mem_append.mp hx with q | q
  ·obtain ⟨t, ht, rfl⟩ := List.mem_map.mp q
   refine ⟨(tk_k t).1, ?_⟩
   cases p with
   | run cs tk =>
    have : t = tk := by simpa [Pc.tk] using ht
    rw [this]; exact hg.1.f
   | mk c =>
    have : t = .mark (sc [c]) := by simpa [Pc.tk] using ht
    rw [this]; exact .inr ⟨_, rfl, mks_ok c hg.1⟩
   | arrow =>
    have : t = .mark "->" := by simpa [Pc.tk] using ht
    rw [this]; exact .inr ⟨_, rfl, by decide +kernel⟩
   | sp => cases ht
  ·exact wds_f r _ hg.tail x q
noncomputable abbrev SMl : List Nat := RUNS.take 26
noncomputable abbrev SFl : List Nat := RUNS.take 36
theorem small_eq : c_SMALL = .str (sc SMl) := by kernel_rfl
noncomputable def toldL : List D := [.str "no", .str "same", .str "all", .str "some", .str "sort", .str "func", .str "rel", .str "mean", .str "taken", .str "shown", .str "by"]
noncomputable def formL : List D := [.str "held", .str "use", .str "pair", .str "first", .str "second", .str "either", .str "other", .str "cases", .str "take", .str "give", .str "void", .str "twice", .str "each", .str "at", .str "open", .str "alike", .str "swap", .str "members", .str "unlike", .str "fold", .str "unfold"]
theorem told_eq : c_TOLD = .tup toldL := by kernel_rfl
theorem form_eq : c_FORMS = .tup formL := by kernel_rfl
theorem dIn_told (x : Str) : dIn (.str x) c_TOLD = some (.d (.bl (inD (.str x) toldL))) := by
 rw [told_eq]
 show (dInB _ _).map _ = _
 simp only [dInB]
 rw [if_pos ⟨rfl, by decide +kernel⟩]
 rfl
theorem dIn_form (x : Str) : dIn (.str x) c_FORMS = some (.d (.bl (inD (.str x) formL))) := by
 rw [form_eq]
 show (dInB _ _).map _ = _
 simp only [dInB]
 rw [if_pos ⟨rfl, by decide +kernel⟩]
 rfl
theorem dNotIn_sc (c : Nat) (z : List Nat) : dNotIn (.str (sc [c])) (.str (sc z)) = some (.d (.bl (!decide (c ∈ z)))) := by
 show (dInB _ _).map _ = _
 simp only [dInB]
 rw [if_pos (by simp)]
 simp
theorem dIx_0 {c : Nat} {r : List Nat} (h : (c :: r).length ≤ lim) : dIx (.str (sc (c :: r))) (.int 0) = some (.d (.str (sc [c]))) := by
 have := dIx_sc (p := []) (c := c) (q := r) h
 exact this
theorem lc_in {n : Nat} {z cs : List Nat} {t : List MO} {f : Sm MX S} (hf : ∀ rho, opd f ⟨rho, t⟩ = .ok (.d (.str (sc z))) ⟨rho, t⟩) (hl : cs.length ≤ lim) : eLc (M := MX) (iAnyM (eVar 0)) (kName 1) (fun z => .ok true z) (eBin dIn (eVar 1) f) [1] ⟨[some (.d (.str (sc cs))), none], t⟩ = .ok (.l (cs.map fun c => .bl (decide (c ∈ z)))) ⟨[some (.d (.str (sc cs))), none], t⟩ := by
 refine elc_map (M := MX) (fun c => D.str (sc [c])) (z := ⟨[some (.d (.str (sc cs))), none], t⟩) ?_ rfl hl (fun c _ => ?_)
 ·unfold iAnyM escf
  simp only [eVar, List.getElem?_cons_zero, Rs.bind_ok, escS]
  simp [itemsD]
 ·walk_at "ex"
  have := hf [some (.d (.str (sc cs))), some (.d (.str (sc [c])))]
  unfold opd at this
  rw [this]
  walk_at "ex"
  rw [dIn_sc]
  walk_at "ex"
theorem fAll_bls {cs : List Nat} {p : Nat → Bool} : fAll [.lst (cs.map fun c => .bl (p c))] = some (.d (.bl (cs.all p))) := by
 have := blsOf_map p cs
 simp only [fAll, this, Option.map_some]
 rw [List.all_map]
 rfl
structure Nm (cs : List Nat) : Prop where
  l : cs.length ≤ 10
  h : ∃ c r, cs = c :: r ∧ c ∈ SMl
  a : ∀ c ∈ cs, c ∈ SFl
  t : inD (.str (sc cs)) toldL = false
  f : inD (.str (sc cs)) formL = false
theorem called_yes (n : Nat) {cs : List Nat} {t : List MO} (h : Nm cs) : mir (n + 1) .is_called [.d (.str (sc cs))] t = .ok (.d (.bl true)) t := by
 have hf : ∀ rho, opd (M := MX) (eBin dAdd (eC c_SMALL) (eC c_FIGURES)) ⟨rho, t⟩ = .ok (.d (.str (sc SFl))) ⟨rho, t⟩ := fun rho => by
  walk_at "ex"
  rw [runs_add]
  walk_at "ex"
 have e3 : (eFn fAll (aCons (opd (eLc (iAnyM (eVar 0)) (kName 1) (fun z => .ok true z) (eBin dIn (eVar 1) (eBin dAdd (eC c_SMALL) (eC c_FIGURES))) [1])) aNil) : Sm MX S) ⟨[some (.d (.str (sc cs))), none], t⟩ = .ok (.d (.bl true)) ⟨[some (.d (.str (sc cs))), none], t⟩ := by
  walk_at "ex"
  rw [lc_in (n := n) hf (Nat.le_trans h.l (by decide))]
  walk_at "ex"
  rw [fAll_bls (p := fun x => decide (x ∈ SFl)), show cs.all (fun x => decide (x ∈ SFl)) = true from List.all_eq_true.mpr (fun x hx => decide_eq_true (h.a x hx))]
  walk_at "ex"
 obtain ⟨c, r, rfl, hc⟩ := h.h
 have hl : (c :: r).length ≤ lim := Nat.le_trans h.l (by decide)
 show fnM 2 (m_is_called (mir n)) [.d (.str (sc (c :: r)))] t = _
 have c1 : (tOrM (tNotM (tOf (eChain dLe dLe (eC (.int 1)) (eFn fLen (aCons (opd (eVar 0)) aNil)) (eC c_MOST_LETTERS)))) (tOrM (tOf (eBin dNotIn (eBin dIx (eVar 0) (eC (.int 0))) (eC c_SMALL))) (tOrM (tOf (eBin dIn (eVar 0) (eC c_TOLD))) (tOf (eBin dIn (eVar 0) (eC c_FORMS))))) : Sm MX Bool) ⟨[some (.d (.str (sc (c :: r)))), none], t⟩ = .ok false ⟨[some (.d (.str (sc (c :: r)))), none], t⟩ := by
  walk_at "ex"
  rw [fLen_s (by rw [sc_len]; exact hl)]
  walk_at "ex"
  rw [sc_len]
  have e1 : (1 : Int) ≤ (((c :: r).length : Nat) : Int) := by rw [List.length_cons]; omega
  have e2 : (((c :: r).length : Nat) : Int) ≤ 10 := by have := h.l; omega
  simp only [e1, c_MOST_LETTERS]
  walk_at "ex"
  simp only [List.length_cons] at e2
  simp only [e2]
  walk_at "ex"
  rw [dIx_0 hl]
  walk_at "ex"
  rw [small_eq, dNotIn_sc, decide_eq_true hc]
  walk_at "ex"
  rw [dIn_told, h.t]
  walk_at "ex"
  rw [dIn_form, h.f]
  walk_at "ex"
 exact fnM_d (M := MX) ((seq_nx (if_F c1)).trans (ret_d e3))
theorem smf_run : ∀ c ∈ SFl, c ∈ RUNS := by decide
theorem nm_run {cs : List Nat} (h : Nm cs) : RunOk cs (.name (sc cs)) where
 ne := by
  obtain ⟨c, r, e, _⟩ := h.h
  rw [e]; intro q; cases q
 r := fun c hc => smf_run c (h.a c hc)
 f := .inr ⟨_, rfl, strOk_sc (fun c hc => runs_lt c (smf_run c (h.a c hc)))⟩
 w := fun n t => by
  show fnM 1 (m_run_word (mir (n + 3))) [.d (.str (sc cs))] t = _
  have c1 : (tOrM (tOf (eBin dIn (eVar 0) (eC c_TOLD))) (tOf (eBin dIn (eVar 0) (eC c_FORMS))) : Sm MX Bool) ⟨[some (.d (.str (sc cs)))], t⟩ = .ok false ⟨[some (.d (.str (sc cs)))], t⟩ := by
   walk_at "ex"
   rw [dIn_told, h.t]
   walk_at "ex"
   rw [dIn_form, h.f]
   walk_at "ex"
  have c2 : (tTru dTru (eCall (mir (n + 3) .is_called) (aCons (escf (eVar 0)) aNil)) : Sm MX Bool) ⟨[some (.d (.str (sc cs)))], t⟩ = .ok true ⟨[some (.d (.str (sc cs)))], t⟩ := by
   walk_at "ec"
   rw [called_yes (n + 2) h]
   rfl
  have r1 : (sRet (eTup (aCons (escf (eC (.str "name"))) (aCons (escf (eVar 0)) aNil))) : Sm MX Out) ⟨[some (.d (.str (sc cs)))], t⟩ = .ok (.rt (.d (.tup [.str "name", .str (sc cs)]))) ⟨[some (.d (.str (sc cs)))], t⟩ := rfl
  exact fnM_d (M := MX) ((seq_nx (if_F c1)).trans (seq_rt ((if_T c2).trans r1)))
theorem run_told {cs : List Nat} {x : Str} (e : sc cs = x) (ne : cs ≠ []) (hr : ∀ c ∈ cs, c ∈ RUNS) (h : inD (.str x) toldL = true) : RunOk cs (.told x) where
 ne := ne
 r := hr
 f := .inr ⟨_, rfl, by rw [← e]; exact strOk_sc (fun c hc => runs_lt c (hr c hc))⟩
 w := fun n t => by
  subst e
  show fnM 1 (m_run_word (mir (n + 3))) [.d (.str (sc cs))] t = _
  have c1 : (tOrM (tOf (eBin dIn (eVar 0) (eC c_TOLD))) (tOf (eBin dIn (eVar 0) (eC c_FORMS))) : Sm MX Bool) ⟨[some (.d (.str (sc cs)))], t⟩ = .ok true ⟨[some (.d (.str (sc cs)))], t⟩ := by
   walk_at "ex"
   rw [dIn_told, h]
   walk_at "ex"
  have r1 : (sRet (eTup (aCons (escf (eC (.str "told"))) (aCons (escf (eVar 0)) aNil))) : Sm MX Out) ⟨[some (.d (.str (sc cs)))], t⟩ = .ok (.rt (.d (.tup [.str "told", .str (sc cs)]))) ⟨[some (.d (.str (sc cs)))], t⟩ := rfl
  exact fnM_d (M := MX) (seq_rt ((if_T c1).trans r1))
noncomputable def cAll : List Nat := [97, 108, 108]
noncomputable def cSome : List Nat := [115, 111, 109, 101]
noncomputable def cNo : List Nat := [110, 111]
theorem r_all : RunOk cAll (.told "all") := run_told (by kernel_rfl) (by decide) (by decide) (by decide +kernel)
theorem r_some : RunOk cSome (.told "some") := run_told (by kernel_rfl) (by decide) (by decide) (by decide +kernel)
theorem r_no : RunOk cNo (.told "no") := run_told (by kernel_rfl) (by decide) (by decide) (by decide +kernel)
noncomputable def dg (k : Nat) : List Nat := (Str.ofString (toString (k : Int))).cps.toList
theorem dg_sc (k : Nat) : sc (dg k) = Str.ofString (toString (k : Int)) := by simp [dg, sc]
theorem var_w : ∀ (k : Nat), k < 40 → ∀ (n : Nat) (t : List MO), mir (n + 4) .run_word [.d (.str (sc (88 :: dg k)))] t = .ok (.d (.tup [.str "var", .int (k : Nat)])) t
 | 0, _ => fun n t => by kernel_rfl
 | 1, _ => fun n t => by kernel_rfl
 | 2, _ => fun n t => by kernel_rfl
 | 3, _ => fun n t => by kernel_rfl
 | 4, _ => fun n t => by kernel_rfl
 | 5, _ => fun n t => by kernel_rfl
 | 6, _ => fun n t => by kernel_rfl
 | 7, _ => fun n t => by kernel_rfl
 | 8, _ => fun n t => by kernel_rfl
 | 9, _ => fun n t => by kernel_rfl
 | 10, _ => fun n t => by kernel_rfl
 | 11, _ => fun n t => by kernel_rfl
 | 12, _ => fun n t => by kernel_rfl
 | 13, _ => fun n t => by kernel_rfl
 | 14, _ => fun n t => by kernel_rfl
 | 15, _ => fun n t => by kernel_rfl
 | 16, _ => fun n t => by kernel_rfl
 | 17, _ => fun n t => by kernel_rfl
 | 18, _ => fun n t => by kernel_rfl
 | 19, _ => fun n t => by kernel_rfl
 | 20, _ => fun n t => by kernel_rfl
 | 21, _ => fun n t => by kernel_rfl
 | 22, _ => fun n t => by kernel_rfl
 | 23, _ => fun n t => by kernel_rfl
 | 24, _ => fun n t => by kernel_rfl
 | 25, _ => fun n t => by kernel_rfl
 | 26, _ => fun n t => by kernel_rfl
 | 27, _ => fun n t => by kernel_rfl
 | 28, _ => fun n t => by kernel_rfl
 | 29, _ => fun n t => by kernel_rfl
 | 30, _ => fun n t => by kernel_rfl
 | 31, _ => fun n t => by kernel_rfl
 | 32, _ => fun n t => by kernel_rfl
 | 33, _ => fun n t => by kernel_rfl
 | 34, _ => fun n t => by kernel_rfl
 | 35, _ => fun n t => by kernel_rfl
 | 36, _ => fun n t => by kernel_rfl
 | 37, _ => fun n t => by kernel_rfl
 | 38, _ => fun n t => by kernel_rfl
 | 39, _ => fun n t => by kernel_rfl
 | k + 40, h => by omega
theorem var_r : ∀ (k : Nat), k < 40 → ∀ c ∈ 88 :: dg k, c ∈ RUNS := by decide +kernel
theorem var_l : ∀ (k : Nat), k < 40 → (dg k).length ≤ 2 := by decide +kernel
theorem r_var (k : Nat) (h : k < 40) : RunOk (88 :: dg k) (.var (k : Nat)) where
 ne := by intro e; cases e
 r := var_r k h
 w := var_w k h
 f := .inl ⟨_, rfl⟩
noncomputable abbrev cdn (f : Str) : List Nat := f.cps.toList
theorem sc_cdn (f : Str) : sc (cdn f) = f := by simp [sc]
mutual
noncomputable def pcT (m : Int) : Th → List Pc
 | .var k => [.run (88 :: dg (m - 1 - k).toNat) (.var (m - 1 - k))]
 | .call f as => .run (cdn f) (.name f) :: pcA m as
 | _ => []
noncomputable def pcA (m : Int) : List Th → List Pc
 | [] => []
 | x :: r => .mk 40 :: (pcT m x ++ pcR m r)
noncomputable def pcR (m : Int) : List Th → List Pc
 | [] => [.mk 41]
 | x :: r => .mk 44 :: .sp :: (pcT m x ++ pcR m r)
end
mutual
noncomputable def gT (m : Int) : Th → Prop
 | .var k => 0 ≤ k ∧ k < m ∧ m ≤ 40
 | .call f as => Nm (cdn f) ∧ gTs m as
 | _ => False
noncomputable def gTs (m : Int) : List Th → Prop
 | [] => True
 | x :: r => gT m x ∧ gTs m r
end
theorem nm_ok {f : Str} (h : Nm (cdn f)) : PyData.strOk f = true := by
 rw [← sc_cdn f]
 exact strOk_sc (fun c hc => runs_lt c (smf_run c (h.a c hc)))
mutual
theorem gT_tm {m : Int} : ∀ {T : Th}, gT m T → tmOk m T
 | .var k, h => by rw [gT] at h; rw [tmOk]; exact ⟨h.1, h.2.1⟩
 | .call f as, h => by rw [gT] at h; rw [tmOk]; exact ⟨nm_ok h.1, gTs_tm h.2⟩
 | .rel _ _, h => h.elim
 | .same _ _, h => h.elim
 | .no, h => h.elim
 | .and _ _, h => h.elim
 | .or _ _, h => h.elim
 | .imp _ _, h => h.elim
 | .all _ _, h => h.elim
 | .some _ _, h => h.elim
theorem gTs_tm {m : Int} : ∀ {ts : List Th}, gTs m ts → tmsOk m ts
 | [], _ => by rw [tmsOk]; trivial
 | x :: r, h => by rw [gTs] at h; rw [tmsOk]; exact ⟨gT_tm h.1, gTs_tm h.2⟩
end
theorem cds_app : ∀ (a b : List Pc), cds (a ++ b) = cds a ++ cds b
 | [], b => rfl
 | p :: r, b => by
  show p.cs ++ cds (r ++ b) = (p.cs ++ cds r) ++ cds b
  rw [cds_app r b, List.append_assoc]
theorem tks_app : ∀ (a b : List Pc), tks (a ++ b) = tks a ++ tks b
 | [], b => rfl
 | p :: r, b => by
  show p.tk ++ tks (r ++ b) = (p.tk ++ tks r) ++ tks b
  rw [tks_app r b, List.append_assoc]
theorem par_l : sc [40] = Str.ofString "(" := by kernel_rfl
theorem par_r : sc [41] = Str.ofString ")" := by kernel_rfl
theorem com_m : sc [44] = Str.ofString "," := by kernel_rfl
mutual
theorem tks_T (m : Int) : ∀ {T : Th}, gT m T → tks (pcT m T) = tkT m T
 | .var k, h => by rw [pcT, tkT]; rfl
 | .call f as, h => by
  rw [gT] at h
  rw [pcT, tkT]
  show [Tk.name f] ++ tks (pcA m as) = _
  rw [tks_A m h.2]; rfl
 | .rel _ _, h => h.elim
 | .same _ _, h => h.elim
 | .no, h => h.elim
 | .and _ _, h => h.elim
 | .or _ _, h => h.elim
 | .imp _ _, h => h.elim
 | .all _ _, h => h.elim
 | .some _ _, h => h.elim
theorem tks_A (m : Int) : ∀ {as : List Th}, gTs m as → tks (pcA m as) = tkA m as
 | [], _ => by rw [pcA, tkA]; rfl
 | x :: r, h => by
  rw [gTs] at h
  rw [pcA, tkA]
  show [Tk.mark (sc [40])] ++ tks (pcT m x ++ pcR m r) = _
  rw [tks_app, tks_T m h.1, tks_R m h.2, par_l]; rfl
theorem tks_R (m : Int) : ∀ {as : List Th}, gTs m as → tks (pcR m as) = tkR m as
 | [], _ => by rw [pcR, tkR, ← par_r]; rfl
 | x :: r, h => by
  rw [gTs] at h
  rw [pcR, tkR]
  show [Tk.mark (sc [44])] ++ tks (pcT m x ++ pcR m r) = _
  rw [tks_app, tks_T m h.1, tks_R m h.2, com_m]; rfl
end
theorem mA (m : Int) (as : List Th) (q : List Pc) (h : isRun q = false) : isRun (pcA m as ++ q) = false := by
 cases as with
 | nil => rw [pcA]; exact h
 | cons x r => rw [pcA]; rfl
theorem mR (m : Int) (as : List Th) (q : List Pc) : isRun (pcR m as ++ q) = false := by
 cases as <;> rw [pcR] <;> rfl
mutual
theorem good_T {m : Int} {q : List Pc} (g : Good q) (n : isRun q = false) : ∀ {T : Th}, gT m T → Good (pcT m T ++ q)
 | .var k, h => by
  rw [gT] at h
  rw [pcT]
  have e : ((m - 1 - k).toNat : Int) = m - 1 - k := Int.toNat_of_nonneg (by omega)
  have := r_var (m - 1 - k).toNat (by omega)
  rw [e] at this
  exact ⟨this, n, g⟩
 | .call f as, h => by
  rw [gT] at h
  rw [pcT]
  have := nm_run h.1
  rw [sc_cdn] at this
  exact ⟨this, mA m as q n, good_A g n h.2⟩
 | .rel _ _, h => h.elim
 | .same _ _, h => h.elim
 | .no, h => h.elim
 | .and _ _, h => h.elim
 | .or _ _, h => h.elim
 | .imp _ _, h => h.elim
 | .all _ _, h => h.elim
 | .some _ _, h => h.elim
theorem good_A {m : Int} {q : List Pc} (g : Good q) (n : isRun q = false) : ∀ {as : List Th}, gTs m as → Good (pcA m as ++ q)
 | [], _ => by rw [pcA]; exact g
 | x :: r, h => by
  rw [gTs] at h
  rw [pcA, List.cons_append, List.append_assoc]
  exact ⟨by decide, good_T (good_R g h.2) (mR m r q) h.1⟩
theorem good_R {m : Int} {q : List Pc} (g : Good q) : ∀ {as : List Th}, gTs m as → Good (pcR m as ++ q)
 | [], _ => by rw [pcR]; exact ⟨by decide, g⟩
 | x :: r, h => by
  rw [gTs] at h
  rw [pcR, List.cons_append, List.cons_append, List.append_assoc]
  exact ⟨by decide, good_T (good_R g h.2) (mR m r q) h.1⟩
end
mutual
theorem len_T {m : Int} : ∀ {T : Th}, gT m T → (cds (pcT m T)).length + 2 ≤ 14 * size T
 | .var k, h => by
  rw [gT] at h
  rw [pcT, size]
  have := var_l (m - 1 - k).toNat (by omega)
  show ((88 :: dg (m - 1 - k).toNat) ++ []).length + 2 ≤ 14 * 1
  rw [List.append_nil, List.length_cons]; omega
 | .call f as, h => by
  rw [gT] at h
  rw [pcT, size]
  show (cdn f ++ cds (pcA m as)).length + 2 ≤ _
  rw [List.length_append]
  have := len_A7 h.2
  have := h.1.l
  omega
 | .rel _ _, h => h.elim
 | .same _ _, h => h.elim
 | .no, h => h.elim
 | .and _ _, h => h.elim
 | .or _ _, h => h.elim
 | .imp _ _, h => h.elim
 | .all _ _, h => h.elim
 | .some _ _, h => h.elim
theorem len_A7 {m : Int} : ∀ {as : List Th}, gTs m as → (cds (pcA m as)).length ≤ 14 * sizes as
 | [], _ => by rw [pcA]; exact Nat.zero_le _
 | x :: r, h => by
  rw [gTs] at h
  rw [pcA, sizes]
  show (40 :: cds (pcT m x ++ pcR m r)).length ≤ _
  rw [cds_app, List.length_cons, List.length_append]
  have := len_T h.1
  have := len_R h.2
  omega
theorem len_R {m : Int} : ∀ {as : List Th}, gTs m as → (cds (pcR m as)).length ≤ 1 + 14 * sizes as
 | [], _ => by rw [pcR]; exact Nat.le_add_right 1 _
 | x :: r, h => by
  rw [gTs] at h
  rw [pcR, sizes]
  show (44 :: 32 :: cds (pcT m x ++ pcR m r)).length ≤ _
  rw [cds_app, List.length_cons, List.length_cons, List.length_append]
  have := len_T h.1
  have := len_R h.2
  omega
end
noncomputable abbrev txT (m : Int) (T : Th) : Str := sc (cds (pcT m T))
theorem strsL_map (ys : List Str) : strsL (ys.map D.str) = some ys := by
 induction ys with
 | nil => rfl
 | cons y r ih => rw [List.map_cons, strsL, ih]; rfl
theorem sep_sc : Str.ofString ", " = sc [44, 32] := by kernel_rfl
theorem join_R (m : Int) : ∀ (x : Th) (r : List Th), Str.join (sc [44, 32]) ((x :: r).map (txT m)) ++ sc [41] = sc (cds (pcT m x ++ pcR m r))
 | x, [] => by
  rw [pcR, cds_app]
  show txT m x ++ sc [41] = _
  rw [sc_app]; rfl
 | x, y :: r => by
  have ih := join_R m y r
  rw [pcR, cds_app]
  show (txT m x ++ sc [44, 32] ++ Str.join (sc [44, 32]) ((y :: r).map (txT m))) ++ sc [41] = sc (cds (pcT m x) ++ (44 :: 32 :: cds (pcT m y ++ pcR m r)))
  have assoc : ∀ a b c : Str, a ++ b ++ c = a ++ (b ++ c) := fun a b c => by
   show Str.append (Str.append a b) c = Str.append a (Str.append b c)
   simp [Str.append, Array.append_assoc]
  rw [assoc, ih, sc_app, sc_app, List.append_assoc]
  rfl
theorem join_len (m : Int) : ∀ {as : List Th}, gTs m as → ((as.map (txT m)).map (·.length)).sum + as.length * 2 ≤ 14 * sizes as
 | [], _ => Nat.zero_le _
 | x :: r, h => by
  rw [gTs] at h
  have := join_len m h.2
  have := len_T h.1
  rw [List.map_cons, List.map_cons, List.sum_cons, List.length_cons, sizes, sc_len]
  omega
theorem fStr_k (k : Nat) (h : k < 40) : fStr [.int (k : Nat)] = some (.d (.str (sc (dg k)))) := by
 unfold fStr
 simp only
 have : ∀ k : Nat, k < 40 → (k : Int).natAbs.log2 < 1920 := by decide +kernel
 rw [if_pos (this k h), dg_sc]
theorem X_sc : Str.ofString "X" = sc [88] := by kernel_rfl
theorem dAdd_sc {a b : List Nat} (h : a.length + b.length ≤ lim) : dAdd (.str (sc a)) (.str (sc b)) = some (.d (.str (sc (a ++ b)))) := by
 rw [dAdd_s (by rw [sc_len, sc_len]; exact h), sc_app]
theorem depth_mem {t : Th} : ∀ {ts : List Th}, t ∈ ts → depth t ≤ depths ts
 | u :: r, h => by
  rw [depths]
  rcases List.mem_cons.mp h with rfl | h
  ·omega
  ·have := depth_mem h; omega
theorem gTs_mem {m : Int} : ∀ {as : List Th}, gTs m as → ∀ x ∈ as, gT m x
 | y :: r, h, x, hx => by
  rw [gTs] at h
  rcases List.mem_cons.mp hx with rfl | hx
  ·exact h.1
  ·exact gTs_mem h.2 x hx
theorem called_text_ok {n : Nat} {m : Int} {f : Str} {as : List Th} {t : List MO} (hn : Nm (cdn f)) (ha : gTs m as) (hs : sizes as ≤ 5000) (ih : ∀ x ∈ as, mir n .term_text [.d (enc x), .d (.int m)] t = .ok (.d (.str (txT m x))) t) : mir (n + 1) .called_text [.d (.str f), .d (.tup (encs as)), .d (.int m)] t = .ok (.d (.str (sc (cdn f ++ cds (pcA m as))))) t := by
 show fnM 4 (m_called_text (mir n)) [.d (.str f), .d (.tup (encs as)), .d (.int m)] t = _
 cases as with
 | nil =>
  rw [pcA, show encs [] = [] from by rw [encs], show cds [] = [] from rfl, List.append_nil, sc_cdn]
  rfl
 | cons x r =>
  have hL : 14 * sizes (x :: r) + 20 ≤ lim := by
   have : 14 * 5000 + 20 ≤ lim := by decide
   omega
  have c1 : (tOf (eBin (dEq0 false) (eVar 1) (eTup aNil)) : Sm MX Bool) ⟨[some (.d (.str f)), some (.d (.tup (encs (x :: r)))), some (.d (.int m)), none], t⟩ = .ok false ⟨[some (.d (.str f)), some (.d (.tup (encs (x :: r)))), some (.d (.int m)), none], t⟩ := by
   rw [encs]; rfl
  have l1 : eLc (M := MX) (iAnyM (eVar 1)) (kName 3) (fun z => .ok true z) (eCall (mir n .term_text) (aCons (escf (eVar 3)) (aCons (escf (eVar 2)) aNil))) [3] ⟨[some (.d (.str f)), some (.d (.tup (encs (x :: r)))), some (.d (.int m)), none], t⟩ = .ok (.l ((x :: r).map fun y => .str (txT m y))) ⟨[some (.d (.str f)), some (.d (.tup (encs (x :: r)))), some (.d (.int m)), none], t⟩ := by
   refine elc_map (M := MX) enc (z := ⟨[some (.d (.str f)), some (.d (.tup (encs (x :: r)))), some (.d (.int m)), none], t⟩) ?_ rfl (by have := sizes_len (x :: r); omega) (fun y hy => ?_)
   ·unfold iAnyM escf
    simp only [eVar, List.getElem?_cons_zero, List.getElem?_cons_succ, Rs.bind_ok, escS]
    rw [encs_map]
    simp [itemsD]
   ·walk_at "ec"
    rw [ih y hy]
    walk_at "ec"
  have j1 : dJoin ", " (.lst ((x :: r).map fun y => .str (txT m y))) = some (.d (.str (Str.join (sc [44, 32]) ((x :: r).map (txT m))))) := by
   unfold dJoin
   have e : (x :: r).map (fun y => D.str (txT m y)) = ((x :: r).map (txT m)).map D.str := by rw [List.map_map]; rfl
   simp only [e, strsL_map]
   rw [if_pos (by rw [sep_sc, sc_len]; have := join_len m ha; rw [List.length_map]; show _ + _ * 2 ≤ _; omega), TL.join_eq, sep_sc]
  have jl : (Str.join (sc [44, 32]) ((x :: r).map (txT m))).length + 1 ≤ 14 * sizes (x :: r) := by
   have h1 : (Str.join (sc [44, 32]) ((x :: r).map (txT m)) ++ sc [41]).length = (cds (pcT m x ++ pcR m r)).length := by rw [join_R m x r]; exact sc_len _
   rw [len_app] at h1
   have h2 := len_A7 ha
   rw [pcA] at h2
   have h3 : (40 :: cds (pcT m x ++ pcR m r)).length ≤ 14 * sizes (x :: r) := h2
   rw [List.length_cons] at h3
   have h4 : (sc [41]).length = 1 := rfl
   omega
  have hf := hn.l
  have fin : (eBin dAdd (eBin dAdd (eBin dAdd (eVar 0) (eC (.str "("))) (eUn (dJoin ", ") (eLc (iAnyM (eVar 1)) (kName 3) (fun z => .ok true z) (eCall (mir n .term_text) (aCons (escf (eVar 3)) (aCons (escf (eVar 2)) aNil))) [3]))) (eC (.str ")")) : Sm MX S) ⟨[some (.d (.str f)), some (.d (.tup (encs (x :: r)))), some (.d (.int m)), none], t⟩ = .ok (.d (.str (sc (cdn f ++ cds (pcA m (x :: r)))))) ⟨[some (.d (.str f)), some (.d (.tup (encs (x :: r)))), some (.d (.int m)), none], t⟩ := by
   walk_at "ex"
   rw [show dAdd (.str f) (.str "(") = some (.d (.str (sc (cdn f ++ [40])))) from by
    rw [← par_l]; conv => lhs; rw [← sc_cdn f]
    exact dAdd_sc (by show _ + 1 ≤ _; omega)]
   walk_at "ex"
   rw [l1]
   walk_at "ex"
   have j1' := j1
   simp only [List.map_cons] at j1'
   rw [j1']
   walk_at "ex"
   have jl' := jl
   simp only [List.map_cons] at jl'
   rw [dAdd_s (by rw [sc_len, List.length_append]; show _ + 1 + _ ≤ _; omega)]
   walk_at "ex"
   rw [dAdd_s (by rw [len_app, sc_len, List.length_append]; show _ + 1 + _ + 1 ≤ _; omega)]
   walk_at "ex"
   have assoc : ∀ a b c : Str, a ++ b ++ c = a ++ (b ++ c) := fun a b c => by
    show Str.append (Str.append a b) c = Str.append a (Str.append b c)
    simp [Str.append, Array.append_assoc]
   have jr := join_R m x r
   simp only [List.map_cons] at jr
   rw [← par_r, assoc, jr, sc_app, pcA, List.append_assoc]
   rfl
  exact fnM_d (M := MX) ((seq_nx (if_F c1)).trans (ret_d fin))
theorem term_text_ok (m : Int) (t : List MO) : ∀ (k : Nat) (T : Th), depth T ≤ k → gT m T → size T ≤ 5000 → ∀ n, mir (n + 2 * k) .term_text [.d (enc T), .d (.int m)] t = .ok (.d (.str (txT m T))) t
 | 0, T, hk, _, _, _ => by rw [depth_kids] at hk; omega
 | k + 1, .var v, _, h, _, n => by
  rw [gT] at h
  show fnM 2 (m_term_text (mir (n + 2 * k + 1))) [.d (enc (.var v)), .d (.int m)] t = _
  have e : ((m - 1 - v).toNat : Int) = m - 1 - v := Int.toNat_of_nonneg (by omega)
  have hl := var_l (m - 1 - v).toNat (by omega)
  have c1 : (tOf (eBin dEq (eBin dIx (eVar 0) (eC (.int 0))) (eC (.str "var"))) : Sm MX Bool) ⟨[some (.d (enc (.var v))), some (.d (.int m))], t⟩ = .ok true ⟨[some (.d (enc (.var v))), some (.d (.int m))], t⟩ := by
   rw [enc]; kernel_rfl
  have e1 : (eBin dAdd (eC (.str "X")) (eFn fStr (aCons (opd (eBin dSub (eBin dSub (eVar 1) (eC (.int 1))) (eBin dIx (eVar 0) (eC (.int 1))))) aNil)) : Sm MX S) ⟨[some (.d (enc (.var v))), some (.d (.int m))], t⟩ = .ok (.d (.str (txT m (.var v)))) ⟨[some (.d (enc (.var v))), some (.d (.int m))], t⟩ := by
   rw [enc]
   walk_at "ex"
   rw [show dIx (.tup [.str "var", .int v]) (.int 1) = some (.d (.int v)) from rfl]
   walk_at "ex"
   rw [← e, fStr_k _ (by omega)]
   walk_at "ex"
   rw [X_sc, dAdd_sc (by show 1 + _ ≤ _; have : 10 ≤ lim := (by decide); omega)]
   walk_at "ex"
   rw [txT, pcT]
   show _ = Rs.ok (S.d (D.str (sc ((88 :: dg (m - 1 - v).toNat) ++ [])))) _
   rw [List.append_nil]
   all_goals rfl
  exact fnM_d (M := MX) (seq_rt ((if_T c1).trans (ret_d e1)))
 | k + 1, .call f as, hk, h, hs, n => by
  rw [gT] at h
  rw [depth] at hk
  rw [size] at hs
  show fnM 2 (m_term_text (mir (n + 2 * k + 1))) [.d (enc (.call f as)), .d (.int m)] t = _
  have c1 : (tOf (eBin dEq (eBin dIx (eVar 0) (eC (.int 0))) (eC (.str "var"))) : Sm MX Bool) ⟨[some (.d (enc (.call f as))), some (.d (.int m))], t⟩ = .ok false ⟨[some (.d (enc (.call f as))), some (.d (.int m))], t⟩ := by
   rw [enc]; kernel_rfl
  have q := called_text_ok (n := n + 2 * k) (m := m) (f := f) (as := as) (t := t) h.1 h.2 (by omega) (fun x hx => term_text_ok m t k x (by have := depth_mem hx; omega) (gTs_mem h.2 x hx) (by have := mem_size hx; omega) n)
  have e1 : (eCall (mir (n + 2 * k + 1) .called_text) (aCons (escf (eBin dIx (eVar 0) (eC (.int 1)))) (aCons (escf (eBin dIx (eVar 0) (eC (.int 2)))) (aCons (escf (eVar 1)) aNil))) : Sm MX S) ⟨[some (.d (enc (.call f as))), some (.d (.int m))], t⟩ = .ok (.d (.str (txT m (.call f as)))) ⟨[some (.d (enc (.call f as))), some (.d (.int m))], t⟩ := by
   rw [enc]
   walk_at "ec"
   rw [show dIx (.tup [.str "call", .str f, .tup (encs as)]) (.int 1) = some (.d (.str f)) from rfl]
   walk_at "ec"
   rw [show dIx (.tup [.str "call", .str f, .tup (encs as)]) (.int 2) = some (.d (.tup (encs as))) from rfl]
   walk_at "ec"
   rw [q]
   walk_at "ec"
   rw [txT, pcT]
   rfl
  exact fnM_d (M := MX) ((seq_nx (if_F c1)).trans (ret_d e1))
 | k + 1, .rel _ _, _, h, _, _ => h.elim
 | k + 1, .same _ _, _, h, _, _ => h.elim
 | k + 1, .no, _, h, _, _ => h.elim
 | k + 1, .and _ _, _, h, _, _ => h.elim
 | k + 1, .or _ _, _, h, _, _ => h.elim
 | k + 1, .imp _ _, _, h, _, _ => h.elim
 | k + 1, .all _ _, _, h, _, _ => h.elim
 | k + 1, .some _ _, _, h, _, _ => h.elim
theorem _law_called_ok {n : Nat} {m : Int} {f : Str} {as : List Th} {t : List MO} (hn : Nm (cdn f)) (ha : gTs m as) (hs : sizes as ≤ 5000) (ih : ∀ x ∈ as, mir n ._law_term_text [.d (enc x), .d (.int m)] t = .ok (.d (.str (txT m x))) t) : mir (n + 1) ._law_called [.d (.str f), .d (.tup (encs as)), .d (.int m)] t = .ok (.d (.str (sc (cdn f ++ cds (pcA m as))))) t := by
 show fnM 4 (m__law_called (mir n)) [.d (.str f), .d (.tup (encs as)), .d (.int m)] t = _
 cases as with
 | nil =>
  rw [pcA, show encs [] = [] from by rw [encs], show cds [] = [] from rfl, List.append_nil, sc_cdn]
  rfl
 | cons x r =>
  have hL : 14 * sizes (x :: r) + 20 ≤ lim := by
   have : 14 * 5000 + 20 ≤ lim := by decide
   omega
  have c1 : (tOf (eBin (dEq0 false) (eVar 1) (eTup aNil)) : Sm MX Bool) ⟨[some (.d (.str f)), some (.d (.tup (encs (x :: r)))), some (.d (.int m)), none], t⟩ = .ok false ⟨[some (.d (.str f)), some (.d (.tup (encs (x :: r)))), some (.d (.int m)), none], t⟩ := by
   rw [encs]; rfl
  have l1 : eLc (M := MX) (iAnyM (eVar 1)) (kName 3) (fun z => .ok true z) (eCall (mir n ._law_term_text) (aCons (escf (eVar 3)) (aCons (escf (eVar 2)) aNil))) [3] ⟨[some (.d (.str f)), some (.d (.tup (encs (x :: r)))), some (.d (.int m)), none], t⟩ = .ok (.l ((x :: r).map fun y => .str (txT m y))) ⟨[some (.d (.str f)), some (.d (.tup (encs (x :: r)))), some (.d (.int m)), none], t⟩ := by
   refine elc_map (M := MX) enc (z := ⟨[some (.d (.str f)), some (.d (.tup (encs (x :: r)))), some (.d (.int m)), none], t⟩) ?_ rfl (by have := sizes_len (x :: r); omega) (fun y hy => ?_)
   ·unfold iAnyM escf
    simp only [eVar, List.getElem?_cons_zero, List.getElem?_cons_succ, Rs.bind_ok, escS]
    rw [encs_map]
    simp [itemsD]
   ·walk_at "ec"
    rw [ih y hy]
    walk_at "ec"
  have j1 : dJoin ", " (.lst ((x :: r).map fun y => .str (txT m y))) = some (.d (.str (Str.join (sc [44, 32]) ((x :: r).map (txT m))))) := by
   unfold dJoin
   have e : (x :: r).map (fun y => D.str (txT m y)) = ((x :: r).map (txT m)).map D.str := by rw [List.map_map]; rfl
   simp only [e, strsL_map]
   rw [if_pos (by rw [sep_sc, sc_len]; have := join_len m ha; rw [List.length_map]; show _ + _ * 2 ≤ _; omega), TL.join_eq, sep_sc]
  have jl : (Str.join (sc [44, 32]) ((x :: r).map (txT m))).length + 1 ≤ 14 * sizes (x :: r) := by
   have h1 : (Str.join (sc [44, 32]) ((x :: r).map (txT m)) ++ sc [41]).length = (cds (pcT m x ++ pcR m r)).length := by rw [join_R m x r]; exact sc_len _
   rw [len_app] at h1
   have h2 := len_A7 ha
   rw [pcA] at h2
   have h3 : (40 :: cds (pcT m x ++ pcR m r)).length ≤ 14 * sizes (x :: r) := h2
   rw [List.length_cons] at h3
   have h4 : (sc [41]).length = 1 := rfl
   omega
  have hf := hn.l
  have fin : (eBin dAdd (eBin dAdd (eBin dAdd (eVar 0) (eC (.str "("))) (eUn (dJoin ", ") (eLc (iAnyM (eVar 1)) (kName 3) (fun z => .ok true z) (eCall (mir n ._law_term_text) (aCons (escf (eVar 3)) (aCons (escf (eVar 2)) aNil))) [3]))) (eC (.str ")")) : Sm MX S) ⟨[some (.d (.str f)), some (.d (.tup (encs (x :: r)))), some (.d (.int m)), none], t⟩ = .ok (.d (.str (sc (cdn f ++ cds (pcA m (x :: r)))))) ⟨[some (.d (.str f)), some (.d (.tup (encs (x :: r)))), some (.d (.int m)), none], t⟩ := by
   walk_at "ex"
   rw [show dAdd (.str f) (.str "(") = some (.d (.str (sc (cdn f ++ [40])))) from by
    rw [← par_l]; conv => lhs; rw [← sc_cdn f]
    exact dAdd_sc (by show _ + 1 ≤ _; omega)]
   walk_at "ex"
   rw [l1]
   walk_at "ex"
   have j1' := j1
   simp only [List.map_cons] at j1'
   rw [j1']
   walk_at "ex"
   have jl' := jl
   simp only [List.map_cons] at jl'
   rw [dAdd_s (by rw [sc_len, List.length_append]; show _ + 1 + _ ≤ _; omega)]
   walk_at "ex"
   rw [dAdd_s (by rw [len_app, sc_len, List.length_append]; show _ + 1 + _ + 1 ≤ _; omega)]
   walk_at "ex"
   have assoc : ∀ a b c : Str, a ++ b ++ c = a ++ (b ++ c) := fun a b c => by
    show Str.append (Str.append a b) c = Str.append a (Str.append b c)
    simp [Str.append, Array.append_assoc]
   have jr := join_R m x r
   simp only [List.map_cons] at jr
   rw [← par_r, assoc, jr, sc_app, pcA, List.append_assoc]
   rfl
  exact fnM_d (M := MX) ((seq_nx (if_F c1)).trans (ret_d fin))
theorem _law_term_text_ok (m : Int) (t : List MO) : ∀ (k : Nat) (T : Th), depth T ≤ k → gT m T → size T ≤ 5000 → ∀ n, mir (n + 2 * k) ._law_term_text [.d (enc T), .d (.int m)] t = .ok (.d (.str (txT m T))) t
 | 0, T, hk, _, _, _ => by rw [depth_kids] at hk; omega
 | k + 1, .var v, _, h, _, n => by
  rw [gT] at h
  show fnM 2 (m__law_term_text (mir (n + 2 * k + 1))) [.d (enc (.var v)), .d (.int m)] t = _
  have e : ((m - 1 - v).toNat : Int) = m - 1 - v := Int.toNat_of_nonneg (by omega)
  have hl := var_l (m - 1 - v).toNat (by omega)
  have c1 : (tOf (eBin dEq (eBin dIx (eVar 0) (eC (.int 0))) (eC (.str "var"))) : Sm MX Bool) ⟨[some (.d (enc (.var v))), some (.d (.int m))], t⟩ = .ok true ⟨[some (.d (enc (.var v))), some (.d (.int m))], t⟩ := by
   rw [enc]; kernel_rfl
  have e1 : (eBin dAdd (eC (.str "X")) (eFn fStr (aCons (opd (eBin dSub (eBin dSub (eVar 1) (eC (.int 1))) (eBin dIx (eVar 0) (eC (.int 1))))) aNil)) : Sm MX S) ⟨[some (.d (enc (.var v))), some (.d (.int m))], t⟩ = .ok (.d (.str (txT m (.var v)))) ⟨[some (.d (enc (.var v))), some (.d (.int m))], t⟩ := by
   rw [enc]
   walk_at "ex"
   rw [show dIx (.tup [.str "var", .int v]) (.int 1) = some (.d (.int v)) from rfl]
   walk_at "ex"
   rw [← e, fStr_k _ (by omega)]
   walk_at "ex"
   rw [X_sc, dAdd_sc (by show 1 + _ ≤ _; have : 10 ≤ lim := (by decide); omega)]
   walk_at "ex"
   rw [txT, pcT]
   show _ = Rs.ok (S.d (D.str (sc ((88 :: dg (m - 1 - v).toNat) ++ [])))) _
   rw [List.append_nil]
   all_goals rfl
  exact fnM_d (M := MX) (seq_rt ((if_T c1).trans (ret_d e1)))
 | k + 1, .call f as, hk, h, hs, n => by
  rw [gT] at h
  rw [depth] at hk
  rw [size] at hs
  show fnM 2 (m__law_term_text (mir (n + 2 * k + 1))) [.d (enc (.call f as)), .d (.int m)] t = _
  have c1 : (tOf (eBin dEq (eBin dIx (eVar 0) (eC (.int 0))) (eC (.str "var"))) : Sm MX Bool) ⟨[some (.d (enc (.call f as))), some (.d (.int m))], t⟩ = .ok false ⟨[some (.d (enc (.call f as))), some (.d (.int m))], t⟩ := by
   rw [enc]; kernel_rfl
  have q := _law_called_ok (n := n + 2 * k) (m := m) (f := f) (as := as) (t := t) h.1 h.2 (by omega) (fun x hx => _law_term_text_ok m t k x (by have := depth_mem hx; omega) (gTs_mem h.2 x hx) (by have := mem_size hx; omega) n)
  have e1 : (eCall (mir (n + 2 * k + 1) ._law_called) (aCons (escf (eBin dIx (eVar 0) (eC (.int 1)))) (aCons (escf (eBin dIx (eVar 0) (eC (.int 2)))) (aCons (escf (eVar 1)) aNil))) : Sm MX S) ⟨[some (.d (enc (.call f as))), some (.d (.int m))], t⟩ = .ok (.d (.str (txT m (.call f as)))) ⟨[some (.d (enc (.call f as))), some (.d (.int m))], t⟩ := by
   rw [enc]
   walk_at "ec"
   rw [show dIx (.tup [.str "call", .str f, .tup (encs as)]) (.int 1) = some (.d (.str f)) from rfl]
   walk_at "ec"
   rw [show dIx (.tup [.str "call", .str f, .tup (encs as)]) (.int 2) = some (.d (.tup (encs as))) from rfl]
   walk_at "ec"
   rw [q]
   walk_at "ec"
   rw [txT, pcT]
   rfl
  exact fnM_d (M := MX) ((seq_nx (if_F c1)).trans (ret_d e1))
 | k + 1, .rel _ _, _, h, _, _ => h.elim
 | k + 1, .same _ _, _, h, _, _ => h.elim
 | k + 1, .no, _, h, _, _ => h.elim
 | k + 1, .and _ _, _, h, _, _ => h.elim
 | k + 1, .or _ _, _, h, _, _ => h.elim
 | k + 1, .imp _ _, _, h, _, _ => h.elim
 | k + 1, .all _ _, _, h, _, _ => h.elim
 | k + 1, .some _ _, _, h, _, _ => h.elim
noncomputable def isNo : Th → Bool
 | .no => true
 | _ => false
noncomputable def rk : Th → Nat
 | .all _ _ => 0
 | .some _ _ => 0
 | .imp _ b => if isNo b = true then 4 else 1
 | .or _ _ => 2
 | .and _ _ => 3
 | _ => 5
noncomputable def gp : List Int → Nat × List Int
 | [] => (1, [])
 | r :: q => (1 + (r % 5 / 4).toNat, q)
noncomputable def hd0 : List Int → Int
 | [] => 0
 | k :: _ => k
noncomputable def brk (r l : Nat) (x : List Pc × List Int) : List Pc × List Int := (if r < l ∨ hd0 x.2 % 7 = 1 then .mk 40 :: (x.1 ++ [.mk 41]) else x.1, x.2.tail)
noncomputable def bl (g : Nat) : List Pc := List.replicate g .sp
noncomputable def pX (m : Int) : Pc := .run (88 :: dg m.toNat) (.var m)
noncomputable def pN (f : Str) : Pc := .run (cdn f) (.name f)
noncomputable def ltx : Th → Int → List Int → List Pc × List Int
 | .all s b, m, rs => (.run cAll (.told "all") :: (bl (gp rs).1 ++ (pX m :: .mk 58 :: pN s :: .mk 46 :: (bl (gp rs).1 ++ (brk (rk b) 0 (ltx b (m + 1) (gp rs).2)).1))), (brk (rk b) 0 (ltx b (m + 1) (gp rs).2)).2)
 | .some s b, m, rs => (.run cSome (.told "some") :: (bl (gp rs).1 ++ (pX m :: .mk 58 :: pN s :: .mk 46 :: (bl (gp rs).1 ++ (brk (rk b) 0 (ltx b (m + 1) (gp rs).2)).1))), (brk (rk b) 0 (ltx b (m + 1) (gp rs).2)).2)
 | .no, _, rs => ([.run cNo (.told "no")], (gp rs).2)
 | .rel f as, m, rs => (pN f :: pcA m as, (gp rs).2)
 | .same a b, m, rs => (pcT m a ++ (bl (gp rs).1 ++ (.mk 61 :: (bl (gp rs).1 ++ pcT m b))), (gp rs).2)
 | .and a b, m, rs => ((brk (rk a) 3 (ltx a m (gp rs).2)).1 ++ (bl (gp rs).1 ++ (.mk 38 :: (bl (gp rs).1 ++ (brk (rk b) 4 (ltx b m (brk (rk a) 3 (ltx a m (gp rs).2)).2)).1))), (brk (rk b) 4 (ltx b m (brk (rk a) 3 (ltx a m (gp rs).2)).2)).2)
 | .or a b, m, rs => ((brk (rk a) 2 (ltx a m (gp rs).2)).1 ++ (bl (gp rs).1 ++ (.mk 124 :: (bl (gp rs).1 ++ (brk (rk b) 3 (ltx b m (brk (rk a) 2 (ltx a m (gp rs).2)).2)).1))), (brk (rk b) 3 (ltx b m (brk (rk a) 2 (ltx a m (gp rs).2)).2)).2)
 | .imp a b, m, rs => if isNo b = true then (.mk 126 :: (brk (rk a) 4 (ltx a m (gp rs).2)).1, (brk (rk a) 4 (ltx a m (gp rs).2)).2)
  else ((brk (rk a) 2 (ltx a m (gp rs).2)).1 ++ (bl (gp rs).1 ++ (.arrow :: (bl (gp rs).1 ++ (brk (rk b) 1 (ltx b m (brk (rk a) 2 (ltx a m (gp rs).2)).2)).1))), (brk (rk b) 1 (ltx b m (brk (rk a) 2 (ltx a m (gp rs).2)).2)).2)
 | .var _, _, rs => ([], rs)
 | .call _ _, _, rs => ([], rs)
noncomputable def gS : Th → Int → Prop
 | .all s b, m => Nm (cdn s) ∧ 0 ≤ m ∧ m < 40 ∧ gS b (m + 1)
 | .some s b, m => Nm (cdn s) ∧ 0 ≤ m ∧ m < 40 ∧ gS b (m + 1)
 | .no, _ => True
 | .rel f as, m => Nm (cdn f) ∧ gTs m as
 | .same a b, m => gT m a ∧ gT m b
 | .and a b, m => gS a m ∧ gS b m
 | .or a b, m => gS a m ∧ gS b m
 | .imp a b, m => gS a m ∧ gS b m
 | .var _, _ => False
 | .call _ _, _ => False
structure Prt (A : Th) (r : Nat) (m : Int) (ps : List Pc) : Prop where
  t : Pt A r m (tks ps)
  g : ∀ q, Good q → isRun q = false → Good (ps ++ q)
  l : (cds ps).length + 2 ≤ 26 * size A
structure PrtB (A : Th) (l : Nat) (m : Int) (ps : List Pc) : Prop where
  t : ∃ r, l ≤ r ∧ Pt A r m (tks ps)
  g : ∀ q, Good q → isRun q = false → Good (ps ++ q)
  l : (cds ps).length ≤ 26 * size A
theorem brk_ok {A : Th} {m : Int} {x : List Pc × List Int} {l : Nat} (hl : l ≤ 5) (h : Prt A (rk A) m x.1) : PrtB A l m (brk (rk A) l x).1 := by
 unfold brk
 by_cases c : rk A < l ∨ hd0 x.2 % 7 = 1
 ·simp only [if_pos c]
  refine ⟨⟨5, hl, ?_⟩, fun q gq nq => ?_, ?_⟩
  ·show Pt A 5 m (.mark (sc [40]) :: tks (x.1 ++ [.mk 41]))
   rw [tks_app, par_l]
   have : tks [Pc.mk 41] = [.mark ")"] := by rw [← par_r]; rfl
   rw [this]
   exact .br h.t
  ·rw [List.cons_append, List.append_assoc]
   exact ⟨by decide, h.g _ ⟨by decide, gq⟩ rfl⟩
  ·show (40 :: cds (x.1 ++ [.mk 41])).length ≤ _
   rw [cds_app, List.length_cons, List.length_append]
   have : (cds [Pc.mk 41]).length = 1 := rfl
   have := h.l
   omega
 ·simp only [if_neg c]
  exact ⟨⟨rk A, by omega, h.t⟩, h.g, by have := h.l; omega⟩
theorem bl_good {g : Nat} {q : List Pc} (h : Good q) : Good (bl g ++ q) := by
 induction g with
 | zero => exact h
 | succ g ih => rw [bl, List.replicate_succ, List.cons_append]; exact ih
theorem bl_run {g : Nat} {q : List Pc} (h : 1 ≤ g) : isRun (bl g ++ q) = false := by
 cases g with
 | zero => omega
 | succ g => rw [bl, List.replicate_succ]; rfl
theorem bl_tks (g : Nat) (q : List Pc) : tks (bl g ++ q) = tks q := by
 induction g with
 | zero => rfl
 | succ g ih => rw [bl, List.replicate_succ, List.cons_append]; exact ih
theorem bl_len (g : Nat) (q : List Pc) : (cds (bl g ++ q)).length = g + (cds q).length := by
 induction g with
 | zero => rw [Nat.zero_add]; rfl
 | succ g ih =>
  rw [bl, List.replicate_succ, List.cons_append]
  show (32 :: cds (bl g ++ q)).length = _
  rw [List.length_cons, ih]; omega
theorem gp_1 (rs : List Int) : 1 ≤ (gp rs).1 ∧ (gp rs).1 ≤ 2 := by
 cases rs with
 | nil => exact ⟨Nat.le_refl _, by show 1 ≤ 2; omega⟩
 | cons r q =>
  show 1 ≤ 1 + (r % 5 / 4).toNat ∧ 1 + (r % 5 / 4).toNat ≤ 2
  omega
theorem pX_ok {m : Int} (h0 : 0 ≤ m) (h : m < 40) : RunOk (88 :: dg m.toNat) (.var m) := by
 have e : ((m.toNat : Nat) : Int) = m := Int.toNat_of_nonneg h0
 have := r_var m.toNat (by omega)
 rw [e] at this
 exact this
theorem pX_len {m : Int} (h0 : 0 ≤ m) (h : m < 40) : (88 :: dg m.toNat).length ≤ 3 := by
 have := var_l m.toNat (by omega)
 rw [List.length_cons]; omega
theorem pN_ok {f : Str} (h : Nm (cdn f)) : RunOk (cdn f) (.name f) := by
 have := nm_run h
 rw [sc_cdn] at this
 exact this
theorem col_m : sc [58] = Str.ofString ":" := by kernel_rfl
theorem dot_m : sc [46] = Str.ofString "." := by kernel_rfl
theorem eq_m : sc [61] = Str.ofString "=" := by kernel_rfl
theorem and_m : sc [38] = Str.ofString "&" := by kernel_rfl
theorem or_m : sc [124] = Str.ofString "|" := by kernel_rfl
theorem not_m : sc [126] = Str.ofString "~" := by kernel_rfl
theorem isNo_eq {b : Th} (h : isNo b = true) : b = .no := by
 cases b <;> first | rfl | cases h
theorem bin_prt {a b : Th} {m : Int} {x y : List Pc} {mk : Pc} {g : Nat} (hg : 1 ≤ g ∧ g ≤ 2) (hm : mk = .arrow ∨ ∃ c, mk = .mk c ∧ c ∈ MKS) {la lb : Nat} (ha : PrtB a la m x) (hb : PrtB b lb m y) : (∀ q, Good q → isRun q = false → Good ((x ++ (bl g ++ (mk :: (bl g ++ y)))) ++ q)) ∧ tks (x ++ (bl g ++ (mk :: (bl g ++ y)))) = tks x ++ (mk.tk ++ tks y) ∧ (cds (x ++ (bl g ++ (mk :: (bl g ++ y))))).length + 2 ≤ 26 * (1 + (size a + size b)) := by
 have hlen : mk.cs.length ≤ 2 := by
  rcases hm with rfl | ⟨c, rfl, _⟩
  ·exact Nat.le_refl _
  ·show 1 ≤ 2; omega
 refine ⟨fun q gq nq => ?_, ?_, ?_⟩
 ·rw [List.append_assoc, List.append_assoc, List.cons_append, List.append_assoc]
  have g1 : Good (mk :: (bl g ++ (y ++ q))) := by
   rcases hm with rfl | ⟨c, rfl, hc⟩
   ·exact bl_good (hb.g q gq nq)
   ·exact ⟨hc, bl_good (hb.g q gq nq)⟩
  exact ha.g _ (bl_good g1) (bl_run hg.1)
 ·rw [tks_app, bl_tks]
  show tks x ++ (mk.tk ++ tks (bl g ++ y)) = _
  rw [bl_tks]
 ·rw [cds_app, List.length_append, bl_len]
  have : (cds (mk :: (bl g ++ y))).length = mk.cs.length + (g + (cds y).length) := by
   show (mk.cs ++ cds (bl g ++ y)).length = _
   rw [List.length_append, bl_len]
  rw [this]
  have := ha.l
  have := hb.l
  omega
theorem bound_prt {a : Th} {m : Int} {f wd : Str} {cs : List Nat} {y : List Pc} {g : Nat} (hg : 1 ≤ g ∧ g ≤ 2) (hc : RunOk cs (.told wd)) (hcl : cs.length ≤ 4) (hf : Nm (cdn f)) (h0 : 0 ≤ m) (h1 : m < 40) (hb : PrtB a 0 (m + 1) y) :
  (∀ q, Good q → isRun q = false → Good ((.run cs (.told wd) :: (bl g ++ (pX m :: .mk 58 :: pN f :: .mk 46 :: (bl g ++ y)))) ++ q)) ∧ tks (.run cs (.told wd) :: (bl g ++ (pX m :: .mk 58 :: pN f :: .mk 46 :: (bl g ++ y)))) = .told wd :: .var m :: .mark ":" :: .name f :: .mark "." :: tks y ∧ (cds (.run cs (.told wd) :: (bl g ++ (pX m :: .mk 58 :: pN f :: .mk 46 :: (bl g ++ y))))).length + 2 ≤ 26 * (1 + size a) := by
 refine ⟨fun q gq nq => ?_, ?_, ?_⟩
 ·rw [List.cons_append, List.append_assoc]
  refine ⟨hc, bl_run hg.1, bl_good ?_⟩
  show Good (pX m :: .mk 58 :: pN f :: .mk 46 :: ((bl g ++ y) ++ q))
  rw [List.append_assoc]
  exact ⟨pX_ok h0 h1, rfl, by decide, pN_ok hf, rfl, by decide, bl_good (hb.g q gq nq)⟩
 ·show Tk.told wd :: tks (bl g ++ _) = _
  rw [bl_tks]
  show Tk.told wd :: Tk.var m :: Tk.mark (sc [58]) :: Tk.name f :: Tk.mark (sc [46]) :: tks (bl g ++ y) = _
  rw [bl_tks, col_m, dot_m]
 ·show (cs ++ cds (bl g ++ _)).length + 2 ≤ _
  rw [List.length_append, bl_len]
  show cs.length + (g + ((88 :: dg m.toNat) ++ ([58] ++ (cdn f ++ ([46] ++ cds (bl g ++ y))))).length) + 2 ≤ _
  rw [List.length_append, List.length_append, List.length_append, List.length_append, bl_len]
  have := pX_len h0 h1
  have := hf.l
  have := hb.l
  have e1 : ([58] : List Nat).length = 1 := rfl
  have e2 : ([46] : List Nat).length = 1 := rfl
  omega
theorem ltx_ok : ∀ (A : Th) (m : Int) (rs : List Int), gS A m → Prt A (rk A) m (ltx A m rs).1
 | .all s b, m, rs, h => by
  obtain ⟨h1, h2, h3, h4⟩ := h
  have hb := brk_ok (l := 0) (by omega) (ltx_ok b (m + 1) (gp rs).2 h4)
  obtain ⟨a1, a2, a3⟩ := bound_prt (gp_1 rs) r_all (by decide) h1 h2 h3 hb
  rw [ltx]
  obtain ⟨r, _, hr⟩ := hb.t
  exact ⟨by rw [a2]; exact .all (nm_ok h1) hr, a1, a3⟩
 | .some s b, m, rs, h => by
  obtain ⟨h1, h2, h3, h4⟩ := h
  have hb := brk_ok (l := 0) (by omega) (ltx_ok b (m + 1) (gp rs).2 h4)
  obtain ⟨a1, a2, a3⟩ := bound_prt (gp_1 rs) r_some (by decide) h1 h2 h3 hb
  rw [ltx]
  obtain ⟨r, _, hr⟩ := hb.t
  exact ⟨by rw [a2]; exact .some (nm_ok h1) hr, a1, a3⟩
 | .no, m, rs, _ => by
  rw [ltx]
  exact ⟨.no, fun q gq nq => ⟨r_no, nq, gq⟩, by show 2 + 2 ≤ 26 * 1; omega⟩
 | .rel f as, m, rs, h => by
  obtain ⟨h1, h2⟩ := h
  rw [ltx]
  refine ⟨?_, fun q gq nq => ⟨pN_ok h1, mA m as q nq, good_A gq nq h2⟩, ?_⟩
  ·show Pt (.rel f as) 5 m (.name f :: tks (pcA m as))
   rw [tks_A m h2]
   exact .rel (nm_ok h1) (gTs_tm h2)
  ·show (cdn f ++ cds (pcA m as)).length + 2 ≤ 26 * (1 + sizes as)
   rw [List.length_append]
   have := len_A7 h2
   have := h1.l
   omega
 | .same a b, m, rs, h => by
  obtain ⟨h1, h2⟩ := h
  have g := gp_1 rs
  rw [ltx]
  refine ⟨?_, fun q gq nq => ?_, ?_⟩
  ·rw [tks_app, bl_tks]
   show Pt (.same a b) 5 m (tks (pcT m a) ++ (.mark (sc [61]) :: tks (bl (gp rs).1 ++ pcT m b)))
   rw [bl_tks, tks_T m h1, tks_T m h2, eq_m]
   exact .same (gT_tm h1) (gT_tm h2)
  ·rw [List.append_assoc, List.append_assoc, List.cons_append, List.append_assoc]
   have g2 : Good (Pc.mk 61 :: (bl (gp rs).1 ++ (pcT m b ++ q))) := ⟨by decide, bl_good (good_T gq nq h2)⟩
   exact good_T (bl_good g2) (bl_run g.1) h1
  ·rw [cds_app, List.length_append, bl_len]
   show _ + (_ + (61 :: cds (bl (gp rs).1 ++ pcT m b)).length) + 2 ≤ 26 * (1 + (size a + size b))
   rw [List.length_cons, bl_len]
   have := len_T h1
   have := len_T h2
   omega
 | .and a b, m, rs, h => by
  have ha := brk_ok (l := 3) (by omega) (ltx_ok a m (gp rs).2 h.1)
  have hb := brk_ok (l := 4) (by omega) (ltx_ok b m (brk (rk a) 3 (ltx a m (gp rs).2)).2 h.2)
  obtain ⟨a1, a2, a3⟩ := bin_prt (mk := .mk 38) (gp_1 rs) (.inr ⟨_, rfl, by decide⟩) ha hb
  rw [ltx]
  obtain ⟨r, q1, hr⟩ := ha.t
  obtain ⟨r', q2, hr'⟩ := hb.t
  refine ⟨?_, a1, a3⟩
  rw [a2]
  show Pt (.and a b) 3 m (_ ++ (.mark (sc [38]) :: _))
  rw [and_m]
  exact .and hr q1 hr' q2
 | .or a b, m, rs, h => by
  have ha := brk_ok (l := 2) (by omega) (ltx_ok a m (gp rs).2 h.1)
  have hb := brk_ok (l := 3) (by omega) (ltx_ok b m (brk (rk a) 2 (ltx a m (gp rs).2)).2 h.2)
  obtain ⟨a1, a2, a3⟩ := bin_prt (mk := .mk 124) (gp_1 rs) (.inr ⟨_, rfl, by decide⟩) ha hb
  rw [ltx]
  obtain ⟨r, q1, hr⟩ := ha.t
  obtain ⟨r', q2, hr'⟩ := hb.t
  refine ⟨?_, a1, a3⟩
  rw [a2]
  show Pt (.or a b) 2 m (_ ++ (.mark (sc [124]) :: _))
  rw [or_m]
  exact .or hr q1 hr' q2
 | .imp a b, m, rs, h => by
  rw [ltx]
  by_cases c : isNo b = true
  ·have e := isNo_eq c
   subst e
   rw [if_pos c, show rk (.imp a .no) = 4 from rfl]
   have ha := brk_ok (l := 4) (by omega) (ltx_ok a m (gp rs).2 h.1)
   obtain ⟨r, q1, hr⟩ := ha.t
   refine ⟨?_, fun q gq nq => ⟨by decide, ha.g q gq nq⟩, ?_⟩
   ·show Pt (.imp a .no) 4 m (.mark (sc [126]) :: _)
    rw [not_m]
    exact .not hr q1
   ·show (126 :: cds _).length + 2 ≤ 26 * (1 + (size a + 1))
    rw [List.length_cons]
    have := ha.l
    omega
  ·rw [if_neg c, show rk (.imp a b) = 1 from if_neg c]
   have ha := brk_ok (l := 2) (by omega) (ltx_ok a m (gp rs).2 h.1)
   have hb := brk_ok (l := 1) (by omega) (ltx_ok b m (brk (rk a) 2 (ltx a m (gp rs).2)).2 h.2)
   obtain ⟨a1, a2, a3⟩ := bin_prt (mk := .arrow) (gp_1 rs) (.inl rfl) ha hb
   obtain ⟨r, q1, hr⟩ := ha.t
   obtain ⟨r', q2, hr'⟩ := hb.t
   exact ⟨by rw [a2]; exact .imp hr q1 hr' q2, a1, a3⟩
 | .var _, _, _, h => h.elim
 | .call _ _, _, _, h => h.elim
theorem ltx_nil : ∀ (A : Th) (m : Int), (ltx A m []).2 = []
 | .all s b, m => by rw [ltx]; simp only [gp, brk, ltx_nil b (m + 1), List.tail_nil]
 | .some s b, m => by rw [ltx]; simp only [gp, brk, ltx_nil b (m + 1), List.tail_nil]
 | .no, _ => by rw [ltx]; rfl
 | .rel f as, m => by rw [ltx]; rfl
 | .same a b, m => by rw [ltx]; rfl
 | .and a b, m => by rw [ltx]; simp only [gp, brk, ltx_nil a m, List.tail_nil, ltx_nil b m]
 | .or a b, m => by rw [ltx]; simp only [gp, brk, ltx_nil a m, List.tail_nil, ltx_nil b m]
 | .imp a b, m => by
  rw [ltx]
  split <;> simp only [gp, brk, ltx_nil a m, List.tail_nil, ltx_nil b m]
 | .var _, _ => by rw [ltx]
 | .call _ _, _ => by rw [ltx]
noncomputable def sideP (A : Th) (l : Nat) (m : Int) : List Pc := if rk A < l then .mk 40 :: ((ltx A m []).1 ++ [.mk 41]) else (ltx A m []).1
theorem brk_nil (A : Th) (l : Nat) (m : Int) : brk (rk A) l (ltx A m []) = (sideP A l m, []) := by
 unfold brk sideP
 rw [ltx_nil]
 by_cases c : rk A < l
 ·simp [c, hd0]
 ·simp [c, hd0]
mutual
theorem gT_nms {m : Int} : ∀ {T : Th}, gT m T → nms T = true
 | .var _, _ => by rw [nms]
 | .call f as, h => by rw [gT] at h; rw [nms, nm_ok h.1, gTs_nms h.2]; rfl
 | .rel _ _, h => h.elim
 | .same _ _, h => h.elim
 | .no, h => h.elim
 | .and _ _, h => h.elim
 | .or _ _, h => h.elim
 | .imp _ _, h => h.elim
 | .all _ _, h => h.elim
 | .some _ _, h => h.elim
theorem gTs_nms {m : Int} : ∀ {ts : List Th}, gTs m ts → nmss ts = true
 | [], _ => by rw [nmss]
 | x :: r, h => by rw [gTs] at h; rw [nmss, gT_nms h.1, gTs_nms h.2]; rfl
end
theorem gS_nms : ∀ {A : Th} {m : Int}, gS A m → nms A = true
 | .all s b, m, h => by rw [nms, nm_ok h.1, gS_nms h.2.2.2]; rfl
 | .some s b, m, h => by rw [nms, nm_ok h.1, gS_nms h.2.2.2]; rfl
 | .no, _, _ => by rw [nms]
 | .rel f as, m, h => by rw [nms, nm_ok h.1, gTs_nms h.2]; rfl
 | .same a b, m, h => by rw [nms, gT_nms h.1, gT_nms h.2]; rfl
 | .and a b, m, h => by rw [nms, gS_nms h.1, gS_nms h.2]; rfl
 | .or a b, m, h => by rw [nms, gS_nms h.1, gS_nms h.2]; rfl
 | .imp a b, m, h => by rw [nms, gS_nms h.1, gS_nms h.2]; rfl
 | .var _, _, h => h.elim
 | .call _ _, _, h => h.elim
theorem eq_no {b : Th} (h : nms b = true) : dEq (enc b) (.tup [.str "no"]) = some (.d (.bl (isNo b))) := by
 have ok : eqOk (enc b) (.tup [.str "no"]) = true := by
  unfold eqOk
  rw [lay_enc, h, Bool.true_and, Bool.and_eq_true]
  exact ⟨by decide +kernel, decide_eq_true (Nat.le_trans (Nat.min_le_right _ _) (by simp [dep, deps]))⟩
 unfold dEq
 rw [if_pos ok]
 congr 3
 cases b <;> rw [enc] <;> rw [eqD_tup] <;> simp only [eqDs, eqD_str, Bool.and_false, Bool.and_true, isNo] <;> decide +kernel
noncomputable def isN : Th → Bool
 | .imp _ b => isNo b
 | _ => false
theorem is_not_ok (n : Nat) {A : Th} {t : List MO} (h : nms A = true) : mir (n + 1) .is_not [.d (enc A)] t = .ok (.d (.bl (isN A))) t := by
 cases A with
 | imp a b =>
  rw [nms, Bool.and_eq_true] at h
  show fnM 1 (m_is_not (mir n)) [.d (enc (.imp a b))] t = _
  unfold m_is_not
  rw [enc]
  walk_at "ex"
  rw [show dIx (.tup [.str "if", enc a, enc b]) (.int 0) = some (.d (.str "if")) from rfl]
  walk_at "ex"
  rw [show dEq (.str "if") (.str "if") = some (.d (.bl true)) from by kernel_rfl]
  walk_at "ex"
  rw [show dIx (.tup [.str "if", enc a, enc b]) (.int 2) = some (.d (enc b)) from rfl]
  walk_at "ex"
  rw [show c_NO_writing = .tup [.str "no"] from rfl, eq_no h.2]
  rfl
 | _ => rw [enc]; kernel_rfl
noncomputable def isSt : Th → Bool
 | .var _ => false
 | .call _ _ => false
 | _ => true
theorem rank_of_ok (n : Nat) {A : Th} {t : List MO} (h : nms A = true) (hs : isSt A = true) : mir (n + 2) .rank_of [.d (enc A)] t = .ok (.d (.int (rk A : Nat))) t := by
 have q := is_not_ok n (A := A) (t := t) h
 show fnM 1 (m_rank_of (mir (n + 1))) [.d (enc A)] t = _
 have c : ∀ b, isN A = b → (tTru dTru (eCall (mir (n + 1) .is_not) (aCons (escf (eVar 0)) aNil)) : Sm MX Bool) ⟨[some (.d (enc A))], t⟩ = .ok b ⟨[some (.d (enc A))], t⟩ := fun b hb => by
  walk_at "ec"
  rw [q, hb]
  walk_at "ec"
 have k1 : ∀ {f g : Sm MX S} {z z1 : Z (List MO)} {cc : Sm MX Bool}, cc z = .ok true z1 → eIf cc f g z = f z1 := fun h => by unfold eIf kE; rw [h]; rfl
 have k2 : ∀ {f g : Sm MX S} {z z1 : Z (List MO)} {cc : Sm MX Bool}, cc z = .ok false z1 → eIf cc f g z = g z1 := fun h => by unfold eIf kE; rw [h]; rfl
 suffices hh : (eIf (tTru dTru (eCall (mir (n + 1) .is_not) (aCons (escf (eVar 0)) aNil))) (eC c_NOT_RANK) (eKGet t_RANKS (eBin dIx (eVar 0) (eC (.int 0))) (eC c_MOST_RANK)) : Sm MX S) ⟨[some (.d (enc A))], t⟩ = .ok (.d (.int (rk A : Nat))) ⟨[some (.d (enc A))], t⟩ from fnM_d (M := MX) (ret_d hh)
 cases A with
 | imp a b =>
  cases e : isNo b with
  | true =>
   have : rk (.imp a b) = 4 := by rw [rk, e]; rfl
   rw [this]
   exact (k1 (c true e)).trans rfl
  | false =>
   have : rk (.imp a b) = 1 := by rw [rk, e]; rfl
   rw [this]
   exact (k2 (c false e)).trans (by rw [enc]; kernel_rfl)
 | var _ => cases hs
 | call _ _ => cases hs
 | _ => exact (k2 (c false rfl)).trans (by rw [enc]; kernel_rfl)
theorem gS_st {A : Th} {m : Int} (h : gS A m) : isSt A = true := by
 cases A <;> first | rfl | exact h.elim
theorem side_text_ok (n : Nat) {A : Th} {m : Int} {l : Nat} {t : List MO} (h : gS A m) (hs : size A ≤ 5000) (ih : mir (n + 2) .statement_text [.d (enc A), .d (.int m)] t = .ok (.d (.str (sc (cds (ltx A m []).1)))) t) : mir (n + 3) .side_text [.d (enc A), .d (.int (l : Nat)), .d (.int m)] t = .ok (.d (.str (sc (cds (sideP A l m))))) t := by
 have hl := (ltx_ok A m [] h).l
 have hL : 26 * size A ≤ lim := by
  have : 26 * 5000 ≤ lim := by decide
  omega
 show fnM 4 (m_side_text (mir (n + 2))) [.d (enc A), .d (.int (l : Nat)), .d (.int m)] t = _
 have s1 : (sSet 3 (eCall (mir (n + 2) .statement_text) (aCons (escf (eVar 0)) (aCons (escf (eVar 2)) aNil))) : Sm MX Out) ⟨[some (.d (enc A)), some (.d (.int (l : Nat))), some (.d (.int m)), none], t⟩ = .ok .nx ⟨[some (.d (enc A)), some (.d (.int (l : Nat))), some (.d (.int m)), some (.d (.str (sc (cds (ltx A m []).1))))], t⟩ := by
  walk_at "ec"
  rw [ih]
  walk_at "ec"
 have e2 : (eIf (tOf (eBin dLt (eCall (mir (n + 2) .rank_of) (aCons (escf (eVar 0)) aNil)) (eVar 1))) (eBin dAdd (eBin dAdd (eC (.str "(")) (eVar 3)) (eC (.str ")"))) (eVar 3) : Sm MX S) ⟨[some (.d (enc A)), some (.d (.int (l : Nat))), some (.d (.int m)), some (.d (.str (sc (cds (ltx A m []).1))))], t⟩ = .ok (.d (.str (sc (cds (sideP A l m))))) ⟨[some (.d (enc A)), some (.d (.int (l : Nat))), some (.d (.int m)), some (.d (.str (sc (cds (ltx A m []).1))))], t⟩ := by
  walk_at "ec"
  rw [rank_of_ok n (gS_nms h) (gS_st h)]
  walk_at "ec"
  unfold sideP
  by_cases c : rk A < l
  ·have c2 : ((rk A : Nat) : Int) < ((l : Nat) : Int) := by omega
   simp only [c2]
   walk_at "ec"
   rw [if_pos c, ← par_l, ← par_r, dAdd_sc (by show 1 + _ ≤ _; omega)]
   walk_at "ec"
   rw [dAdd_sc (by rw [List.length_cons]; show _ + 1 + 1 ≤ _; omega)]
   walk_at "ec"
   show _ = Rs.ok (S.d (D.str (sc (40 :: cds ((ltx A m []).1 ++ [.mk 41]))))) _
   rw [cds_app]
   rfl
  ·have c2 : ¬ ((rk A : Nat) : Int) < ((l : Nat) : Int) := by omega
   simp only [c2]
   walk_at "ec"
   rw [if_neg c]
 exact fnM_d (M := MX) ((seq_nx s1).trans (ret_d e2))
section
variable {n : Nat} {m : Int} {t : List MO} {x2 x3 : Option S}
noncomputable def zA (A : Th) (m : Int) (t : List MO) : Z (List MO) := ⟨[some (.d (enc A)), some (.d (.int m)), none, none], t⟩
noncomputable abbrev q1 : Sm MX Bool := (tOf (eBin dIn (eBin dIx (eVar 0) (eC (.int 0))) (eTup (aCons (escf (eC (.str "all"))) (aCons (escf (eC (.str "some"))) aNil)))))
noncomputable abbrev q3 : Sm MX Bool := (tOf (eBin dEq (eBin dIx (eVar 0) (eC (.int 0))) (eC (.str "rel"))))
noncomputable abbrev q4 : Sm MX Bool := (tOf (eBin dEq (eBin dIx (eVar 0) (eC (.int 0))) (eC (.str "same"))))
noncomputable abbrev q5 : Sm MX Bool := (tOf (eBin dEq (eVar 0) (eC c_NO_writing)))
theorem q1_t {A : Th} (h : ∃ s b, A = .all s b ∨ A = .some s b) : q1 (zA A m t) = .ok true (zA A m t) := by
 obtain ⟨s, b, rfl | rfl⟩ := h <;> (unfold zA; rw [enc]; kernel_rfl)
theorem q1_f {A : Th} (h : rk A ≠ 0) (hs : isSt A = true) : q1 (zA A m t) = .ok false (zA A m t) := by
 cases A <;> first | (exact (h rfl).elim) | (exact absurd hs (by decide)) | (unfold zA; rw [enc]; kernel_rfl)
theorem q2 {A : Th} (h : nms A = true) : (tTru dTru (eCall (mir (n + 1) .is_not) (aCons (escf (eVar 0)) aNil)) : Sm MX Bool) (zA A m t) = .ok (isN A) (zA A m t) := by
 unfold zA
 walk_at "ec"
 rw [is_not_ok n h]
 walk_at "ec"
theorem q3_f {A : Th} (h : ∀ f as, A ≠ .rel f as) (hs : isSt A = true) : q3 (zA A m t) = .ok false (zA A m t) := by
 cases A <;> first | (exact (h _ _ rfl).elim) | (exact absurd hs (by decide)) | (unfold zA; rw [enc]; kernel_rfl)
theorem q4_f {A : Th} (h : ∀ f as, A ≠ .same f as) (hs : isSt A = true) : q4 (zA A m t) = .ok false (zA A m t) := by
 cases A <;> first | (exact (h _ _ rfl).elim) | (exact absurd hs (by decide)) | (unfold zA; rw [enc]; kernel_rfl)
theorem q5_ok {A : Th} (h : nms A = true) : q5 (zA A m t) = .ok (isNo A) (zA A m t) := by
 unfold zA
 walk_at "ex"
 rw [show c_NO_writing = .tup [.str "no"] from rfl, eq_no h]
 rfl
theorem ix1 {a b c : D} : dIx (.tup [a, b, c]) (.int 1) = some (.d b) := rfl
theorem ix2 {a b c : D} : dIx (.tup [a, b, c]) (.int 2) = some (.d c) := rfl
theorem ix0 {a b c : D} : dIx (.tup [a, b, c]) (.int 0) = some (.d a) := rfl
theorem st_bound (A : Th) {wd f : Str} {b : Th} {cw : List Nat} (hA : enc A = .tup [.str wd, .str f, enc b]) (hk : ∃ s b, A = .all s b ∨ A = .some s b) (hw : wd = sc cw) (hwl : cw.length ≤ 4) (hf : Nm (cdn f)) (h0 : 0 ≤ m) (h1 : m < 40) {B : List Nat} (hB : B.length ≤ 140000) (ih : mir n .statement_text [.d (enc b), .d (.int (m + 1))] t = .ok (.d (.str (sc B))) t) :
  mir (n + 1) .statement_text [.d (enc A), .d (.int m)] t = .ok (.d (.str (sc (cw ++ (32 :: 88 :: dg m.toNat ++ (58 :: cdn f ++ (46 :: 32 :: B))))))) t := by
 have e : ((m.toNat : Nat) : Int) = m := Int.toNat_of_nonneg h0
 have hd := var_l m.toNat (by omega)
 have hfl := hf.l
 have hL : 140000 + 100 ≤ lim := by decide
 show fnM 4 (m_statement_text (mir n)) [.d (enc A), .d (.int m)] t = _
 have e1 : (eBin dAdd (eBin dAdd (eBin dAdd (eBin dAdd (eBin dAdd (eBin dAdd (eBin dIx (eVar 0) (eC (.int 0))) (eC (.str " X"))) (eFn fStr (aCons (opd (eVar 1)) aNil))) (eC (.str ":"))) (eBin dIx (eVar 0) (eC (.int 1)))) (eC (.str ". "))) (eCall (mir n .statement_text) (aCons (escf (eBin dIx (eVar 0) (eC (.int 2)))) (aCons (escf (eBin dAdd (eVar 1) (eC (.int 1)))) aNil))) : Sm MX S) (zA A m t) = .ok (.d (.str (sc (cw ++ (32 :: 88 :: dg m.toNat ++ (58 :: cdn f ++ (46 :: 32 :: B))))))) (zA A m t) := by
  unfold zA
  rw [hA, hw]
  walk_at "ec"
  rw [ix0]
  walk_at "ec"
  rw [show Str.ofString " X" = sc [32, 88] from by kernel_rfl, dAdd_sc (by show _ + 2 ≤ _; omega)]
  walk_at "ec"
  rw [← e, fStr_k _ (by omega)]
  walk_at "ec"
  rw [dAdd_sc (by rw [List.length_append]; show _ + 2 + _ ≤ _; omega)]
  walk_at "ec"
  rw [← col_m, dAdd_sc (by rw [List.length_append, List.length_append]; show _ + 2 + _ + 1 ≤ _; omega)]
  walk_at "ec"
  rw [ix1]
  walk_at "ec"
  conv => lhs; rw [show D.str f = .str (sc (cdn f)) from by rw [sc_cdn]]
  rw [dAdd_sc (by rw [List.length_append, List.length_append, List.length_append]; show _ + 2 + _ + 1 + _ ≤ _; omega)]
  walk_at "ec"
  rw [show Str.ofString ". " = sc [46, 32] from by kernel_rfl, dAdd_sc (by rw [List.length_append, List.length_append, List.length_append, List.length_append]; show _ + 2 + _ + 1 + _ + 2 ≤ _; omega)]
  walk_at "ec"
  rw [ix2]
  walk_at "ec"
  rw [e, ih]
  walk_at "ec"
  rw [dAdd_sc (by rw [List.length_append, List.length_append, List.length_append, List.length_append, List.length_append]; show _ + 2 + _ + 1 + _ + 2 + _ ≤ _; omega)]
  walk_at "ec"
  simp only [List.append_assoc, List.cons_append, List.nil_append, sc_cdn]
 exact fnM_d (M := MX) (seq_rt ((if_T (q1_t hk)).trans (ret_d e1)))
theorem st_rel {f : Str} {as : List Th} {B : List Nat} (hn : nms (.rel f as) = true) (ih : mir (n + 1) .called_text [.d (.str f), .d (.tup (encs as)), .d (.int m)] t = .ok (.d (.str (sc B))) t) : mir (n + 2) .statement_text [.d (enc (.rel f as)), .d (.int m)] t = .ok (.d (.str (sc B))) t := by
 show fnM 4 (m_statement_text (mir (n + 1))) [.d (enc (.rel f as)), .d (.int m)] t = _
 have e1 : (eCall (mir (n + 1) .called_text) (aCons (escf (eBin dIx (eVar 0) (eC (.int 1)))) (aCons (escf (eBin dIx (eVar 0) (eC (.int 2)))) (aCons (escf (eVar 1)) aNil))) : Sm MX S) (zA (.rel f as) m t) = .ok (.d (.str (sc B))) (zA (.rel f as) m t) := by
  unfold zA
  rw [enc]
  walk_at "ec"
  rw [ix1]
  walk_at "ec"
  rw [ix2]
  walk_at "ec"
  rw [ih]
  walk_at "ec"
 have c3 : q3 (zA (.rel f as) m t) = .ok true (zA (.rel f as) m t) := by unfold zA; rw [enc]; kernel_rfl
 exact fnM_d (M := MX) ((seq_nx (if_F (q1_f (by show (5 : Nat) ≠ 0; omega) rfl))).trans ((seq_nx (if_F (q2 (n := n) hn))).trans (seq_rt ((if_T c3).trans (ret_d e1)))))
theorem st_same {a b : Th} {B C : List Nat} (hn : nms (.same a b) = true) (hB : B.length ≤ 140000) (hC : C.length ≤ 140000) (ia : mir (n + 1) .term_text [.d (enc a), .d (.int m)] t = .ok (.d (.str (sc B))) t) (ib : mir (n + 1) .term_text [.d (enc b), .d (.int m)] t = .ok (.d (.str (sc C))) t) : mir (n + 2) .statement_text [.d (enc (.same a b)), .d (.int m)] t = .ok (.d (.str (sc (B ++ (32 :: 61 :: 32 :: C))))) t := by
 have hL : 300000 ≤ lim := by decide
 show fnM 4 (m_statement_text (mir (n + 1))) [.d (enc (.same a b)), .d (.int m)] t = _
 have e1 : (eBin dAdd (eBin dAdd (eCall (mir (n + 1) .term_text) (aCons (escf (eBin dIx (eVar 0) (eC (.int 1)))) (aCons (escf (eVar 1)) aNil))) (eC (.str " = "))) (eCall (mir (n + 1) .term_text) (aCons (escf (eBin dIx (eVar 0) (eC (.int 2)))) (aCons (escf (eVar 1)) aNil))) : Sm MX S) (zA (.same a b) m t) = .ok (.d (.str (sc (B ++ (32 :: 61 :: 32 :: C))))) (zA (.same a b) m t) := by
  unfold zA
  rw [enc]
  walk_at "ec"
  rw [ix1]
  walk_at "ec"
  rw [ia]
  walk_at "ec"
  rw [show Str.ofString " = " = sc [32, 61, 32] from by kernel_rfl, dAdd_sc (by show _ + 3 ≤ _; omega)]
  walk_at "ec"
  rw [ix2]
  walk_at "ec"
  rw [ib]
  walk_at "ec"
  rw [dAdd_sc (by rw [List.length_append]; show _ + 3 + _ ≤ _; omega)]
  walk_at "ec"
  simp only [List.append_assoc, List.cons_append, List.nil_append]
 have c4 : q4 (zA (.same a b) m t) = .ok true (zA (.same a b) m t) := by unfold zA; rw [enc]; kernel_rfl
 exact fnM_d (M := MX) ((seq_nx (if_F (q1_f (by show (5 : Nat) ≠ 0; omega) rfl))).trans ((seq_nx (if_F (q2 (n := n) hn))).trans ((seq_nx (if_F (q3_f (fun _ _ e => by cases e) rfl))).trans (seq_rt ((if_T c4).trans (ret_d e1))))))
theorem st_no : mir (n + 2) .statement_text [.d (enc .no), .d (.int m)] t = .ok (.d (.str (sc cNo))) t := by
 rw [enc]
 kernel_rfl
theorem st_not {a : Th} {B : List Nat} (hn : nms (.imp a .no) = true) (hB : B.length ≤ 140000) (ih : mir (n + 1) .side_text [.d (enc a), .d (.int 4), .d (.int m)] t = .ok (.d (.str (sc B))) t) : mir (n + 2) .statement_text [.d (enc (.imp a .no)), .d (.int m)] t = .ok (.d (.str (sc (126 :: B)))) t := by
 have hL : 300000 ≤ lim := by decide
 show fnM 4 (m_statement_text (mir (n + 1))) [.d (enc (.imp a .no)), .d (.int m)] t = _
 have e1 : (eBin dAdd (eC (.str "~")) (eCall (mir (n + 1) .side_text) (aCons (escf (eBin dIx (eVar 0) (eC (.int 1)))) (aCons (escf (eC c_NOT_RANK)) (aCons (escf (eVar 1)) aNil)))) : Sm MX S) (zA (.imp a .no) m t) = .ok (.d (.str (sc (126 :: B)))) (zA (.imp a .no) m t) := by
  unfold zA
  rw [enc]
  walk_at "ec"
  rw [ix1]
  walk_at "ec"
  rw [show c_NOT_RANK = .int 4 from rfl, ih]
  walk_at "ec"
  rw [← not_m, dAdd_sc (by show 1 + _ ≤ _; omega)]
  walk_at "ec"
 exact fnM_d (M := MX) ((seq_nx (if_F (q1_f (by show (4 : Nat) ≠ 0; omega) rfl))).trans (seq_rt ((if_T (q2 (n := n) hn)).trans (ret_d e1))))
theorem st_bin (A : Th) {wd : Str} {a b : Th} {k l1 l2 : Nat} {mk : List Nat} {B C : List Nat} (hA : enc A = .tup [.str wd, enc a, enc b]) (hr : rk A = k) (hk : k ≠ 0) (hs : isSt A = true) (h3 : ∀ f as, A ≠ .rel f as) (h4 : ∀ f as, A ≠ .same f as) (h5 : isNo A = false) (h6 : isN A = false) (hn : nms A = true)
  (r1 : (eKIx t_RANKS (eBin dIx (eVar 0) (eC (.int 0))) : Sm MX S) (zA A m t) = .ok (.d (.int (k : Nat))) (zA A m t)) (r2 : ∀ x, (eKIx t_MARKS_writing (eBin dIx (eVar 0) (eC (.int 0))) : Sm MX S) ⟨[some (.d (.tup [.str wd, enc a, enc b])), some (.d (.int m)), some (.d (.int (k : Nat))), x], t⟩ = .ok (.d (.str (sc mk))) ⟨[some (.d (.tup [.str wd, enc a, enc b])), some (.d (.int m)), some (.d (.int (k : Nat))), x], t⟩)
  (hl1 : ∀ rho, (eBin dAdd (eVar 2) (eFn fInt (aCons (opd (eBin dEq (eBin dIx (eVar 0) (eC (.int 0))) (eC (.str "if")))) aNil)) : Sm MX S) ⟨some (.d (.tup [.str wd, enc a, enc b])) :: some (.d (.int m)) :: some (.d (.int (k : Nat))) :: rho, t⟩ = .ok (.d (.int (l1 : Nat))) ⟨some (.d (.tup [.str wd, enc a, enc b])) :: some (.d (.int m)) :: some (.d (.int (k : Nat))) :: rho, t⟩)
  (hl2 : ∀ rho, (eBin dAdd (eVar 2) (eFn fInt (aCons (opd (eBin dNe (eBin dIx (eVar 0) (eC (.int 0))) (eC (.str "if")))) aNil)) : Sm MX S) ⟨some (.d (.tup [.str wd, enc a, enc b])) :: some (.d (.int m)) :: some (.d (.int (k : Nat))) :: rho, t⟩ = .ok (.d (.int (l2 : Nat))) ⟨some (.d (.tup [.str wd, enc a, enc b])) :: some (.d (.int m)) :: some (.d (.int (k : Nat))) :: rho, t⟩)
  (hB : B.length ≤ 140000) (hC : C.length ≤ 140000) (hm : mk.length ≤ 4) (ia : mir (n + 1) .side_text [.d (enc a), .d (.int (l1 : Nat)), .d (.int m)] t = .ok (.d (.str (sc B))) t) (ib : mir (n + 1) .side_text [.d (enc b), .d (.int (l2 : Nat)), .d (.int m)] t = .ok (.d (.str (sc C))) t) :
  mir (n + 2) .statement_text [.d (enc A), .d (.int m)] t = .ok (.d (.str (sc (B ++ (mk ++ C))))) t := by
 have hL : 300000 ≤ lim := by decide
 show fnM 4 (m_statement_text (mir (n + 1))) [.d (enc A), .d (.int m)] t = _
 have s1 := set_d (i := 2) r1
 have s2 : (sSet 3 (eCall (mir (n + 1) .side_text) (aCons (escf (eBin dIx (eVar 0) (eC (.int 1)))) (aCons (escf (eBin dAdd (eVar 2) (eFn fInt (aCons (opd (eBin dEq (eBin dIx (eVar 0) (eC (.int 0))) (eC (.str "if")))) aNil)))) (aCons (escf (eVar 1)) aNil)))) : Sm MX Out) ⟨[some (.d (enc A)), some (.d (.int m)), some (.d (.int (k : Nat))), none], t⟩ = .ok .nx ⟨[some (.d (enc A)), some (.d (.int m)), some (.d (.int (k : Nat))), some (.d (.str (sc B)))], t⟩ := by
  rw [hA]
  have q : ∀ rho, escf (M := MX) (eBin dAdd (eVar 2) (eFn fInt (aCons (opd (eBin dEq (eBin dIx (eVar 0) (eC (.int 0))) (eC (.str "if")))) aNil))) ⟨some (.d (.tup [.str wd, enc a, enc b])) :: some (.d (.int m)) :: some (.d (.int (k : Nat))) :: rho, t⟩ = .ok (.d (.int (l1 : Nat))) ⟨some (.d (.tup [.str wd, enc a, enc b])) :: some (.d (.int m)) :: some (.d (.int (k : Nat))) :: rho, t⟩ := fun rho => by
   unfold escf; rw [hl1]; rfl
  have arg : (aCons (escf (eBin dIx (eVar 0) (eC (.int 1)))) (aCons (escf (eBin dAdd (eVar 2) (eFn fInt (aCons (opd (eBin dEq (eBin dIx (eVar 0) (eC (.int 0))) (eC (.str "if")))) aNil)))) (aCons (escf (eVar 1)) aNil)) : Sm MX (List S)) ⟨[some (.d (.tup [.str wd, enc a, enc b])), some (.d (.int m)), some (.d (.int (k : Nat))), none], t⟩ = .ok [.d (enc a), .d (.int (l1 : Nat)), .d (.int m)] ⟨[some (.d (.tup [.str wd, enc a, enc b])), some (.d (.int m)), some (.d (.int (k : Nat))), none], t⟩ := by
   have p1 : escf (M := MX) (eBin dIx (eVar 0) (eC (.int 1))) ⟨[some (.d (.tup [.str wd, enc a, enc b])), some (.d (.int m)), some (.d (.int (k : Nat))), none], t⟩ = .ok (.d (enc a)) ⟨[some (.d (.tup [.str wd, enc a, enc b])), some (.d (.int m)), some (.d (.int (k : Nat))), none], t⟩ := rfl
   simp only [aCons, kA, p1, q, Rs.bind_ok, aNil]
   rfl
  refine set_d (z1 := ⟨[some (.d (.tup [.str wd, enc a, enc b])), some (.d (.int m)), some (.d (.int (k : Nat))), none], t⟩) ?_
  unfold eCall
  rw [arg]
  simp only [Rs.bind_ok, List.all_cons, List.all_nil, okArg, Bool.and_self, if_true, ia]
 have e3 : (eBin dAdd (eBin dAdd (eVar 3) (eKIx t_MARKS_writing (eBin dIx (eVar 0) (eC (.int 0))))) (eCall (mir (n + 1) .side_text) (aCons (escf (eBin dIx (eVar 0) (eC (.int 2)))) (aCons (escf (eBin dAdd (eVar 2) (eFn fInt (aCons (opd (eBin dNe (eBin dIx (eVar 0) (eC (.int 0))) (eC (.str "if")))) aNil)))) (aCons (escf (eVar 1)) aNil)))) : Sm MX S) ⟨[some (.d (enc A)), some (.d (.int m)), some (.d (.int (k : Nat))), some (.d (.str (sc B)))], t⟩ = .ok (.d (.str (sc (B ++ (mk ++ C))))) ⟨[some (.d (enc A)), some (.d (.int m)), some (.d (.int (k : Nat))), some (.d (.str (sc B)))], t⟩ := by
  rw [hA]
  have q : ∀ rho, escf (M := MX) (eBin dAdd (eVar 2) (eFn fInt (aCons (opd (eBin dNe (eBin dIx (eVar 0) (eC (.int 0))) (eC (.str "if")))) aNil))) ⟨some (.d (.tup [.str wd, enc a, enc b])) :: some (.d (.int m)) :: some (.d (.int (k : Nat))) :: rho, t⟩ = .ok (.d (.int (l2 : Nat))) ⟨some (.d (.tup [.str wd, enc a, enc b])) :: some (.d (.int m)) :: some (.d (.int (k : Nat))) :: rho, t⟩ := fun rho => by
   unfold escf; rw [hl2]; rfl
  have arg : (aCons (escf (eBin dIx (eVar 0) (eC (.int 2)))) (aCons (escf (eBin dAdd (eVar 2) (eFn fInt (aCons (opd (eBin dNe (eBin dIx (eVar 0) (eC (.int 0))) (eC (.str "if")))) aNil)))) (aCons (escf (eVar 1)) aNil)) : Sm MX (List S)) ⟨[some (.d (.tup [.str wd, enc a, enc b])), some (.d (.int m)), some (.d (.int (k : Nat))), some (.d (.str (sc B)))], t⟩ = .ok [.d (enc b), .d (.int (l2 : Nat)), .d (.int m)] ⟨[some (.d (.tup [.str wd, enc a, enc b])), some (.d (.int m)), some (.d (.int (k : Nat))), some (.d (.str (sc B)))], t⟩ := by
   have p1 : escf (M := MX) (eBin dIx (eVar 0) (eC (.int 2))) ⟨[some (.d (.tup [.str wd, enc a, enc b])), some (.d (.int m)), some (.d (.int (k : Nat))), some (.d (.str (sc B)))], t⟩ = .ok (.d (enc b)) ⟨[some (.d (.tup [.str wd, enc a, enc b])), some (.d (.int m)), some (.d (.int (k : Nat))), some (.d (.str (sc B)))], t⟩ := rfl
   simp only [aCons, kA, p1, q, Rs.bind_ok, aNil]
   rfl
  have call : (eCall (mir (n + 1) .side_text) (aCons (escf (eBin dIx (eVar 0) (eC (.int 2)))) (aCons (escf (eBin dAdd (eVar 2) (eFn fInt (aCons (opd (eBin dNe (eBin dIx (eVar 0) (eC (.int 0))) (eC (.str "if")))) aNil)))) (aCons (escf (eVar 1)) aNil))) : Sm MX S) ⟨[some (.d (.tup [.str wd, enc a, enc b])), some (.d (.int m)), some (.d (.int (k : Nat))), some (.d (.str (sc B)))], t⟩ = .ok (.d (.str (sc C))) ⟨[some (.d (.tup [.str wd, enc a, enc b])), some (.d (.int m)), some (.d (.int (k : Nat))), some (.d (.str (sc B)))], t⟩ := by
   unfold eCall
   rw [arg]
   simp only [Rs.bind_ok, List.all_cons, List.all_nil, okArg, Bool.and_self, if_true, ib]
  walk_at "ex"
  rw [r2]
  walk_at "ex"
  rw [dAdd_sc (by omega)]
  walk_at "ex"
  rw [call]
  walk_at "ex"
  rw [dAdd_sc (by rw [List.length_append]; omega)]
  walk_at "ex"
  rw [List.append_assoc]
 exact fnM_d (M := MX) ((seq_nx (if_F (q1_f (by rw [hr]; exact hk) hs))).trans ((seq_nx (if_F (by have := q2 (n := n) (m := m) (t := t) hn; rw [h6] at this; exact this))).trans ((seq_nx (if_F (q3_f h3 hs))).trans ((seq_nx (if_F (q4_f h4 hs))).trans ((seq_nx (if_F (by have := q5_ok (m := m) (t := t) hn; rw [h5] at this; exact this))).trans ((seq_nx s1).trans ((seq_nx s2).trans (ret_d e3))))))))
end
theorem sideP_0 (b : Th) (m : Int) : sideP b 0 m = (ltx b m []).1 := if_neg (by omega)
theorem cds_run (cs : List Nat) (t : Tk) (r : List Pc) : cds (.run cs t :: r) = cs ++ cds r := rfl
theorem cds_mk (c : Nat) (r : List Pc) : cds (.mk c :: r) = c :: cds r := rfl
theorem cds_bl1 (r : List Pc) : cds (bl 1 ++ r) = 32 :: cds r := rfl
theorem cds_arrow (r : List Pc) : cds (.arrow :: r) = 45 :: 62 :: cds r := rfl
theorem sideP_len {A : Th} {l : Nat} {m : Int} (h : gS A m) (hs : size A ≤ 5000) : (cds (sideP A l m)).length ≤ 140000 := by
 have q := (ltx_ok A m [] h).l
 unfold sideP
 by_cases c : rk A < l
 ·rw [if_pos c]
  show (40 :: cds ((ltx A m []).1 ++ [.mk 41])).length ≤ _
  rw [cds_app, List.length_cons, List.length_append]
  have : (cds [Pc.mk 41]).length = 1 := rfl
  omega
 ·rw [if_neg c]; omega
theorem statement_ok (t : List MO) : ∀ (k : Nat) (A : Th) (m : Int), depth A ≤ k → gS A m → size A ≤ 5000 → ∀ n, mir (n + 2 * k + 4) .statement_text [.d (enc A), .d (.int m)] t = .ok (.d (.str (sc (cds (ltx A m []).1)))) t
 | 0, A, m, hk, _, _, _ => by rw [depth_kids] at hk; omega
 | k + 1, .all s b, m, hk, h, hs, n => by
  rw [depth] at hk
  rw [size] at hs
  have hl := (ltx_ok b (m + 1) [] h.2.2.2).l
  have := st_bound (.all s b) (n := n + 2 * k + 5) (m := m) (t := t) (cw := cAll) (wd := "all") (f := s) (b := b) (B := cds (ltx b (m + 1) []).1) (by rw [enc]) ⟨s, b, .inl rfl⟩ (by kernel_rfl) (by decide) h.1 h.2.1 h.2.2.1 (by omega) (by
   have := statement_ok t k b (m + 1) (by omega) h.2.2.2 (by omega) (n + 1)
   rw [show n + 1 + 2 * k + 4 = n + 2 * k + 5 by omega] at this
   exact this)
  rw [ltx, show (gp []).2 = [] from rfl, show (gp []).1 = 1 from rfl, brk_nil, sideP_0, pX, pN, cds_run, cds_bl1, cds_run, cds_mk, cds_run, cds_mk, cds_bl1]
  exact this
 | k + 1, .some s b, m, hk, h, hs, n => by
  rw [depth] at hk
  rw [size] at hs
  have hl := (ltx_ok b (m + 1) [] h.2.2.2).l
  have := st_bound (.some s b) (n := n + 2 * k + 5) (m := m) (t := t) (cw := cSome) (wd := "some") (f := s) (b := b) (B := cds (ltx b (m + 1) []).1) (by rw [enc]) ⟨s, b, .inr rfl⟩ (by kernel_rfl) (by decide) h.1 h.2.1 h.2.2.1 (by omega) (by
   have := statement_ok t k b (m + 1) (by omega) h.2.2.2 (by omega) (n + 1)
   rw [show n + 1 + 2 * k + 4 = n + 2 * k + 5 by omega] at this
   exact this)
  rw [ltx, show (gp []).2 = [] from rfl, show (gp []).1 = 1 from rfl, brk_nil, sideP_0, pX, pN, cds_run, cds_bl1, cds_run, cds_mk, cds_run, cds_mk, cds_bl1]
  exact this
 | k + 1, .no, m, hk, h, hs, n => by
  rw [ltx, cds_run, show cds [] = [] from rfl, List.append_nil]
  exact st_no (n := n + 2 * k + 4)
 | k + 1, .rel f as, m, hk, h, hs, n => by
  rw [depth] at hk
  rw [size] at hs
  rw [ltx, pN, cds_run]
  refine st_rel (n := n + 2 * k + 4) (gS_nms (A := .rel f as) h) ?_
  exact called_text_ok h.1 h.2 (by omega) (fun x hx => by
   have := term_text_ok m t k x (by have := depth_mem hx; omega) (gTs_mem h.2 x hx) (by have := mem_size hx; omega) (n + 4)
   rw [show n + 4 + 2 * k = n + 2 * k + 4 by omega] at this
   exact this)
 | k + 1, .same a b, m, hk, h, hs, n => by
  rw [depth] at hk
  rw [size] at hs
  have la := len_T h.1
  have lb := len_T h.2
  rw [ltx, show (gp []).1 = 1 from rfl, cds_app, cds_bl1, cds_mk, cds_bl1]
  refine st_same (n := n + 2 * k + 4) (gS_nms (A := .same a b) h) (by omega) (by omega) ?_ ?_
  ·have := term_text_ok m t k a (by omega) h.1 (by omega) (n + 5)
   rw [show n + 5 + 2 * k = n + 2 * k + 4 + 1 by omega] at this
   exact this
  ·have := term_text_ok m t k b (by omega) h.2 (by omega) (n + 5)
   rw [show n + 5 + 2 * k = n + 2 * k + 4 + 1 by omega] at this
   exact this
 | k + 1, .and a b, m, hk, h, hs, n => by
  rw [depth] at hk
  rw [size] at hs
  have ia := statement_ok t k a m (by omega) h.1 (by omega) n
  have ib := statement_ok t k b m (by omega) h.2 (by omega) n
  rw [ltx, show (gp []).2 = [] from rfl, show (gp []).1 = 1 from rfl, brk_nil, brk_nil, cds_app, cds_bl1, cds_mk, cds_bl1]
  exact st_bin (.and a b) (n := n + 2 * k + 4) (k := 3) (l1 := 3) (l2 := 4) (mk := [32, 38, 32]) (by rw [enc]) rfl (by omega) rfl (fun _ _ e => by cases e) (fun _ _ e => by cases e) rfl rfl (gS_nms (A := .and a b) h) (by unfold zA; rw [enc]; kernel_rfl) (fun x => by kernel_rfl) (fun rho => by kernel_rfl) (fun rho => by kernel_rfl) (sideP_len h.1 (by omega)) (sideP_len h.2 (by omega)) (by decide) (side_text_ok (n + 2 * k + 2) h.1 (by omega) ia) (side_text_ok (n + 2 * k + 2) h.2 (by omega) ib)
 | k + 1, .or a b, m, hk, h, hs, n => by
  rw [depth] at hk
  rw [size] at hs
  have ia := statement_ok t k a m (by omega) h.1 (by omega) n
  have ib := statement_ok t k b m (by omega) h.2 (by omega) n
  rw [ltx, show (gp []).2 = [] from rfl, show (gp []).1 = 1 from rfl, brk_nil, brk_nil, cds_app, cds_bl1, cds_mk, cds_bl1]
  exact st_bin (.or a b) (n := n + 2 * k + 4) (k := 2) (l1 := 2) (l2 := 3) (mk := [32, 124, 32]) (by rw [enc]) rfl (by omega) rfl (fun _ _ e => by cases e) (fun _ _ e => by cases e) rfl rfl (gS_nms (A := .or a b) h) (by unfold zA; rw [enc]; kernel_rfl) (fun x => by kernel_rfl) (fun rho => by kernel_rfl) (fun rho => by kernel_rfl) (sideP_len h.1 (by omega)) (sideP_len h.2 (by omega)) (by decide) (side_text_ok (n + 2 * k + 2) h.1 (by omega) ia) (side_text_ok (n + 2 * k + 2) h.2 (by omega) ib)
 | k + 1, .imp a b, m, hk, h, hs, n => by
  rw [depth] at hk
  rw [size] at hs
  have ia := statement_ok t k a m (by omega) h.1 (by omega) n
  have ib := statement_ok t k b m (by omega) h.2 (by omega) n
  rw [ltx]
  cases c : isNo b with
  | true =>
   have e := isNo_eq c
   subst e
   rw [if_pos rfl, show (gp []).2 = [] from rfl, brk_nil, cds_mk]
   exact st_not (n := n + 2 * k + 4) (gS_nms (A := .imp a .no) h) (sideP_len h.1 (by omega)) (side_text_ok (n + 2 * k + 2) (l := 4) h.1 (by omega) ia)
  | false =>
   rw [if_neg (by decide), show (gp []).2 = [] from rfl, show (gp []).1 = 1 from rfl, brk_nil, brk_nil, cds_app, cds_bl1, cds_arrow, cds_bl1]
   exact st_bin (.imp a b) (n := n + 2 * k + 4) (k := 1) (l1 := 2) (l2 := 1) (mk := [32, 45, 62, 32]) (by rw [enc]) (by rw [rk, c]; rfl) (by omega) rfl (fun _ _ e => by cases e) (fun _ _ e => by cases e) rfl c (gS_nms (A := .imp a b) h) (by unfold zA; rw [enc]; kernel_rfl) (fun x => by kernel_rfl) (fun rho => by kernel_rfl) (fun rho => by kernel_rfl) (sideP_len h.1 (by omega)) (sideP_len h.2 (by omega)) (by decide) (side_text_ok (n + 2 * k + 2) h.1 (by omega) ia) (side_text_ok (n + 2 * k + 2) h.2 (by omega) ib)
 | k + 1, .var _, _, _, h, _, _ => h.elim
 | k + 1, .call _ _, _, _, h, _, _ => h.elim
noncomputable def Mv (q : Nat) (t t' : List MO) : Prop := (∀ i, i ≠ q → i < t.length → t'[i]? = t[i]?) ∧ t.length ≤ t'.length
theorem Mv.refl (q : Nat) (t : List MO) : Mv q t t := ⟨fun _ _ _ => rfl, Nat.le_refl _⟩
theorem Mv.trans {q : Nat} {a b c : List MO} (h : Mv q a b) (g : Mv q b c) : Mv q a c := ⟨fun i n l => (g.1 i n (Nat.lt_of_lt_of_le l h.2)).trans (h.1 i n l), Nat.le_trans h.2 g.2⟩
theorem Mv.app {q : Nat} {a e : List MO} : Mv q a (a ++ e) := ⟨fun i _ l => List.getElem?_append_left l, by rw [List.length_append]; omega⟩
theorem Mv.set {q : Nat} {a : List MO} {o : MO} : Mv q a (a.set q o) := ⟨fun i n _ => List.getElem?_set_ne (Ne.symm n), by rw [List.length_set]; exact Nat.le_refl _⟩
noncomputable def Mr (t : List MO) (q : Nat) (rs : List Int) : Prop := t[q]? = some (.lst ((rs.reverse).map D.int))
theorem Mr.app {t e : List MO} {q : Nat} {rs : List Int} (h : Mr t q rs) : Mr (t ++ e) q rs := by
 unfold Mr at h ⊢
 rw [List.getElem?_append_left (List.getElem?_eq_some_iff.mp h).1]; exact h
theorem ebin_ok {g : D → D → Option R} {f f' : Sm MX S} {z z1 z2 : Z (List MO)} {a b r : D} (hf : f z = .ok (.d a) z1) (hf' : f' z1 = .ok (.d b) z2) (h : g a b = some (.d r)) : eBin g f f' z = .ok (.d r) z2 := by
 unfold eBin kB opd
 rw [hf]
 simp only [Rs.bind_ok, hf', rd, Option.bind_some, h, fin, R.toS]
theorem eif_t {c : Sm MX Bool} {f g : Sm MX S} {z z1 : Z (List MO)} (h : c z = .ok true z1) : eIf c f g z = f z1 := by unfold eIf kE; rw [h]; rfl
theorem eif_f {c : Sm MX Bool} {f g : Sm MX S} {z z1 : Z (List MO)} (h : c z = .ok false z1) : eIf c f g z = g z1 := by unfold eIf kE; rw [h]; rfl
noncomputable def R5 : List (Key × D) := mergeD [] [(.inr "all", .int 0), (.inr "some", .int 0), (.inr "if", .int 1), (.inr "or", .int 2), (.inr "and", .int 3)]
noncomputable def R3 : List (Key × D) := mergeD [] (ksD [("if", "->"), ("or", "|"), ("and", "&")])
theorem set_last {t : List MO} {a b : MO} : (t ++ [a]).set t.length b = t ++ [b] := by
 rw [List.set_append_right _ _ (Nat.le_refl _), Nat.sub_self]; rfl
theorem disp5 (rho : List (Option S)) (t : List MO) : (eDispG [("all", (eC (.int 0))), ("some", (eC (.int 0))), ("if", (eC (.int 1))), ("or", (eC (.int 2))), ("and", (eC (.int 3)))] : Sm MX S) ⟨rho, t⟩ = .ok (.d (.o t.length)) ⟨rho, t ++ [MO.dK R5]⟩ := by
 unfold eDispG
 have e : dKs [("all", (eC (.int 0))), ("some", (eC (.int 0))), ("if", (eC (.int 1))), ("or", (eC (.int 2))), ("and", (eC (.int 3)))] ⟨rho, t ++ [MO.dK []]⟩ = .ok [(.inr "all", .int 0), (.inr "some", .int 0), (.inr "if", .int 1), (.inr "or", .int 2), (.inr "and", .int 3)] ⟨rho, t ++ [MO.dK []]⟩ := rfl
 rw [e]
 simp only [Rs.bind_ok, getlast, List.length_cons, List.length_nil]
 rw [if_pos (by omega), set_last]
 rfl
theorem get5 {w : Str} {k : D} {rho : List (Option S)} {t : List MO} (h : (valD R5 (.inr w)).getD (.int 5) = k) (h0 : (eBin dIx (eVar 0) (eC (.int 0)) : Sm MX S) ⟨rho, t ++ [MO.dK R5]⟩ = .ok (.d (.str w)) ⟨rho, t ++ [MO.dK R5]⟩) : (eDGet2 (eDispG [("all", (eC (.int 0))), ("some", (eC (.int 0))), ("if", (eC (.int 1))), ("or", (eC (.int 2))), ("and", (eC (.int 3)))]) (eBin dIx (eVar 0) (eC (.int 0))) (eC (.int 5)) : Sm MX S) ⟨rho, t⟩ = .ok (.d k) ⟨rho, t ++ [MO.dK R5]⟩ := by
 have e : dictAt ⟨rho, t ++ [MO.dK R5]⟩ (.d (.o t.length)) = some (t.length, R5) := by
  unfold dictAt rd
  simp only [getlast]
 unfold eDGet2 opd
 rw [disp5]
 simp only [Rs.bind_ok, e, h0]
 simp only [escf, eC, Rs.bind_ok, escS, rd, Option.bind_some, keyD]
 rw [e]
 show Rs.ok (S.d ((valD R5 (Sum.inr w)).getD (.int 5))) _ = _
 rw [h]
theorem disp3 (rho : List (Option S)) (t : List MO) : (eDisp [("if", "->"), ("or", "|"), ("and", "&")] : Sm MX S) ⟨rho, t⟩ = .ok (.d (.o t.length)) ⟨rho, t ++ [MO.dK R3]⟩ := rfl
theorem get3 {w : Str} {k : D} {rho : List (Option S)} {t : List MO} (h : valD R3 (.inr w) = some k) (h0 : (eBin dIx (eVar 0) (eC (.int 0)) : Sm MX S) ⟨rho, t ++ [MO.dK R3]⟩ = .ok (.d (.str w)) ⟨rho, t ++ [MO.dK R3]⟩) : (eDIx (eDisp [("if", "->"), ("or", "|"), ("and", "&")]) (eBin dIx (eVar 0) (eC (.int 0))) : Sm MX S) ⟨rho, t⟩ = .ok (.d k) ⟨rho, t ++ [MO.dK R3]⟩ := by
 have e : dictAt ⟨rho, t ++ [MO.dK R3]⟩ (.d (.o t.length)) = some (t.length, R3) := by
  unfold dictAt rd
  simp only [getlast]
 unfold eDIx opd
 rw [disp3]
 simp only [Rs.bind_ok, e, h0, rd, Option.bind_some, keyD, h]
section
variable {n : Nat} {m : Int} {t : List MO} {q : Nat} {rs : List Int}
theorem rank_ok (n : Nat) {A : Th} {t : List MO} (h : nms A = true) (hs : isSt A = true) : ∃ e, mir (n + 1) ._law_rank [.d (enc A)] t = .ok (.d (.int (rk A : Nat))) (t ++ e) := by
 have fin : ∀ {k : Nat}, (tAndM (tOf (eBin dEq (eBin dIx (eVar 0) (eC (.int 0))) (eC (.str "if")))) (tOf (eBin dEq (eBin dIx (eVar 0) (eC (.int 2))) (eTup (aCons (escf (eC (.str "no"))) aNil)))) : Sm MX Bool) ⟨[some (.d (enc A))], t⟩ = .ok false ⟨[some (.d (enc A))], t⟩ → (∃ w : Str, (valD R5 (.inr w)).getD (.int 5) = .int (k : Nat) ∧ ∀ t : List MO, (eBin dIx (eVar 0) (eC (.int 0)) : Sm MX S) ⟨[some (.d (enc A))], t⟩ = .ok (.d (.str w)) ⟨[some (.d (enc A))], t⟩) → ∃ e, mir (n + 1) ._law_rank [.d (enc A)] t = .ok (.d (.int (k : Nat))) (t ++ e) := fun {k} c hw => by
  obtain ⟨w, h1, h2⟩ := hw
  refine ⟨[MO.dK R5], ?_⟩
  show fnM 1 (m__law_rank (mir n)) [.d (enc A)] t = _
  exact fnM_d (M := MX) ((seq_nx (if_F c)).trans (ret_d (get5 h1 (h2 _))))
 cases A with
 | imp a b =>
  rw [nms, Bool.and_eq_true] at h
  have c : (tAndM (tOf (eBin dEq (eBin dIx (eVar 0) (eC (.int 0))) (eC (.str "if")))) (tOf (eBin dEq (eBin dIx (eVar 0) (eC (.int 2))) (eTup (aCons (escf (eC (.str "no"))) aNil)))) : Sm MX Bool) ⟨[some (.d (enc (.imp a b)))], t⟩ = .ok (isNo b) ⟨[some (.d (enc (.imp a b)))], t⟩ := by
   rw [enc]
   walk_at "ex"
   rw [ix0]
   walk_at "ex"
   rw [show dEq (.str "if") (.str "if") = some (.d (.bl true)) from by kernel_rfl]
   walk_at "ex"
   rw [ix2]
   walk_at "ex"
   rw [eq_no h.2]
   rfl
  cases e : isNo b with
  | true =>
   rw [e] at c
   refine ⟨[], ?_⟩
   rw [List.append_nil, show rk (.imp a b) = 4 from by rw [rk, e]; rfl]
   show fnM 1 (m__law_rank (mir n)) [.d (enc (.imp a b))] t = _
   exact fnM_d (M := MX) (seq_rt ((if_T c).trans (ret_d rfl)))
  | false =>
   rw [e] at c
   rw [show rk (.imp a b) = 1 from by rw [rk, e]; rfl]
   exact fin c ⟨"if", by kernel_rfl, fun t => by rw [enc]; rfl⟩
 | all s b => exact fin (k := 0) (by rw [enc]; kernel_rfl) ⟨"all", by kernel_rfl, fun t => by rw [enc]; rfl⟩
 | some s b => exact fin (k := 0) (by rw [enc]; kernel_rfl) ⟨"some", by kernel_rfl, fun t => by rw [enc]; rfl⟩
 | or a b => exact fin (k := 2) (by rw [enc]; kernel_rfl) ⟨"or", by kernel_rfl, fun t => by rw [enc]; rfl⟩
 | and a b => exact fin (k := 3) (by rw [enc]; kernel_rfl) ⟨"and", by kernel_rfl, fun t => by rw [enc]; rfl⟩
 | rel f as => exact fin (k := 5) (by rw [enc]; kernel_rfl) ⟨"rel", by kernel_rfl, fun t => by rw [enc]; rfl⟩
 | same a b => exact fin (k := 5) (by rw [enc]; kernel_rfl) ⟨"same", by kernel_rfl, fun t => by rw [enc]; rfl⟩
 | no => exact fin (k := 5) (by rw [enc]; kernel_rfl) ⟨"no", by kernel_rfl, fun t => by rw [enc]; rfl⟩
 | var _ => cases hs
 | call _ _ => cases hs
theorem t_more {i : Nat} {rho : List (Option S)} (hi : rho[i]? = some (some (.d (.o q)))) (h : Mr t q rs) : (tOf (eBinO (dEq0 true) (eVar i) (eLst aNil)) : Sm MX Bool) ⟨rho, t⟩ = .ok (!rs.isEmpty) ⟨rho, t⟩ := by
 have e : rdO ⟨rho, t⟩ (.d (.o q)) = some (.lst (rs.reverse.map D.int)) := by
  unfold rdO listAt rd
  unfold Mr at h
  simp only [h]
 unfold tOf eBinO opd
 simp only [eVar, hi, Rs.bind_ok]
 walk_at "ex"
 rw [e]
 simp only [Option.bind_some, dEq0]
 walk_at "ex"
 cases rs with
 | nil => rfl
 | cons x r =>
  rw [List.reverse_cons, List.map_append]
  cases (r.reverse.map D.int) <;> rfl
theorem pop_more {i : Nat} {r : Int} {rho : List (Option S)} (hi : rho[i]? = some (some (.d (.o q)))) (h : Mr t q (r :: rs)) : ∃ t', (ePopO (eVar i) : Sm MX S) ⟨rho, t⟩ = .ok (.d (.int r)) ⟨rho, t'⟩ ∧ Mr t' q rs ∧ Mv q t t' := by
 unfold Mr at h
 rw [List.reverse_cons, List.map_append] at h
 refine ⟨t.set q (.lst (rs.reverse.map D.int)), ?_, getset_eq h, Mv.set⟩
 exact pop_ok (z := ⟨rho, t⟩) (by unfold opd; simp only [eVar, hi, Rs.bind_ok]) h
theorem mulS (g : Nat) (h1 : 1 ≤ g) (h2 : g ≤ 2) : dMulS (.str " ") (.int (g : Nat)) = some (.d (.str (sc (List.replicate g 32)))) := by
 match g, h1, h2 with
 | 1, _, _ => kernel_rfl
 | 2, _, _ => kernel_rfl
theorem gap_ok {rho : List (Option S)} (hi : rho[2]? = some (some (.d (.o q)))) (h : Mr t q rs) : ∃ t', (sSet 3 (eBin dMulS (eC (.str " ")) (eBin dAdd (eC (.int 1)) (eIf (tOf (eBinO (dEq0 true) (eVar 2) (eLst aNil))) (eBin dFdiv (eBin dMod (ePopO (eVar 2)) (eC (.int 5))) (eC (.int 4))) (eC (.int 0))))) : Sm MX Out) ⟨rho, t⟩ = .ok .nx ⟨rho.set 3 (some (.d (.str (sc (List.replicate (gp rs).1 32))))), t'⟩ ∧ Mr t' q (gp rs).2 ∧ Mv q t t' := by
 have hg := gp_1 rs
 cases rs with
 | nil =>
  refine ⟨t, set_d (z1 := ⟨rho, t⟩) ?_, h, Mv.refl _ _⟩
  have c := t_more hi h
  have e : (eIf (tOf (eBinO (dEq0 true) (eVar 2) (eLst aNil))) (eBin dFdiv (eBin dMod (ePopO (eVar 2)) (eC (.int 5))) (eC (.int 4))) (eC (.int 0)) : Sm MX S) ⟨rho, t⟩ = .ok (.d (.int 0)) ⟨rho, t⟩ := by
   exact eif_f c
  exact ebin_ok (a := .str " ") (b := .int 1) rfl (ebin_ok (a := .int 1) (b := .int 0) rfl e rfl) (mulS 1 (by omega) (by omega))
 | cons r rs =>
  obtain ⟨t1, e1, h1, m1⟩ := pop_more hi h
  refine ⟨t1, set_d (z1 := ⟨rho, t1⟩) ?_, h1, m1⟩
  have c := t_more hi h
  have e : (eIf (tOf (eBinO (dEq0 true) (eVar 2) (eLst aNil))) (eBin dFdiv (eBin dMod (ePopO (eVar 2)) (eC (.int 5))) (eC (.int 4))) (eC (.int 0)) : Sm MX S) ⟨rho, t⟩ = .ok (.d (.int (r % 5 / 4))) ⟨rho, t1⟩ := by
   exact (eif_t c).trans (ebin_ok (a := .int (r % 5)) (b := .int 4) (ebin_ok (a := .int r) (b := .int 5) e1 rfl rfl) rfl rfl)
  have e3 : (1 : Int) + r % 5 / 4 = ((gp (r :: rs)).1 : Nat) := by
   show _ = ((1 + (r % 5 / 4).toNat : Nat) : Int)
   omega
  refine ebin_ok (a := .str " ") (b := .int ((gp (r :: rs)).1 : Nat)) rfl (ebin_ok (a := .int 1) (b := .int (r % 5 / 4)) rfl e ?_) (mulS _ hg.1 hg.2)
  rw [dAdd_i, e3]
end
noncomputable def LT (n : Nat) (A : Th) (m : Int) : Prop := ∀ (t : List MO) (q : Nat) (rs : List Int), Mr t q rs → ∃ t', mir n ._law_text [.d (enc A), .d (.int m), .d (.o q)] t = .ok (.d (.str (sc (cds (ltx A m rs).1)))) t' ∧ Mr t' q (ltx A m rs).2 ∧ Mv q t t'
noncomputable def LS (n : Nat) (A : Th) (l : Nat) (m : Int) : Prop := ∀ (t : List MO) (q : Nat) (rs : List Int), Mr t q rs → ∃ t', mir n ._law_side [.d (enc A), .d (.int (l : Nat)), .d (.int m), .d (.o q)] t = .ok (.d (.str (sc (cds (brk (rk A) l (ltx A m rs)).1)))) t' ∧ Mr t' q (brk (rk A) l (ltx A m rs)).2 ∧ Mv q t t'
theorem call_d {c : List S → List MO → Rs S (List MO)} {g : Sm MX (List S)} {ss : List S} {z : Z (List MO)} {rho1 : List (Option S)} {t1 t' : List MO} {v : S} (hg : g z = .ok ss ⟨rho1, t1⟩) (hs : ss.all okArg = true) (hc : c ss t1 = .ok v t') : eCall c g z = .ok v ⟨rho1, t'⟩ := by
 unfold eCall
 rw [hg]
 simp only [Rs.bind_ok, hs, if_true, hc]
theorem side_ok (n : Nat) {A : Th} {m : Int} {l : Nat} (h : gS A m) (hs : size A ≤ 5000) (ih : LT (n + 1) A m) : LS (n + 2) A l m := by
 intro t q rs hr
 obtain ⟨t1, e1, r1, m1⟩ := ih t q rs hr
 have hl := (ltx_ok A m rs h).l
 have hL : 26 * size A ≤ lim := by
  have : 26 * 5000 ≤ lim := by decide
  omega
 have s1 : (sSet 4 (eCall (mir (n + 1) ._law_text) (aCons (escf (eVar 0)) (aCons (escf (eVar 2)) (aCons (escf (eVar 3)) aNil)))) : Sm MX Out) ⟨[some (.d (enc A)), some (.d (.int (l : Nat))), some (.d (.int m)), some (.d (.o q)), none, none], t⟩ = .ok .nx ⟨[some (.d (enc A)), some (.d (.int (l : Nat))), some (.d (.int m)), some (.d (.o q)), some (.d (.str (sc (cds (ltx A m rs).1)))), none], t1⟩ :=
  set_d (call_d (ss := [.d (enc A), .d (.int m), .d (.o q)]) rfl rfl e1)
 have s2 : ∃ t2, (sSet 5 (eIf (tOf (eBinO (dEq0 true) (eVar 3) (eLst aNil))) (ePopO (eVar 3)) (eC (.int 0))) : Sm MX Out) ⟨[some (.d (enc A)), some (.d (.int (l : Nat))), some (.d (.int m)), some (.d (.o q)), some (.d (.str (sc (cds (ltx A m rs).1)))), none], t1⟩ = .ok .nx ⟨[some (.d (enc A)), some (.d (.int (l : Nat))), some (.d (.int m)), some (.d (.o q)), some (.d (.str (sc (cds (ltx A m rs).1)))), some (.d (.int (hd0 (ltx A m rs).2)))], t2⟩ ∧ Mr t2 q (ltx A m rs).2.tail ∧ Mv q t1 t2 := by
  have c := t_more (i := 3) (rho := [some (.d (enc A)), some (.d (.int (l : Nat))), some (.d (.int m)), some (.d (.o q)), some (.d (.str (sc (cds (ltx A m rs).1)))), none]) rfl r1
  generalize (ltx A m rs).2 = us at r1 c ⊢
  cases us with
  | nil => exact ⟨t1, set_d ((eif_f c).trans rfl), r1, Mv.refl _ _⟩
  | cons r us =>
   obtain ⟨t2, e2, r2, m2⟩ := pop_more (i := 3) (rho := [some (.d (enc A)), some (.d (.int (l : Nat))), some (.d (.int m)), some (.d (.o q)), some (.d (.str (sc (cds (ltx A m rs).1)))), none]) rfl r1
   exact ⟨t2, set_d ((eif_t c).trans e2), r2, m2⟩
 obtain ⟨t2, s2, r2, m2⟩ := s2
 obtain ⟨e, hk⟩ := rank_ok n (A := A) (t := t2) (gS_nms h) (gS_st h)
 have cc : (tOrM (tOf (eBin dLt (eCall (mir (n + 1) ._law_rank) (aCons (escf (eVar 0)) aNil)) (eVar 1))) (tOf (eBin dEq (eBin dMod (eVar 5) (eC (.int 7))) (eC (.int 1)))) : Sm MX Bool) ⟨[some (.d (enc A)), some (.d (.int (l : Nat))), some (.d (.int m)), some (.d (.o q)), some (.d (.str (sc (cds (ltx A m rs).1)))), some (.d (.int (hd0 (ltx A m rs).2)))], t2⟩ = .ok (decide (rk A < l ∨ hd0 (ltx A m rs).2 % 7 = 1)) ⟨[some (.d (enc A)), some (.d (.int (l : Nat))), some (.d (.int m)), some (.d (.o q)), some (.d (.str (sc (cds (ltx A m rs).1)))), some (.d (.int (hd0 (ltx A m rs).2)))], t2 ++ e⟩ := by
  walk_at "ec"
  rw [hk]
  walk_at "ec"
  by_cases c1 : rk A < l
  ·have : ((rk A : Nat) : Int) < ((l : Nat) : Int) := by omega
   simp only [this, decide_true, if_true]
   rw [decide_eq_true (.inl c1)]
  ·have : ¬ ((rk A : Nat) : Int) < ((l : Nat) : Int) := by omega
   simp only [this]
   walk_at "ec"
   rw [show dMod (.int (hd0 (ltx A m rs).2)) (.int 7) = some (.d (.int (hd0 (ltx A m rs).2 % 7))) from rfl]
   walk_at "ec"
   congr 1
   simp [c1]
 have fin : (sSeq (sIf (tOrM (tOf (eBin dLt (eCall (mir (n + 1) ._law_rank) (aCons (escf (eVar 0)) aNil)) (eVar 1))) (tOf (eBin dEq (eBin dMod (eVar 5) (eC (.int 7))) (eC (.int 1))))) (sRet (eBin dAdd (eBin dAdd (eC (.str "(")) (eVar 4)) (eC (.str ")")))) sNil) (sRet (eVar 4)) : Sm MX Out) ⟨[some (.d (enc A)), some (.d (.int (l : Nat))), some (.d (.int m)), some (.d (.o q)), some (.d (.str (sc (cds (ltx A m rs).1)))), some (.d (.int (hd0 (ltx A m rs).2)))], t2⟩ = .ok (.rt (.d (.str (sc (cds (brk (rk A) l (ltx A m rs)).1))))) ⟨[some (.d (enc A)), some (.d (.int (l : Nat))), some (.d (.int m)), some (.d (.o q)), some (.d (.str (sc (cds (ltx A m rs).1)))), some (.d (.int (hd0 (ltx A m rs).2)))], t2 ++ e⟩ := by
  unfold brk
  by_cases c : rk A < l ∨ hd0 (ltx A m rs).2 % 7 = 1
  ·rw [decide_eq_true c] at cc
   simp only [if_pos c]
   refine seq_rt ((if_t cc).trans (ret_d ?_))
   have a1 : dAdd (.str "(") (.str (sc (cds (ltx A m rs).1))) = some (.d (.str (sc (40 :: cds (ltx A m rs).1)))) := by
    rw [← par_l, dAdd_sc (by show 1 + _ ≤ _; omega)]; rfl
   have a2 : dAdd (.str (sc (40 :: cds (ltx A m rs).1))) (.str ")") = some (.d (.str (sc (cds (.mk 40 :: ((ltx A m rs).1 ++ [.mk 41])))))) := by
    rw [← par_r, dAdd_sc (by rw [List.length_cons]; show _ + 1 + 1 ≤ _; omega)]
    show _ = some (R.d (D.str (sc (40 :: cds ((ltx A m rs).1 ++ [.mk 41])))))
    rw [cds_app]; rfl
   exact ebin_ok (ebin_ok rfl rfl a1) rfl a2
  ·rw [decide_eq_false c] at cc
   simp only [if_neg c]
   exact (seq_nx (if_f cc)).trans (ret_d rfl)
 refine ⟨t2 ++ e, ?_, r2.app, m1.trans (m2.trans Mv.app)⟩
 show fnM 6 (m__law_side (mir (n + 1))) [.d (enc A), .d (.int (l : Nat)), .d (.int m), .d (.o q)] t = _
 exact fnM_d (M := MX) ((seq_nx s1).trans ((seq_nx s2).trans fin))
noncomputable def z7 (A : Th) (m : Int) (q : Nat) (g k : Nat) (t : List MO) : Z (List MO) := ⟨[some (.d (enc A)), some (.d (.int m)), some (.d (.o q)), some (.d (.str (sc (List.replicate g 32)))), some (.d (.int (k : Nat))), none, none], t⟩
theorem begin_ok (n : Nat) {A : Th} {m : Int} {t : List MO} {q : Nat} {rs : List Int} (h : gS A m) (hr : Mr t q rs) : ∃ t1 t2, (sSet 3 (eBin dMulS (eC (.str " ")) (eBin dAdd (eC (.int 1)) (eIf (tOf (eBinO (dEq0 true) (eVar 2) (eLst aNil))) (eBin dFdiv (eBin dMod (ePopO (eVar 2)) (eC (.int 5))) (eC (.int 4))) (eC (.int 0))))) : Sm MX Out) ⟨[some (.d (enc A)), some (.d (.int m)), some (.d (.o q)), none, none, none, none], t⟩ = .ok .nx ⟨[some (.d (enc A)), some (.d (.int m)), some (.d (.o q)), some (.d (.str (sc (List.replicate (gp rs).1 32)))), none, none, none], t1⟩ ∧
  (sSet 4 (eCall (mir (n + 1) ._law_rank) (aCons (escf (eVar 0)) aNil)) : Sm MX Out) ⟨[some (.d (enc A)), some (.d (.int m)), some (.d (.o q)), some (.d (.str (sc (List.replicate (gp rs).1 32)))), none, none, none], t1⟩ = .ok .nx (z7 A m q (gp rs).1 (rk A) t2) ∧ Mr t2 q (gp rs).2 ∧ Mv q t t2 := by
 obtain ⟨t1, e1, r1, m1⟩ := gap_ok (rho := [some (.d (enc A)), some (.d (.int m)), some (.d (.o q)), none, none, none, none]) rfl hr
 obtain ⟨e, hk⟩ := rank_ok n (A := A) (t := t1) (gS_nms h) (gS_st h)
 exact ⟨t1, t1 ++ e, e1, set_d (call_d (ss := [.d (enc A)]) rfl rfl hk), r1.app, m1.trans Mv.app⟩
theorem cds_bl (g : Nat) (r : List Pc) : cds (bl g ++ r) = List.replicate g 32 ++ cds r := by
 rw [cds_app]
 congr 1
 induction g with
 | zero => rfl
 | succ g ih =>
  rw [bl, List.replicate_succ, List.replicate_succ]
  show 32 :: cds (bl g) = _
  rw [ih]
theorem kq {A : Th} {m : Int} {q g k : Nat} {t : List MO} {c : Int} : (tOf (eBin dEq (eVar 4) (eC (.int c))) : Sm MX Bool) (z7 A m q g k t) = .ok (decide (((k : Nat) : Int) = c)) (z7 A m q g k t) := by
 unfold z7
 walk_at "ex"
theorem wq {A : Th} {m : Int} {q g k : Nat} {t : List MO} {w x : Str} {r : List D} (hA : enc A = .tup (.str w :: r)) (hw : PyData.strOk w = true) (hx : PyData.strOk x = true) : (tOf (eBin dEq (eBin dIx (eVar 0) (eC (.int 0))) (eC (.str x))) : Sm MX Bool) (z7 A m q g k t) = .ok (w == x) (z7 A m q g k t) := by
 unfold z7
 rw [hA]
 walk_at "ex"
 rw [show dIx (.tup (.str w :: r)) (.int 0) = some (.d (.str w)) from by show (atI (.str w :: r) 0).map R.d = _; rw [atI0]; rfl]
 walk_at "ex"
 rw [dEq_s hw hx]
 rfl
theorem lim8 : 800000 ≤ lim := by decide
theorem addS {a b : List Nat} (ha : a.length ≤ 400000) (hb : b.length ≤ 400000) : dAdd (.str (sc a)) (.str (sc b)) = some (.d (.str (sc (a ++ b)))) := dAdd_sc (by have := lim8; omega)
theorem sadd {f f' : Sm MX S} {z z1 z2 : Z (List MO)} {a b : List Nat} (hf : f z = .ok (.d (.str (sc a))) z1) (hf' : f' z1 = .ok (.d (.str (sc b))) z2) (ha : a.length ≤ 400000) (hb : b.length ≤ 400000) : eBin dAdd f f' z = .ok (.d (.str (sc (a ++ b)))) z2 := ebin_ok hf hf' (addS ha hb)
theorem lit {x : Str} {l : List Nat} {z : Z (List MO)} (h : x = sc l) : (eC (.str x) : Sm MX S) z = .ok (.d (.str (sc l))) z := by rw [h]; rfl
local macro_rules | `(tactic| walk_at "ln") => `(tactic| first | omega | (simp only [List.length_append, List.length_replicate, List.length_cons, List.length_nil]; omega))
theorem brk_len {A : Th} {l : Nat} {m : Int} {rs : List Int} (h : gS A m) (hl : l ≤ 5) (hs : size A ≤ 5000) : (cds (brk (rk A) l (ltx A m rs)).1).length ≤ 130000 := by
 have := (brk_ok hl (ltx_ok A m rs h)).l
 omega
theorem body_of {n : Nat} {A : Th} {m : Int} {t t1 t2 t' : List MO} {q : Nat} {g : Nat} {x : D} {rho' : List (Option S)} {R : Sm MX Out}
  (h1 : (sSet 3 (eBin dMulS (eC (.str " ")) (eBin dAdd (eC (.int 1)) (eIf (tOf (eBinO (dEq0 true) (eVar 2) (eLst aNil))) (eBin dFdiv (eBin dMod (ePopO (eVar 2)) (eC (.int 5))) (eC (.int 4))) (eC (.int 0))))) : Sm MX Out) ⟨[some (.d (enc A)), some (.d (.int m)), some (.d (.o q)), none, none, none, none], t⟩ = .ok .nx ⟨[some (.d (enc A)), some (.d (.int m)), some (.d (.o q)), some (.d (.str (sc (List.replicate g 32)))), none, none, none], t1⟩)
  (h2 : (sSet 4 (eCall (mir n ._law_rank) (aCons (escf (eVar 0)) aNil)) : Sm MX Out) ⟨[some (.d (enc A)), some (.d (.int m)), some (.d (.o q)), some (.d (.str (sc (List.replicate g 32)))), none, none, none], t1⟩ = .ok .nx (z7 A m q g (rk A) t2))
  (hR : m__law_text (mir n) = sSeq (sSet 3 (eBin dMulS (eC (.str " ")) (eBin dAdd (eC (.int 1)) (eIf (tOf (eBinO (dEq0 true) (eVar 2) (eLst aNil))) (eBin dFdiv (eBin dMod (ePopO (eVar 2)) (eC (.int 5))) (eC (.int 4))) (eC (.int 0)))))) (sSeq (sSet 4 (eCall (mir n ._law_rank) (aCons (escf (eVar 0)) aNil))) R))
  (h3 : R (z7 A m q g (rk A) t2) = .ok (.rt (.d x)) ⟨rho', t'⟩) : mir (n + 1) ._law_text [.d (enc A), .d (.int m), .d (.o q)] t = .ok (.d x) t' := by
 show fnM 7 (m__law_text (mir n)) [.d (enc A), .d (.int m), .d (.o q)] t = _
 rw [hR]
 exact fnM_d (M := MX) ((seq_nx h1).trans ((seq_nx h2).trans h3))
section
variable {n : Nat} {m : Int}
theorem lt_bound (A : Th) {wd f : Str} {b : Th} {cw : List Nat} (hA : enc A = .tup [.str wd, .str f, enc b]) (hk : rk A = 0) (hw : wd = sc cw) (hwl : cw.length ≤ 4) (h : gS A m) (hf : Nm (cdn f)) (h0 : 0 ≤ m) (h1 : m < 40) (hb : gS b (m + 1)) (hs : size b ≤ 5000)
  (hx : ∀ rs, cds (ltx A m rs).1 = cw ++ (List.replicate (gp rs).1 32 ++ (88 :: dg m.toNat ++ (58 :: cdn f ++ (46 :: (List.replicate (gp rs).1 32 ++ cds (brk (rk b) 0 (ltx b (m + 1) (gp rs).2)).1)))))) (hx2 : ∀ rs, (ltx A m rs).2 = (brk (rk b) 0 (ltx b (m + 1) (gp rs).2)).2) (ih : LS (n + 1) b 0 (m + 1)) : LT (n + 2) A m := by
 intro t q rs hr
 obtain ⟨t1, t2, e1, e2, r2, m2⟩ := begin_ok n h hr
 obtain ⟨t3, e3, r3, m3⟩ := ih t2 q (gp rs).2 r2
 have hg := gp_1 rs
 have e : ((m.toNat : Nat) : Int) = m := Int.toNat_of_nonneg h0
 have hd := var_l m.toNat (by omega)
 have hfl := hf.l
 have hB := brk_len (l := 0) (rs := (gp rs).2) hb (by omega) hs
 refine ⟨t3, ?_, by rw [hx2]; exact r3, m2.trans m3⟩
 refine body_of (t' := t3) e1 e2 rfl (rho' := (z7 A m q (gp rs).1 (rk A) t3).rho) ?_
 rw [hx]
 have c0 := kq (A := A) (m := m) (q := q) (g := (gp rs).1) (k := rk A) (t := t2) (c := 0)
 rw [hk] at c0
 rw [hk]
 refine seq_rt ((if_T c0).trans (ret_d (z1 := z7 A m q (gp rs).1 0 t3) ?_))
 have v0 : ∀ (k : Int) (d : D) (t : List MO), dIx (enc A) (.int k) = some (.d d) → (eBin dIx (eVar 0) (eC (.int k)) : Sm MX S) (z7 A m q (gp rs).1 0 t) = .ok (.d d) (z7 A m q (gp rs).1 0 t) := fun k d t hd => ebin_ok rfl rfl hd
 have g3 : ∀ t, (eVar 3 : Sm MX S) (z7 A m q (gp rs).1 0 t) = .ok (.d (.str (sc (List.replicate (gp rs).1 32)))) (z7 A m q (gp rs).1 0 t) := fun t => rfl
 have fs : (eFn fStr (aCons (opd (eVar 1)) aNil) : Sm MX S) (z7 A m q (gp rs).1 0 t2) = .ok (.d (.str (sc (dg m.toNat)))) (z7 A m q (gp rs).1 0 t2) := by
  unfold z7
  walk_at "ex"
  rw [← e, fStr_k _ (by omega)]
  walk_at "ex"
  rw [e]
 have last : (eCall (mir (n + 1) ._law_side) (aCons (escf (eBin dIx (eVar 0) (eC (.int 2)))) (aCons (escf (eC (.int 0))) (aCons (escf (eBin dAdd (eVar 1) (eC (.int 1)))) (aCons (escf (eVar 2)) aNil)))) : Sm MX S) (z7 A m q (gp rs).1 0 t2) = .ok (.d (.str (sc (cds (brk (rk b) 0 (ltx b (m + 1) (gp rs).2)).1)))) (z7 A m q (gp rs).1 0 t3) := by
  refine call_d (ss := [.d (enc b), .d (.int ((0 : Nat) : Int)), .d (.int (m + 1)), .d (.o q)]) ?_ rfl e3
  have p := v0 2 (enc b) t2 (by rw [hA]; rfl)
  simp only [aCons, kA, escf, p, Rs.bind_ok, escS, aNil]
  rfl
 have L := sadd (sadd (sadd (sadd (sadd (sadd (sadd (sadd (v0 0 (.str (sc cw)) t2 (by rw [hA, hw]; rfl)) (g3 t2) (by omega) (by walk_at "ln")) (lit X_sc) (by walk_at "ln") (by walk_at "ln")) fs (by walk_at "ln") (by walk_at "ln")) (lit col_m.symm) (by walk_at "ln") (by walk_at "ln")) (v0 1 (.str (sc (cdn f))) t2 (by rw [hA, sc_cdn]; rfl)) (by walk_at "ln") (by walk_at "ln")) (lit dot_m.symm) (by walk_at "ln") (by walk_at "ln")) (g3 t2) (by walk_at "ln") (by walk_at "ln")) last (by walk_at "ln") (by walk_at "ln")
 refine L.trans ?_
 simp only [List.append_assoc, List.cons_append, List.nil_append]
theorem lt_not {a : Th} (h : gS (.imp a .no) m) (hs : size a ≤ 5000) (ih : LS (n + 1) a 4 m) : LT (n + 2) (.imp a .no) m := by
 intro t q rs hr
 obtain ⟨t1, t2, e1, e2, r2, m2⟩ := begin_ok n h hr
 obtain ⟨t3, e3, r3, m3⟩ := ih t2 q (gp rs).2 r2
 have hB := brk_len (l := 4) (rs := (gp rs).2) h.1 (by omega) hs
 rw [ltx, if_pos (show isNo Th.no = true from rfl)]
 refine ⟨t3, ?_, r3, m2.trans m3⟩
 refine body_of (t' := t3) e1 e2 rfl (rho' := (z7 (.imp a .no) m q (gp rs).1 4 t3).rho) ?_
 have c0 := kq (A := .imp a .no) (m := m) (q := q) (g := (gp rs).1) (k := 4) (t := t2) (c := 0)
 have c4 := kq (A := .imp a .no) (m := m) (q := q) (g := (gp rs).1) (k := 4) (t := t2) (c := 4)
 rw [show rk (.imp a .no) = 4 from rfl]
 have last : (eCall (mir (n + 1) ._law_side) (aCons (escf (eBin dIx (eVar 0) (eC (.int 1)))) (aCons (escf (eC (.int 4))) (aCons (escf (eVar 1)) (aCons (escf (eVar 2)) aNil)))) : Sm MX S) (z7 (.imp a .no) m q (gp rs).1 4 t2) = .ok (.d (.str (sc (cds (brk (rk a) 4 (ltx a m (gp rs).2)).1)))) (z7 (.imp a .no) m q (gp rs).1 4 t3) := by
  refine call_d (ss := [.d (enc a), .d (.int ((4 : Nat) : Int)), .d (.int m), .d (.o q)]) ?_ rfl e3
  have p : (eBin dIx (eVar 0) (eC (.int 1)) : Sm MX S) (z7 (.imp a .no) m q (gp rs).1 4 t2) = .ok (.d (enc a)) (z7 (.imp a .no) m q (gp rs).1 4 t2) := ebin_ok rfl rfl (by rw [enc]; rfl)
  simp only [aCons, kA, escf, p, Rs.bind_ok, escS, aNil]
  rfl
 have L := sadd (lit not_m.symm (z := z7 (.imp a .no) m q (gp rs).1 4 t2)) last (by walk_at "ln") (by omega)
 exact (seq_nx (if_F c0)).trans (seq_rt ((if_T c4).trans (ret_d L)))
theorem five {A : Th} {q g : Nat} {t : List MO} (c : Int) (hc : c ≠ 5) : (tOf (eBin dEq (eVar 4) (eC (.int c))) : Sm MX Bool) (z7 A m q g 5 t) = .ok false (z7 A m q g 5 t) := by
 rw [kq, decide_eq_false (by omega)]
theorem lt_no (h : gS .no m) : LT (n + 2) .no m := by
 intro t q rs hr
 obtain ⟨t1, t2, e1, e2, r2, m2⟩ := begin_ok n h hr
 rw [ltx]
 refine ⟨t2, ?_, r2, m2⟩
 refine body_of (t' := t2) e1 e2 rfl (rho' := (z7 .no m q (gp rs).1 5 t2).rho) ?_
 rw [show rk .no = 5 from rfl]
 have w := wq (A := .no) (m := m) (q := q) (g := (gp rs).1) (k := 5) (t := t2) (w := "no") (x := "no") (r := []) (by rw [enc]) (by decide +kernel) (by decide +kernel)
 rw [beq_self_eq_true] at w
 refine (seq_nx (if_F (five 0 (by omega)))).trans ((seq_nx (if_F (five 4 (by omega)))).trans (seq_rt ((if_T w).trans (ret_d ?_))))
 exact lit (by kernel_rfl)
theorem ne_w {A : Th} {q g k : Nat} {t : List MO} {w x : Str} {r : List D} (hA : enc A = .tup (.str w :: r)) (hw : PyData.strOk w = true) (hx : PyData.strOk x = true) (hn : (w == x) = false) : (tOf (eBin dEq (eBin dIx (eVar 0) (eC (.int 0))) (eC (.str x))) : Sm MX Bool) (z7 A m q g k t) = .ok false (z7 A m q g k t) := by
 rw [wq hA hw hx, hn]
theorem eq_w {A : Th} {q g k : Nat} {t : List MO} {w : Str} {r : List D} (hA : enc A = .tup (.str w :: r)) (hw : PyData.strOk w = true) : (tOf (eBin dEq (eBin dIx (eVar 0) (eC (.int 0))) (eC (.str w))) : Sm MX Bool) (z7 A m q g k t) = .ok true (z7 A m q g k t) := by
 rw [wq hA hw hw, beq_self_eq_true]
theorem lt_rel {f : Str} {as : List Th} (h : gS (.rel f as) m) (ih : ∀ t, mir (n + 1) ._law_called [.d (.str f), .d (.tup (encs as)), .d (.int m)] t = .ok (.d (.str (sc (cdn f ++ cds (pcA m as))))) t) : LT (n + 2) (.rel f as) m := by
 intro t q rs hr
 obtain ⟨t1, t2, e1, e2, r2, m2⟩ := begin_ok n h hr
 rw [ltx]
 refine ⟨t2, ?_, r2, m2⟩
 refine body_of (t' := t2) e1 e2 rfl (rho' := (z7 (.rel f as) m q (gp rs).1 5 t2).rho) ?_
 rw [show rk (.rel f as) = 5 from rfl]
 have hA : enc (.rel f as) = .tup (.str "rel" :: [.str f, .tup (encs as)]) := by rw [enc]
 refine (seq_nx (if_F (five 0 (by omega)))).trans ((seq_nx (if_F (five 4 (by omega)))).trans ((seq_nx (if_F (ne_w hA (by decide +kernel) (by decide +kernel) (by decide +kernel)))).trans (seq_rt ((if_T (eq_w hA (by decide +kernel))).trans (ret_d ?_)))))
 refine call_d (ss := [.d (.str f), .d (.tup (encs as)), .d (.int m)]) ?_ rfl (ih t2)
 have p : ∀ (k : Int) (d : D), dIx (enc (.rel f as)) (.int k) = some (.d d) → (eBin dIx (eVar 0) (eC (.int k)) : Sm MX S) (z7 (.rel f as) m q (gp rs).1 5 t2) = .ok (.d d) (z7 (.rel f as) m q (gp rs).1 5 t2) := fun k d hd => ebin_ok rfl rfl hd
 simp only [aCons, kA, escf, p 1 (.str f) (by rw [hA]; rfl), p 2 (.tup (encs as)) (by rw [hA]; rfl), Rs.bind_ok, escS, aNil]
 rfl
theorem lt_same {a b : Th} (h : gS (.same a b) m) (hs : size a ≤ 5000) (hs2 : size b ≤ 5000) (ia : ∀ t, mir (n + 1) ._law_term_text [.d (enc a), .d (.int m)] t = .ok (.d (.str (txT m a))) t) (ib : ∀ t, mir (n + 1) ._law_term_text [.d (enc b), .d (.int m)] t = .ok (.d (.str (txT m b))) t) : LT (n + 2) (.same a b) m := by
 intro t q rs hr
 obtain ⟨t1, t2, e1, e2, r2, m2⟩ := begin_ok n h hr
 have hg := gp_1 rs
 have la := len_T h.1
 have lb := len_T h.2
 rw [ltx]
 refine ⟨t2, ?_, r2, m2⟩
 refine body_of (t' := t2) e1 e2 rfl (rho' := (z7 (.same a b) m q (gp rs).1 5 t2).rho) ?_
 rw [show rk (.same a b) = 5 from rfl]
 have hA : enc (.same a b) = .tup (.str "same" :: [enc a, enc b]) := by rw [enc]
 refine (seq_nx (if_F (five 0 (by omega)))).trans ((seq_nx (if_F (five 4 (by omega)))).trans ((seq_nx (if_F (ne_w hA (by decide +kernel) (by decide +kernel) (by decide +kernel)))).trans ((seq_nx (if_F (ne_w hA (by decide +kernel) (by decide +kernel) (by decide +kernel)))).trans (seq_rt ((if_T (eq_w hA (by decide +kernel))).trans (ret_d ?_))))))
 have p : ∀ (k : Int) (d : D), dIx (enc (.same a b)) (.int k) = some (.d d) → (eBin dIx (eVar 0) (eC (.int k)) : Sm MX S) (z7 (.same a b) m q (gp rs).1 5 t2) = .ok (.d d) (z7 (.same a b) m q (gp rs).1 5 t2) := fun k d hd => ebin_ok rfl rfl hd
 have ca : (eCall (mir (n + 1) ._law_term_text) (aCons (escf (eBin dIx (eVar 0) (eC (.int 1)))) (aCons (escf (eVar 1)) aNil)) : Sm MX S) (z7 (.same a b) m q (gp rs).1 5 t2) = .ok (.d (.str (txT m a))) (z7 (.same a b) m q (gp rs).1 5 t2) := by
  refine call_d (ss := [.d (enc a), .d (.int m)]) ?_ rfl (ia t2)
  simp only [aCons, kA, escf, p 1 (enc a) (by rw [hA]; rfl), Rs.bind_ok, escS, aNil]
  rfl
 have cb : (eCall (mir (n + 1) ._law_term_text) (aCons (escf (eBin dIx (eVar 0) (eC (.int 2)))) (aCons (escf (eVar 1)) aNil)) : Sm MX S) (z7 (.same a b) m q (gp rs).1 5 t2) = .ok (.d (.str (txT m b))) (z7 (.same a b) m q (gp rs).1 5 t2) := by
  refine call_d (ss := [.d (enc b), .d (.int m)]) ?_ rfl (ib t2)
  simp only [aCons, kA, escf, p 2 (enc b) (by rw [hA]; rfl), Rs.bind_ok, escS, aNil]
  rfl
 have g3 : (eVar 3 : Sm MX S) (z7 (.same a b) m q (gp rs).1 5 t2) = .ok (.d (.str (sc (List.replicate (gp rs).1 32)))) (z7 (.same a b) m q (gp rs).1 5 t2) := rfl
 have L := sadd (sadd (sadd (sadd ca g3 (by omega) (by walk_at "ln")) (lit eq_m.symm) (by walk_at "ln") (by walk_at "ln")) g3 (by walk_at "ln") (by walk_at "ln")) cb (by walk_at "ln") (by omega)
 refine L.trans ?_
 rw [cds_app, cds_bl, cds_mk, cds_bl]
 simp only [List.append_assoc, List.cons_append, List.nil_append]
 rfl
theorem lt_bin (A : Th) {wd mt : Str} {a b : Th} {k l1 l2 : Nat} {mk : List Nat} (hA : enc A = .tup (.str wd :: [enc a, enc b])) (hr : rk A = k) (hk : k ≠ 0 ∧ k ≠ 4) (hw : PyData.strOk wd = true) (w1 : (wd == "no") = false) (w2 : (wd == "rel") = false) (w3 : (wd == "same") = false) (hm : valD R3 (.inr wd) = some (.str mt)) (hmk : mt = sc mk) (hml : mk.length ≤ 4)
  (hl1 : (k : Int) + (if decide ((k : Int) = 1) = true then 1 else 0) = (l1 : Nat)) (hl2 : (k : Int) + (if decide ((1 : Int) < k) = true then 1 else 0) = (l2 : Nat)) (q1 : l1 ≤ 5) (q2 : l2 ≤ 5) (h : gS A m) (ha : gS a m) (hb : gS b m) (hs : size a ≤ 5000) (hs2 : size b ≤ 5000)
  (hx : ∀ rs, cds (ltx A m rs).1 = cds (brk (rk a) l1 (ltx a m (gp rs).2)).1 ++ (List.replicate (gp rs).1 32 ++ (mk ++ (List.replicate (gp rs).1 32 ++ cds (brk (rk b) l2 (ltx b m (brk (rk a) l1 (ltx a m (gp rs).2)).2)).1)))) (hx2 : ∀ rs, (ltx A m rs).2 = (brk (rk b) l2 (ltx b m (brk (rk a) l1 (ltx a m (gp rs).2)).2)).2)
  (ia : LS (n + 1) a l1 m) (ib : LS (n + 1) b l2 m) : LT (n + 2) A m := by
 intro t q rs hrs
 obtain ⟨t1, t2, e1, e2, r2, m2⟩ := begin_ok n h hrs
 obtain ⟨t3, e3, r3, m3⟩ := ia t2 q (gp rs).2 r2
 obtain ⟨t5, e5, r5, m5⟩ := ib (t3 ++ [MO.dK R3]) q _ r3.app
 have hg := gp_1 rs
 have hB := brk_len (l := l1) (rs := (gp rs).2) ha q1 hs
 have hC := brk_len (l := l2) (rs := (brk (rk a) l1 (ltx a m (gp rs).2)).2) hb q2 hs2
 refine ⟨t5, ?_, by rw [hx2]; exact r5, m2.trans (m3.trans (Mv.app.trans m5))⟩
 generalize hBB : cds (brk (rk a) l1 (ltx a m (gp rs).2)).1 = B at e3 hB
 generalize hCC : cds (brk (rk b) l2 (ltx b m (brk (rk a) l1 (ltx a m (gp rs).2)).2)).1 = C at e5 hC
 let rho : List (Option S) := [some (.d (enc A)), some (.d (.int m)), some (.d (.o q)), some (.d (.str (sc (List.replicate (gp rs).1 32)))), some (.d (.int (k : Nat))), some (.d (.str (sc B))), some (.d (.str (sc mk)))]
 refine body_of (t' := t5) e1 e2 rfl (rho' := rho) ?_
 rw [hx, hr, hBB, hCC]
 have p : ∀ (k' : Int) (d : D) (x y : Option S) (t : List MO), dIx (enc A) (.int k') = some (.d d) → (eBin dIx (eVar 0) (eC (.int k')) : Sm MX S) ⟨[some (.d (enc A)), some (.d (.int m)), some (.d (.o q)), some (.d (.str (sc (List.replicate (gp rs).1 32)))), some (.d (.int (k : Nat))), x, y], t⟩ = .ok (.d d) ⟨[some (.d (enc A)), some (.d (.int m)), some (.d (.o q)), some (.d (.str (sc (List.replicate (gp rs).1 32)))), some (.d (.int (k : Nat))), x, y], t⟩ := fun k' d x y t hd => ebin_ok rfl rfl hd
 have c0 : (tOf (eBin dEq (eVar 4) (eC (.int 0))) : Sm MX Bool) (z7 A m q (gp rs).1 k t2) = .ok false (z7 A m q (gp rs).1 k t2) := by rw [kq, decide_eq_false (by omega)]
 have c4 : (tOf (eBin dEq (eVar 4) (eC (.int 4))) : Sm MX Bool) (z7 A m q (gp rs).1 k t2) = .ok false (z7 A m q (gp rs).1 k t2) := by rw [kq, decide_eq_false (by omega)]
 have a1 : (eBin dAdd (eVar 4) (eFn fInt (aCons (opd (eBin dEq (eVar 4) (eC (.int 1)))) aNil)) : Sm MX S) (z7 A m q (gp rs).1 k t2) = .ok (.d (.int (l1 : Nat))) (z7 A m q (gp rs).1 k t2) := by
  rw [← hl1]
  unfold z7
  walk_at "ex"
 have a2 : (eBin dAdd (eVar 4) (eFn fInt (aCons (opd (eBin dGt (eVar 4) (eC (.int 1)))) aNil)) : Sm MX S) ⟨rho, t3 ++ [MO.dK R3]⟩ = .ok (.d (.int (l2 : Nat))) ⟨rho, t3 ++ [MO.dK R3]⟩ := by
  rw [← hl2]
  show (eBin dAdd (eVar 4) (eFn fInt (aCons (opd (eBin dGt (eVar 4) (eC (.int 1)))) aNil)) : Sm MX S) ⟨[some (.d (enc A)), some (.d (.int m)), some (.d (.o q)), some (.d (.str (sc (List.replicate (gp rs).1 32)))), some (.d (.int (k : Nat))), some (.d (.str (sc B))), some (.d (.str (sc mk)))], t3 ++ [MO.dK R3]⟩ = _
  walk_at "ex"
  rfl
 have s5 : (sSet 5 (eCall (mir (n + 1) ._law_side) (aCons (escf (eBin dIx (eVar 0) (eC (.int 1)))) (aCons (escf (eBin dAdd (eVar 4) (eFn fInt (aCons (opd (eBin dEq (eVar 4) (eC (.int 1)))) aNil)))) (aCons (escf (eVar 1)) (aCons (escf (eVar 2)) aNil))))) : Sm MX Out) (z7 A m q (gp rs).1 k t2) = .ok .nx ⟨[some (.d (enc A)), some (.d (.int m)), some (.d (.o q)), some (.d (.str (sc (List.replicate (gp rs).1 32)))), some (.d (.int (k : Nat))), some (.d (.str (sc B))), none], t3⟩ := by
  refine set_d (z1 := z7 A m q (gp rs).1 k t3) (call_d (ss := [.d (enc a), .d (.int (l1 : Nat)), .d (.int m), .d (.o q)]) ?_ rfl e3)
  have p1 : (eBin dIx (eVar 0) (eC (.int 1)) : Sm MX S) (z7 A m q (gp rs).1 k t2) = .ok (.d (enc a)) (z7 A m q (gp rs).1 k t2) := p 1 (enc a) none none t2 (by rw [hA]; rfl)
  simp only [aCons, kA, escf, p1, a1, Rs.bind_ok, escS, aNil]
  rfl
 have s6 : (sSet 6 (eDIx (eDisp [("if", "->"), ("or", "|"), ("and", "&")]) (eBin dIx (eVar 0) (eC (.int 0)))) : Sm MX Out) ⟨[some (.d (enc A)), some (.d (.int m)), some (.d (.o q)), some (.d (.str (sc (List.replicate (gp rs).1 32)))), some (.d (.int (k : Nat))), some (.d (.str (sc B))), none], t3⟩ = .ok .nx ⟨rho, t3 ++ [MO.dK R3]⟩ := by
  have := set_d (i := 6) (get3 (rho := [some (.d (enc A)), some (.d (.int m)), some (.d (.o q)), some (.d (.str (sc (List.replicate (gp rs).1 32)))), some (.d (.int (k : Nat))), some (.d (.str (sc B))), none]) (t := t3) hm (p 0 (.str wd) _ _ _ (by rw [hA]; rfl)))
  rw [hmk] at this
  exact this
 have last : (eCall (mir (n + 1) ._law_side) (aCons (escf (eBin dIx (eVar 0) (eC (.int 2)))) (aCons (escf (eBin dAdd (eVar 4) (eFn fInt (aCons (opd (eBin dGt (eVar 4) (eC (.int 1)))) aNil)))) (aCons (escf (eVar 1)) (aCons (escf (eVar 2)) aNil)))) : Sm MX S) ⟨rho, t3 ++ [MO.dK R3]⟩ = .ok (.d (.str (sc C))) ⟨rho, t5⟩ := by
  refine call_d (ss := [.d (enc b), .d (.int (l2 : Nat)), .d (.int m), .d (.o q)]) ?_ rfl e5
  have p2 : (eBin dIx (eVar 0) (eC (.int 2)) : Sm MX S) ⟨rho, t3 ++ [MO.dK R3]⟩ = .ok (.d (enc b)) ⟨rho, t3 ++ [MO.dK R3]⟩ := p 2 (enc b) _ _ _ (by rw [hA]; rfl)
  simp only [aCons, kA, escf, p2, a2, Rs.bind_ok, escS, aNil]
  rfl
 have g3 : (eVar 3 : Sm MX S) ⟨rho, t3 ++ [MO.dK R3]⟩ = .ok (.d (.str (sc (List.replicate (gp rs).1 32)))) ⟨rho, t3 ++ [MO.dK R3]⟩ := rfl
 have g5 : (eVar 5 : Sm MX S) ⟨rho, t3 ++ [MO.dK R3]⟩ = .ok (.d (.str (sc B))) ⟨rho, t3 ++ [MO.dK R3]⟩ := rfl
 have g6 : (eVar 6 : Sm MX S) ⟨rho, t3 ++ [MO.dK R3]⟩ = .ok (.d (.str (sc mk))) ⟨rho, t3 ++ [MO.dK R3]⟩ := rfl
 have L := sadd (sadd (sadd (sadd g5 g3 (by omega) (by walk_at "ln")) g6 (by walk_at "ln") (by omega)) g3 (by walk_at "ln") (by walk_at "ln")) last (by walk_at "ln") (by omega)
 have fin := ret_d L
 rw [show B ++ List.replicate (gp rs).1 32 ++ mk ++ List.replicate (gp rs).1 32 ++ C = B ++ (List.replicate (gp rs).1 32 ++ (mk ++ (List.replicate (gp rs).1 32 ++ C))) from by simp only [List.append_assoc]] at fin
 exact (seq_nx (if_F c0)).trans ((seq_nx (if_F c4)).trans ((seq_nx (if_F (ne_w hA hw (by decide +kernel) w1))).trans ((seq_nx (if_F (ne_w hA hw (by decide +kernel) w2))).trans ((seq_nx (if_F (ne_w hA hw (by decide +kernel) w3))).trans ((seq_nx s5).trans ((seq_nx s6).trans fin))))))
end
theorem lt_ok : ∀ (k : Nat) (A : Th) (m : Int), depth A ≤ k → gS A m → size A ≤ 5000 → ∀ n, LT (n + 2 * k + 4) A m
 | 0, A, m, hk, _, _, _ => by rw [depth_kids] at hk; omega
 | k + 1, .all s b, m, hk, h, hs, n => by
  rw [depth] at hk
  rw [size] at hs
  have ih := side_ok (n + 2 * k + 3) (l := 0) h.2.2.2 (by omega) (lt_ok k b (m + 1) (by omega) h.2.2.2 (by omega) n)
  exact lt_bound (.all s b) (n := n + 2 * k + 4) (cw := cAll) (wd := "all") (f := s) (b := b) (by rw [enc]) rfl (by kernel_rfl) (by decide) h h.1 h.2.1 h.2.2.1 h.2.2.2 (by omega) (fun rs => by rw [ltx, pX, pN, cds_run, cds_bl, cds_run, cds_mk, cds_run, cds_mk, cds_bl]; rfl) (fun rs => by rw [ltx]) ih
 | k + 1, .some s b, m, hk, h, hs, n => by
  rw [depth] at hk
  rw [size] at hs
  have ih := side_ok (n + 2 * k + 3) (l := 0) h.2.2.2 (by omega) (lt_ok k b (m + 1) (by omega) h.2.2.2 (by omega) n)
  exact lt_bound (.some s b) (n := n + 2 * k + 4) (cw := cSome) (wd := "some") (f := s) (b := b) (by rw [enc]) rfl (by kernel_rfl) (by decide) h h.1 h.2.1 h.2.2.1 h.2.2.2 (by omega) (fun rs => by rw [ltx, pX, pN, cds_run, cds_bl, cds_run, cds_mk, cds_run, cds_mk, cds_bl]; rfl) (fun rs => by rw [ltx]) ih
 | k + 1, .no, m, hk, h, hs, n => lt_no (n := n + 2 * k + 4) h
 | k + 1, .rel f as, m, hk, h, hs, n => by
  rw [depth] at hk
  rw [size] at hs
  refine lt_rel (n := n + 2 * k + 4) h (fun t => ?_)
  exact _law_called_ok h.1 h.2 (by omega) (fun x hx => by
   have := _law_term_text_ok m t k x (by have := depth_mem hx; omega) (gTs_mem h.2 x hx) (by have := mem_size hx; omega) (n + 4)
   rw [show n + 4 + 2 * k = n + 2 * k + 4 by omega] at this
   exact this)
 | k + 1, .same a b, m, hk, h, hs, n => by
  rw [depth] at hk
  rw [size] at hs
  refine lt_same (n := n + 2 * k + 4) h (by omega) (by omega) (fun t => ?_) (fun t => ?_)
  ·have := _law_term_text_ok m t k a (by omega) h.1 (by omega) (n + 5)
   rw [show n + 5 + 2 * k = n + 2 * k + 4 + 1 by omega] at this
   exact this
  ·have := _law_term_text_ok m t k b (by omega) h.2 (by omega) (n + 5)
   rw [show n + 5 + 2 * k = n + 2 * k + 4 + 1 by omega] at this
   exact this
 | k + 1, .and a b, m, hk, h, hs, n => by
  rw [depth] at hk
  rw [size] at hs
  have ia := side_ok (n + 2 * k + 3) (l := 3) h.1 (by omega) (lt_ok k a m (by omega) h.1 (by omega) n)
  have ib := side_ok (n + 2 * k + 3) (l := 4) h.2 (by omega) (lt_ok k b m (by omega) h.2 (by omega) n)
  exact lt_bin (.and a b) (n := n + 2 * k + 4) (k := 3) (l1 := 3) (l2 := 4) (wd := "and") (mt := "&") (mk := [38]) (by rw [enc]) rfl ⟨by omega, by omega⟩ (by decide +kernel) (by decide +kernel) (by decide +kernel) (by decide +kernel) (by kernel_rfl) (by kernel_rfl) (by decide) (by decide) (by decide) (by omega) (by omega) h h.1 h.2 (by omega) (by omega) (fun rs => by rw [ltx, cds_app, cds_bl, cds_mk, cds_bl]; rfl) (fun rs => by rw [ltx]) ia ib
 | k + 1, .or a b, m, hk, h, hs, n => by
  rw [depth] at hk
  rw [size] at hs
  have ia := side_ok (n + 2 * k + 3) (l := 2) h.1 (by omega) (lt_ok k a m (by omega) h.1 (by omega) n)
  have ib := side_ok (n + 2 * k + 3) (l := 3) h.2 (by omega) (lt_ok k b m (by omega) h.2 (by omega) n)
  exact lt_bin (.or a b) (n := n + 2 * k + 4) (k := 2) (l1 := 2) (l2 := 3) (wd := "or") (mt := "|") (mk := [124]) (by rw [enc]) rfl ⟨by omega, by omega⟩ (by decide +kernel) (by decide +kernel) (by decide +kernel) (by decide +kernel) (by kernel_rfl) (by kernel_rfl) (by decide) (by decide) (by decide) (by omega) (by omega) h h.1 h.2 (by omega) (by omega) (fun rs => by rw [ltx, cds_app, cds_bl, cds_mk, cds_bl]; rfl) (fun rs => by rw [ltx]) ia ib
 | k + 1, .imp a b, m, hk, h, hs, n => by
  rw [depth] at hk
  rw [size] at hs
  cases c : isNo b with
  | true =>
   have e := isNo_eq c
   subst e
   have ia := side_ok (n + 2 * k + 3) (l := 4) h.1 (by omega) (lt_ok k a m (by omega) h.1 (by omega) n)
   exact lt_not (n := n + 2 * k + 4) h (by omega) ia
  | false =>
   have ia := side_ok (n + 2 * k + 3) (l := 2) h.1 (by omega) (lt_ok k a m (by omega) h.1 (by omega) n)
   have ib := side_ok (n + 2 * k + 3) (l := 1) h.2 (by omega) (lt_ok k b m (by omega) h.2 (by omega) n)
   have hc : ¬ isNo b = true := by rw [c]; decide
   exact lt_bin (.imp a b) (n := n + 2 * k + 4) (k := 1) (l1 := 2) (l2 := 1) (wd := "if") (mt := "->") (mk := [45, 62]) (by rw [enc]) (if_neg hc) ⟨by omega, by omega⟩ (by decide +kernel) (by decide +kernel) (by decide +kernel) (by decide +kernel) (by kernel_rfl) (by kernel_rfl) (by decide) (by decide) (by decide) (by omega) (by omega) h h.1 h.2 (by omega) (by omega) (fun rs => by rw [ltx, if_neg hc, cds_app, cds_bl, cds_arrow, cds_bl]; rfl) (fun rs => by rw [ltx, if_neg hc]) ia ib
 | k + 1, .var _, _, _, h, _, _ => h.elim
 | k + 1, .call _ _, _, _, h, _, _ => h.elim
noncomputable def Sp (t : List MO) (k : Int) : Prop := t[0]? = some (.lst [.int k])
theorem mulA (i j : Int) (h : -(18446744073709551616 : Int) < i ∧ i < 18446744073709551616) : dMul (.int i) (.int j) = some (.d (.int (i * j))) := by
 unfold dMul dI
 exact if_pos (decide_eq_true (.inl h))
theorem mulB (i j : Int) (h : -(18446744073709551616 : Int) < j ∧ j < 18446744073709551616) : dMul (.int i) (.int j) = some (.d (.int (i * j))) := by
 unfold dMul dI
 exact if_pos (decide_eq_true (.inr h))
theorem divA (i j : Int) (h : 0 < j ∧ j < 1073741824) : dFdiv (.int i) (.int j) = some (.d (.int (i / j))) := by
 unfold dFdiv dI
 exact if_pos (decide_eq_true h)
theorem modA (i j : Int) (h : 0 < j) : dMod (.int i) (.int j) = some (.d (.int (i % j))) := by
 unfold dMod dI
 exact if_pos (decide_eq_true h)
theorem ixS (ns : List Int) (i : Int) (h : 0 ≤ i) (h2 : i < (ns.length : Nat)) : ∃ a : Int, dIx (.scr ns) (.int i) = some (.d (.int a)) := by
 obtain ⟨k, rfl⟩ : ∃ k : Nat, i = (k : Int) := ⟨i.toNat, by omega⟩
 have hk : k < ns.length := by omega
 refine ⟨ns[k], ?_⟩
 show (atI ns (k : Int)).map (fun n => R.d (.int n)) = _
 rw [atI_n (v := ns[k]) (List.getElem?_eq_getElem hk)]
 rfl
section
variable {ns : List Int} {k : Int} {t : List MO}
noncomputable def zc (ns : List Int) (k : Int) (b : Int) (x y : Option S) (t : List MO) : Z (List MO) := ⟨[some (.d (.scr ns)), some (.d (.o 0)), some (.d (.int k)), some (.d (.int b)), x, y], t⟩
theorem len_z {b : Int} {x y : Option S} : (eFn fLen (aCons (opd (eVar 0)) aNil) : Sm MX S) (zc ns k b x y t) = .ok (.d (.int (ns.length : Nat))) (zc ns k b x y t) := rfl
theorem efn1 {g : List D → Option R} {f : Sm MX S} {z z1 : Z (List MO)} {a r : D} (hf : f z = .ok (.d a) z1) (h : g [a] = some (.d r)) : eFn g (aCons (opd f) aNil) z = .ok (.d r) z1 := by
 unfold eFn aCons kA opd aNil
 rw [hf]
 simp only [Rs.bind_ok, rds, rd, Option.bind_some, h, fin, R.toS]
theorem qk {b : Int} {x y : Option S} (hL : 0 < ns.length) (hL2 : ns.length < 1000) : (eBin dFdiv (eVar 2) (eFn fLen (aCons (opd (eVar 0)) aNil)) : Sm MX S) (zc ns k b x y t) = .ok (.d (.int (k / (ns.length : Nat)))) (zc ns k b x y t) := ebin_ok rfl len_z (divA _ _ (by omega))
theorem mk_ {b : Int} {x y : Option S} (hL : 0 < ns.length) : ∃ a : Int, ∀ t b x y, (eBin dIx (eVar 0) (eBin dMod (eVar 2) (eFn fLen (aCons (opd (eVar 0)) aNil))) : Sm MX S) (zc ns k b x y t) = .ok (.d (.int a)) (zc ns k b x y t) := by
 obtain ⟨a, ea⟩ := ixS ns (k % (ns.length : Nat)) (Int.emod_nonneg _ (by omega)) (Int.emod_lt_of_pos _ (by omega))
 exact ⟨a, fun t b x y => ebin_ok rfl (ebin_ok rfl len_z (modA _ _ (by omega))) ea⟩
theorem t_gt {f g : Sm MX S} {z z1 z2 : Z (List MO)} {i j : Int} (hf : f z = .ok (.d (.int i)) z1) (hg : g z1 = .ok (.d (.int j)) z2) : (tOf (eBin dGt f g) : Sm MX Bool) z = .ok (decide (j < i)) z2 := by
 unfold tOf; rw [ebin_ok hf hg rfl]; rfl
theorem t_ge {f g : Sm MX S} {z z1 z2 : Z (List MO)} {i j : Int} (hf : f z = .ok (.d (.int i)) z1) (hg : g z1 = .ok (.d (.int j)) z2) : (tOf (eBin dGe f g) : Sm MX Bool) z = .ok (decide (j ≤ i)) z2 := by
 unfold tOf; rw [ebin_ok hf hg rfl]; rfl
theorem t_lt {f g : Sm MX S} {z z1 z2 : Z (List MO)} {i j : Int} (hf : f z = .ok (.d (.int i)) z1) (hg : g z1 = .ok (.d (.int j)) z2) : (tOf (eBin dLt f g) : Sm MX Bool) z = .ok (decide (i < j)) z2 := by
 unfold tOf; rw [ebin_ok hf hg rfl]; rfl
theorem t_eq {f g : Sm MX S} {z z1 z2 : Z (List MO)} {i j : Int} (hf : f z = .ok (.d (.int i)) z1) (hg : g z1 = .ok (.d (.int j)) z2) : (tOf (eBin dEq f g) : Sm MX Bool) z = .ok (decide (i = j)) z2 := by
 unfold tOf; rw [ebin_ok hf hg (dEq_i _ _)]; rfl
theorem t_and {f g : Sm MX Bool} {z z1 : Z (List MO)} {b c : Bool} (hf : f z = .ok b z) (hg : g z = .ok c z) : tAndM f g z = .ok (b && c) z := by
 unfold tAndM; rw [hf]; cases b
 ·rfl
 ·exact hg
theorem t_or {f g : Sm MX Bool} {z z1 : Z (List MO)} {b c : Bool} (hf : f z = .ok b z) (hg : g z = .ok c z) : tOrM f g z = .ok (b || c) z := by
 unfold tOrM; rw [hf]; cases b
 ·exact hg
 ·rfl
theorem acons1 {f : Sm MX S} {z z1 : Z (List MO)} {a : D} (hf : f z = .ok (.d a) z1) : aCons (opd f) aNil z = .ok [.d a] z1 := by
 unfold aCons kA opd aNil
 rw [hf]
 rfl
theorem ow_loop (s0 s1 s2 s3 : Option S) (m : List MO) : ∀ (ds : List D) (o : Int) (s5 : Option S), ∃ (o' : Int) (s5' : Option S), forL (M := MX) (kName 5) (sSet 4 (eBin dFdiv (eVar 4) (eC (.int 306783379)))) ds ⟨[s0, s1, s2, s3, some (.d (.int o)), s5], m⟩ = .ok .nx ⟨[s0, s1, s2, s3, some (.d (.int o')), s5'], m⟩
 | [], o, s5 => ⟨o, s5, rfl⟩
 | d :: r, o, s5 => by
  obtain ⟨o', s5', e⟩ := ow_loop s0 s1 s2 s3 m r (o / 306783379) (some (.d d))
  refine ⟨o', s5', ?_⟩
  rw [← e]
  conv => lhs; unfold forL
  walk_at "ex"
  rw [divA _ _ (by omega)]
  walk_at "ex"
theorem cell_body {b : Int} (hL2 : ns.length < 1000) (h0 : 0 ≤ k) (h1 : k < 1000000000000) (hq : k / (ns.length : Nat) ≤ 1000000 ∨ True) : ∃ (r : Int) (rho' : List (Option S)), (sSeq (sIf (tAndM (tOf (eBin dGt (eFn fLen (aCons (opd (eVar 0)) aNil)) (eC (.int 0)))) (tAndM (tOf (eBin dGe (eBin dIx (eVar 0) (eBin dMod (eVar 2) (eFn fLen (aCons (opd (eVar 0)) aNil)))) (eBin dPow (eC (.int 10)) (eC (.int 18))))) (tOf (eBin dLt (eBin dFdiv (eVar 2) (eFn fLen (aCons (opd (eVar 0)) aNil))) (eC (.int 60)))))) (sSeq (sSet 4 (eBin dIx (eVar 0) (eBin dMod (eVar 2) (eFn fLen (aCons (opd (eVar 0)) aNil)))))
  (sSeq (sFor (iRg1M (aCons (opd (eBin dFdiv (eVar 2) (eFn fLen (aCons (opd (eVar 0)) aNil)))) aNil)) (kName 5) (sSet 4 (eBin dFdiv (eVar 4) (eC (.int 306783379)))))
  (sIf (tOf (eBin dGt (eVar 4) (eC (.int 0)))) (sRet (eBin dMod (eVar 4) (eC (.int 306783379)))) sNil))) sNil)
  (sSeq (sIf (tOf (eBin dGt (eFn fLen (aCons (opd (eVar 0)) aNil)) (eC (.int 0)))) (sSet 3 (eBin dAdd (eVar 3) (eBin dMul (eBin dIx (eVar 0) (eBin dMod (eVar 2) (eFn fLen (aCons (opd (eVar 0)) aNil)))) (eBin dAdd (eC (.int 1)) (eBin dFdiv (eVar 2) (eFn fLen (aCons (opd (eVar 0)) aNil))))))) sNil)
  (sRet (eBin dFdiv (eBin dMod (eBin dMul (eVar 3) (eC (.int 48271))) (eC (.int 2147483647))) (eC (.int 7)))))  : Sm MX Out) (zc ns k b none none t) = .ok (.rt (.d (.int r))) ⟨rho', t⟩ ∧ 0 ≤ r ∧ r < 2147483648 := by
 have tail : ∀ (b : Int) (x y : Option S), ∃ (r : Int) (rho' : List (Option S)), (sSeq (sIf (tOf (eBin dGt (eFn fLen (aCons (opd (eVar 0)) aNil)) (eC (.int 0)))) (sSet 3 (eBin dAdd (eVar 3) (eBin dMul (eBin dIx (eVar 0) (eBin dMod (eVar 2) (eFn fLen (aCons (opd (eVar 0)) aNil)))) (eBin dAdd (eC (.int 1)) (eBin dFdiv (eVar 2) (eFn fLen (aCons (opd (eVar 0)) aNil))))))) sNil)
  (sRet (eBin dFdiv (eBin dMod (eBin dMul (eVar 3) (eC (.int 48271))) (eC (.int 2147483647))) (eC (.int 7))))  : Sm MX Out) (zc ns k b x y t) = .ok (.rt (.d (.int r))) ⟨rho', t⟩ ∧ 0 ≤ r ∧ r < 2147483648 := fun b x y => by
  have fin : ∀ b, (sRet (eBin dFdiv (eBin dMod (eBin dMul (eVar 3) (eC (.int 48271))) (eC (.int 2147483647))) (eC (.int 7))) : Sm MX Out) (zc ns k b x y t) = .ok (.rt (.d (.int (b * 48271 % 2147483647 / 7)))) (zc ns k b x y t) := fun b => ret_d (ebin_ok (ebin_ok (ebin_ok rfl rfl (mulB _ _ (by omega))) rfl (modA _ _ (by omega))) rfl (divA _ _ (by omega)))
  have bd : ∀ b : Int, 0 ≤ b * 48271 % 2147483647 / 7 ∧ b * 48271 % 2147483647 / 7 < 2147483648 := fun b => by omega
  have c := t_gt (len_z (ns := ns) (k := k) (b := b) (x := x) (y := y) (t := t)) (rfl : (eC (.int 0) : Sm MX S) _ = .ok (.d (.int 0)) _)
  by_cases hL : 0 < ns.length
  ·rw [decide_eq_true (by omega)] at c
   obtain ⟨a, ea⟩ := mk_ (ns := ns) (k := k) (b := 0) (x := none) (y := none) hL
   have hq : k / (ns.length : Nat) ≤ k := Int.ediv_le_self _ h0
   have hq0 : 0 ≤ k / (ns.length : Nat) := Int.ediv_nonneg h0 (by omega)
   have s1 : (sSet 3 (eBin dAdd (eVar 3) (eBin dMul (eBin dIx (eVar 0) (eBin dMod (eVar 2) (eFn fLen (aCons (opd (eVar 0)) aNil)))) (eBin dAdd (eC (.int 1)) (eBin dFdiv (eVar 2) (eFn fLen (aCons (opd (eVar 0)) aNil)))))) : Sm MX Out) (zc ns k b x y t) = .ok .nx (zc ns k (b + a * (1 + k / (ns.length : Nat))) x y t) :=
    set_d (ebin_ok rfl (ebin_ok (ea t b x y) (ebin_ok rfl (qk hL hL2) rfl) (mulB _ _ (by omega))) rfl)
   exact ⟨_, _, (seq_nx ((if_T c).trans s1)).trans (fin _), bd _⟩
  ·rw [decide_eq_false (by omega)] at c
   exact ⟨_, _, (seq_nx (if_F c)).trans (fin _), bd _⟩
 have c1 := t_gt (len_z (ns := ns) (k := k) (b := b) (x := none) (y := none) (t := t)) (rfl : (eC (.int 0) : Sm MX S) _ = .ok (.d (.int 0)) _)
 by_cases hL : 0 < ns.length
 ·rw [decide_eq_true (by omega)] at c1
  obtain ⟨a, ea⟩ := mk_ (ns := ns) (k := k) (b := 0) (x := none) (y := none) hL
  have c2 := t_ge (ea t b none none) (ebin_ok (a := .int 10) (b := .int 18) (g := dPow) rfl rfl (by kernel_rfl) : (eBin dPow (eC (.int 10)) (eC (.int 18)) : Sm MX S) _ = .ok (.d (.int 1000000000000000000)) (zc ns k b none none t))
  have c3 := t_lt (qk (k := k) (b := b) (x := none) (y := none) (t := t) hL hL2) (rfl : (eC (.int 60) : Sm MX S) _ = .ok (.d (.int 60)) _)
  have cc := t_and (z1 := zc ns k b none none t) c1 (t_and (z1 := zc ns k b none none t) c2 c3)
  by_cases hb : (true && (decide ((1000000000000000000 : Int) ≤ a) && decide (k / (ns.length : Nat) < 60))) = true
  ·rw [hb] at cc
   have hq0 : 0 ≤ k / (ns.length : Nat) := Int.ediv_nonneg h0 (by omega)
   have hq6 : k / (ns.length : Nat) < 60 := by
    rw [Bool.true_and, Bool.and_eq_true] at hb
    exact of_decide_eq_true hb.2
   have s4 : (sSet 4 (eBin dIx (eVar 0) (eBin dMod (eVar 2) (eFn fLen (aCons (opd (eVar 0)) aNil)))) : Sm MX Out) (zc ns k b none none t) = .ok .nx (zc ns k b (some (.d (.int a))) none t) := set_d (ea t b none none)
   obtain ⟨o', y', eo⟩ := ow_loop (some (.d (.scr ns))) (some (.d (.o 0))) (some (.d (.int k))) (some (.d (.int b))) t (rangeD 0 (k / (ns.length : Nat)).toNat) a none
   have it : (iRg1M (aCons (opd (eBin dFdiv (eVar 2) (eFn fLen (aCons (opd (eVar 0)) aNil)))) aNil) : Sm MX (List D)) (zc ns k b (some (.d (.int a))) none t) = .ok (rangeD 0 (k / (ns.length : Nat)).toNat) (zc ns k b (some (.d (.int a))) none t) := by
    unfold iRg1M
    rw [acons1 (qk hL hL2), Rs.bind_ok]
    show (if -(2 ^ 62) ≤ (k / (ns.length : Nat)) ∧ (k / (ns.length : Nat)) < 2 ^ 62 then Rs.ok (rangeD 0 (k / (ns.length : Nat)).toNat) _ else .bad) = _
    rw [if_pos (by omega)]
   have s5 : (sFor (iRg1M (aCons (opd (eBin dFdiv (eVar 2) (eFn fLen (aCons (opd (eVar 0)) aNil)))) aNil)) (kName 5) (sSet 4 (eBin dFdiv (eVar 4) (eC (.int 306783379)))) : Sm MX Out) (zc ns k b (some (.d (.int a))) none t) = .ok .nx (zc ns k b (some (.d (.int o'))) y' t) := by
    unfold sFor
    rw [it, Rs.bind_ok]
    exact eo
   have c4 := t_gt (rfl : (eVar 4 : Sm MX S) (zc ns k b (some (.d (.int o'))) y' t) = .ok (.d (.int o')) (zc ns k b (some (.d (.int o'))) y' t)) (rfl : (eC (.int 0) : Sm MX S) _ = .ok (.d (.int 0)) _)
   by_cases ho : 0 < o'
   ·rw [decide_eq_true ho] at c4
    have s6 : (sRet (eBin dMod (eVar 4) (eC (.int 306783379))) : Sm MX Out) (zc ns k b (some (.d (.int o'))) y' t) = .ok (.rt (.d (.int (o' % 306783379)))) (zc ns k b (some (.d (.int o'))) y' t) := ret_d (ebin_ok rfl rfl (modA _ _ (by omega)))
    exact ⟨_, _, seq_rt ((if_T cc).trans ((seq_nx s4).trans ((seq_nx s5).trans ((if_T c4).trans s6)))), by omega, by omega⟩
   ·rw [decide_eq_false ho] at c4
    obtain ⟨r, rho', e, hr⟩ := tail b (some (.d (.int o'))) y'
    exact ⟨r, rho', (seq_nx ((if_T cc).trans ((seq_nx s4).trans ((seq_nx s5).trans (if_F c4))))).trans e, hr⟩
  ·rw [Bool.eq_false_iff.mpr hb] at cc
   obtain ⟨r, rho', e, hr⟩ := tail b none none
   exact ⟨r, rho', (seq_nx (if_F cc)).trans e, hr⟩
 ·rw [decide_eq_false (by omega)] at c1
  have cc : (tAndM (tOf (eBin dGt (eFn fLen (aCons (opd (eVar 0)) aNil)) (eC (.int 0)))) (tAndM (tOf (eBin dGe (eBin dIx (eVar 0) (eBin dMod (eVar 2) (eFn fLen (aCons (opd (eVar 0)) aNil)))) (eBin dPow (eC (.int 10)) (eC (.int 18))))) (tOf (eBin dLt (eBin dFdiv (eVar 2) (eFn fLen (aCons (opd (eVar 0)) aNil))) (eC (.int 60))))) : Sm MX Bool) (zc ns k b none none t) = .ok false (zc ns k b none none t) := by
   unfold tAndM; rw [c1]; rfl
  obtain ⟨r, rho', e, hr⟩ := tail b none none
  exact ⟨r, rho', (seq_nx (if_F cc)).trans e, hr⟩
theorem cell_ok (n : Nat) (hL2 : ns.length < 1000) (h0 : 0 ≤ k) (h1 : k < 100000000000) (hs : Sp t k) : ∃ (r : Int) (t' : List MO), mir (n + 1) ._law_cell [.d (.scr ns), .d (.o 0)] t = .ok (.d (.int r)) t' ∧ Sp t' (k + 1) ∧ Mv 0 t t' ∧ 0 ≤ r ∧ r < 2147483648 := by
 have la : ∀ rho, listAt ⟨rho, t⟩ (.d (.o 0)) = some (0, [.int k]) := fun rho => by
  unfold listAt rd
  unfold Sp at hs
  simp only [hs]
 have ix : ∀ (t : List MO) (k : Int) (rho : List (Option S)), rho[1]? = some (some (.d (.o 0))) → Sp t k → (eIxO (eVar 1) (eC (.int 0)) : Sm MX S) ⟨rho, t⟩ = .ok (.d (.int k)) ⟨rho, t⟩ := fun t k rho hrho hs => by
  have la : listAt ⟨rho, t⟩ (.d (.o 0)) = some (0, [.int k]) := by
   unfold listAt rd
   unfold Sp at hs
   simp only [hs]
  unfold eIxO opd eVar eC
  simp only [hrho, Rs.bind_ok, la, rd, atI0]
 have s1 : (sLPutM (eBin dAdd (eIxO (eVar 1) (eC (.int 0))) (eC (.int 1))) (eVar 1) (eC (.int 0)) : Sm MX Out) ⟨[some (.d (.scr ns)), some (.d (.o 0)), none, none, none, none], t⟩ = .ok .nx ⟨[some (.d (.scr ns)), some (.d (.o 0)), none, none, none, none], t.set 0 (.lst [.int (k + 1)])⟩ := by
  have e : escf (M := MX) (eBin dAdd (eIxO (eVar 1) (eC (.int 0))) (eC (.int 1))) ⟨[some (.d (.scr ns)), some (.d (.o 0)), none, none, none, none], t⟩ = .ok (.d (.int (k + 1))) ⟨[some (.d (.scr ns)), some (.d (.o 0)), none, none, none, none], t⟩ := by
   have e0 : (eBin dAdd (eIxO (eVar 1) (eC (.int 0))) (eC (.int 1)) : Sm MX S) ⟨[some (.d (.scr ns)), some (.d (.o 0)), none, none, none, none], t⟩ = .ok (.d (.int (k + 1))) ⟨[some (.d (.scr ns)), some (.d (.o 0)), none, none, none, none], t⟩ := ebin_ok (ix t k _ rfl hs) rfl (dAdd_i k 1)
   unfold escf
   rw [e0]
   rfl
  unfold sLPutM
  rw [e]
  simp only [Rs.bind_ok, opd, eVar, eC, List.getElem?_cons_zero, List.getElem?_cons_succ, la, rd]
  rfl
 have hs' : Sp (t.set 0 (.lst [.int (k + 1)])) (k + 1) := getset_eq hs
 have s2 : (sSet 2 (eIxO (eVar 1) (eC (.int 0))) : Sm MX Out) ⟨[some (.d (.scr ns)), some (.d (.o 0)), none, none, none, none], t.set 0 (.lst [.int (k + 1)])⟩ = .ok .nx ⟨[some (.d (.scr ns)), some (.d (.o 0)), some (.d (.int (k + 1))), none, none, none], t.set 0 (.lst [.int (k + 1)])⟩ := set_d (ix _ _ _ rfl hs')
 have v2 : (eVar 2 : Sm MX S) ⟨[some (.d (.scr ns)), some (.d (.o 0)), some (.d (.int (k + 1))), none, none, none], t.set 0 (.lst [.int (k + 1)])⟩ = .ok (.d (.int (k + 1))) ⟨[some (.d (.scr ns)), some (.d (.o 0)), some (.d (.int (k + 1))), none, none, none], t.set 0 (.lst [.int (k + 1)])⟩ := rfl
 have e31 : ∀ (i : Int) (z : Z (List MO)), (eC (.int i) : Sm MX S) z = .ok (.d (.int i)) z := fun _ _ => rfl
 have ee := ebin_ok (ebin_ok (ebin_ok (e31 31 _) v2 (mulA 31 (k + 1) (by omega))) v2 (mulB (31 * (k + 1)) (k + 1) (by omega))) (ebin_ok (e31 7919 _) v2 (mulA 7919 (k + 1) (by omega))) (dAdd_i _ _)
 have s3 : (sSet 3 (eBin dAdd (eBin dMul (eBin dMul (eC (.int 31)) (eVar 2)) (eVar 2)) (eBin dMul (eC (.int 7919)) (eVar 2))) : Sm MX Out) ⟨[some (.d (.scr ns)), some (.d (.o 0)), some (.d (.int (k + 1))), none, none, none], t.set 0 (.lst [.int (k + 1)])⟩ = .ok .nx (zc ns (k + 1) (31 * (k + 1) * (k + 1) + 7919 * (k + 1)) none none (t.set 0 (.lst [.int (k + 1)]))) := set_d ee
 obtain ⟨r, rho', e, h2, h3⟩ := cell_body (ns := ns) (k := k + 1) (t := t.set 0 (.lst [.int (k + 1)])) (b := 31 * (k + 1) * (k + 1) + 7919 * (k + 1)) hL2 (by omega) (by omega) (.inr trivial)
 refine ⟨r, _, ?_, hs', Mv.set, h2, h3⟩
 show fnM 6 (m__law_cell (mir n)) [.d (.scr ns), .d (.o 0)] t = _
 exact fnM_d (M := MX) ((seq_nx s1).trans ((seq_nx s2).trans ((seq_nx s3).trans e)))
end
mutual
noncomputable def gd : D → Bool
 | .str x => PyData.strOk x
 | .tup xs => gds xs
 | .lst xs => gds xs
 | .scr _ => false
 | .exc _ _ => false
 | .o _ => false
 | _ => true
noncomputable def gds : List D → Bool
 | [] => true
 | x :: r => gd x && gds r
end
theorem gd_tup {xs : List D} (h : gd (.tup xs) = true) : gds xs = true := by rwa [gd] at h
mutual
theorem gd_enc : ∀ t : Th, nms t = true → gd (enc t) = true
 | .var v, _ => by rw [enc, gd, gds, gds, gds, gd, sk_var]; rfl
 | .call f as, h => by rw [nms, Bool.and_eq_true] at h; rw [enc, gd, gds, gds, gds, gds, gd, gd, gd, h.1, gds_encs as h.2, sk_call]; rfl
 | .rel f as, h => by rw [nms, Bool.and_eq_true] at h; rw [enc, gd, gds, gds, gds, gds, gd, gd, gd, h.1, gds_encs as h.2, sk_rel]; rfl
 | .same a b, h => by rw [nms, Bool.and_eq_true] at h; rw [enc, gd, gds, gds, gds, gds, gd, gd_enc a h.1, gd_enc b h.2, sk_same]; rfl
 | .no, _ => by rw [enc, gd, gds, gds, gd, sk_no]; rfl
 | .and a b, h => by rw [nms, Bool.and_eq_true] at h; rw [enc, gd, gds, gds, gds, gds, gd, gd_enc a h.1, gd_enc b h.2, sk_and]; rfl
 | .or a b, h => by rw [nms, Bool.and_eq_true] at h; rw [enc, gd, gds, gds, gds, gds, gd, gd_enc a h.1, gd_enc b h.2, sk_or]; rfl
 | .imp a b, h => by rw [nms, Bool.and_eq_true] at h; rw [enc, gd, gds, gds, gds, gds, gd, gd_enc a h.1, gd_enc b h.2, sk_if]; rfl
 | .all s a, h => by rw [nms, Bool.and_eq_true] at h; rw [enc, gd, gds, gds, gds, gds, gd, gd, gd_enc a h.2, h.1, sk_all]; rfl
 | .some s a, h => by rw [nms, Bool.and_eq_true] at h; rw [enc, gd, gds, gds, gds, gds, gd, gd, gd_enc a h.2, h.1, sk_some]; rfl
theorem gds_encs : ∀ ts : List Th, nmss ts = true → gds (encs ts) = true
 | [], _ => by rw [encs, gds]
 | t :: r, h => by rw [nmss, Bool.and_eq_true] at h; rw [encs, gds, gd_enc t h.1, gds_encs r h.2]; rfl
end
noncomputable def okN (f : Str) : Bool := PyData.strOk f && decide (f.length ≤ 10)
theorem okN_of {f : Str} (h : PyData.strOk f = true) (hl : f.length ≤ 10) : okN f = true := by
 unfold okN
 rw [h, decide_eq_true hl]
 rfl
theorem okN_ok {f : Str} (h : okN f = true) : PyData.strOk f = true ∧ f.length ≤ 10 := by
 unfold okN at h
 rw [Bool.and_eq_true] at h
 exact ⟨h.1, of_decide_eq_true h.2⟩
mutual
noncomputable def sm (B : Nat) : Th → Bool
 | .var v => decide (v.natAbs ≤ B)
 | .call f as => okN f && sms B as
 | .rel f as => okN f && sms B as
 | .same a b => sm B a && sm B b
 | .no => true
 | .and a b => sm B a && sm B b
 | .or a b => sm B a && sm B b
 | .imp a b => sm B a && sm B b
 | .all s a => okN s && sm B a
 | .some s a => okN s && sm B a
noncomputable def sms (B : Nat) : List Th → Bool
 | [] => true
 | t :: r => sm B t && sms B r
end
mutual
theorem sm_nms {B : Nat} : ∀ t : Th, sm B t = true → nms t = true
 | .var _, _ => by rw [nms]
 | .call f as, h => by rw [sm, Bool.and_eq_true] at h; rw [nms, (okN_ok h.1).1, sms_nms as h.2]; rfl
 | .rel f as, h => by rw [sm, Bool.and_eq_true] at h; rw [nms, (okN_ok h.1).1, sms_nms as h.2]; rfl
 | .same a b, h => by rw [sm, Bool.and_eq_true] at h; rw [nms, sm_nms a h.1, sm_nms b h.2]; rfl
 | .no, _ => by rw [nms]
 | .and a b, h => by rw [sm, Bool.and_eq_true] at h; rw [nms, sm_nms a h.1, sm_nms b h.2]; rfl
 | .or a b, h => by rw [sm, Bool.and_eq_true] at h; rw [nms, sm_nms a h.1, sm_nms b h.2]; rfl
 | .imp a b, h => by rw [sm, Bool.and_eq_true] at h; rw [nms, sm_nms a h.1, sm_nms b h.2]; rfl
 | .all s a, h => by rw [sm, Bool.and_eq_true] at h; rw [nms, (okN_ok h.1).1, sm_nms a h.2]; rfl
 | .some s a, h => by rw [sm, Bool.and_eq_true] at h; rw [nms, (okN_ok h.1).1, sm_nms a h.2]; rfl
theorem sms_nms {B : Nat} : ∀ ts : List Th, sms B ts = true → nmss ts = true
 | [], _ => by rw [nmss]
 | t :: r, h => by rw [sms, Bool.and_eq_true] at h; rw [nmss, sm_nms t h.1, sms_nms r h.2]; rfl
end
noncomputable abbrev BV : Nat := 1000
mutual
noncomputable def sE : D → Nat
 | .int _ => 41
 | .str x => x.cps.size
 | .tup xs => sEs xs
 | .lst xs => sEs xs
 | _ => 0
noncomputable def sEs : List D → Nat
 | [] => 0
 | x :: r => sE x + 1 + sEs r
end
mutual
noncomputable def dE : D → Nat
 | .tup xs => dEs xs + 1
 | .lst xs => dEs xs + 1
 | .emp => 1
 | _ => 0
noncomputable def dEs : List D → Nat
 | [] => 0
 | x :: r => max (dE x) (dEs r)
end
mutual
theorem depE : ∀ d : D, gd d = true → (toPyE d).depth ≤ dE d
 | .non, _ => by simp [toPyE, PyData.depth]
 | .bl _, _ => by simp [toPyE, PyData.depth]
 | .int _, _ => by simp [toPyE, PyData.depth]
 | .str _, _ => by simp [toPyE, PyData.depth]
 | .tup xs, h => by have := depEs xs (gd_tup h); rw [toPyE, PyData.depth, dE]; omega
 | .lst xs, h => by have := depEs xs (by rwa [gd] at h); rw [toPyE, PyData.depth, dE]; omega
 | .emp, _ => by rw [toPyE, PyData.depth, PyData.depthKv, dE]; omega
 | .scr _, h => by rw [gd] at h; cases h
 | .exc _ _, h => by rw [gd] at h; cases h
 | .o _, h => by rw [gd] at h; cases h
theorem depEs : ∀ ds : List D, gds ds = true → PyData.depthAll (toPyEs ds) ≤ dEs ds
 | [], _ => by rw [toPyEs, PyData.depthAll]; exact Nat.zero_le _
 | d :: r, h => by
  rw [gds, Bool.and_eq_true] at h
  have a := depE d h.1
  have b := depEs r h.2
  rw [toPyEs, PyData.depthAll, dEs]
  omega
end
mutual
theorem wtE : ∀ d : D, gd d = true → ib d = true → (toPyE d).weight ≤ sE d
 | .non, _, _ => by simp [toPyE, PyData.weight]
 | .bl _, _, _ => by simp [toPyE, PyData.weight]
 | .int i, _, h => by
  rw [ib] at h
  have h := of_decide_eq_true h
  rw [toPyE, PyData.weight, sE]
  split
  ·omega
  ·rename_i e
   have e0 : i.natAbs ≠ 0 := fun q => e (by have : i = 0 := (by omega); subst this; rfl)
   have : i.natAbs.log2 < 40 := (Nat.log2_lt e0).mpr (by show i.natAbs < 1099511627776; omega)
   omega
 | .str x, _, _ => by rw [toPyE, PyData.weight, sE]; exact Nat.le_refl _
 | .tup xs, h, q => by rw [toPyE, PyData.weight, sE]; exact wtEs xs (gd_tup h) (by rwa [ib] at q)
 | .lst xs, h, q => by rw [toPyE, PyData.weight, sE]; exact wtEs xs (by rwa [gd] at h) (by rwa [ib] at q)
 | .emp, _, _ => by rw [toPyE, PyData.weight, PyData.weightKv]; exact Nat.zero_le _
 | .scr _, h, _ => by rw [gd] at h; cases h
 | .exc _ _, h, _ => by rw [gd] at h; cases h
 | .o _, h, _ => by rw [gd] at h; cases h
theorem wtEs : ∀ ds : List D, gds ds = true → ibs ds = true → PyData.weightAll (toPyEs ds) ≤ sEs ds
 | [], _, _ => by rw [toPyEs, PyData.weightAll]; exact Nat.zero_le _
 | d :: r, h, q => by
  rw [gds, Bool.and_eq_true] at h
  rw [ibs, Bool.and_eq_true] at q
  have a := wtE d h.1 q.1
  have b := wtEs r h.2 q.2
  rw [toPyEs, PyData.weightAll, sEs]
  omega
end
theorem layE_int (i : Int) : layE (.int i) = true := by simp [layE]
theorem layE_str (x : Str) : layE (.str x) = true := by simp [layE]
theorem layE_emp : layE .emp = true := by simp [layE]
mutual
theorem lsE : ∀ d : D, gd d = true → ib d = true → (toPyE d).leavesShort 13 = true ∧ (toPyE d).showable = true ∧ layE d = true
 | .non, _, _ => by simp [toPyE, PyData.leavesShort, PyData.showable, layE]
 | .bl _, _, _ => by simp [toPyE, PyData.leavesShort, PyData.showable, layE]
 | .int i, _, h => by
  rw [ib] at h
  obtain ⟨a, b⟩ := int_ib (of_decide_eq_true h)
  rw [toPyE, PyData.leavesShort, PyData.showable, layE_int]
  exact ⟨decide_eq_true b, decide_eq_true a, rfl⟩
 | .str x, h, _ => by
  rw [gd] at h
  refine ⟨?_, by rw [toPyE, PyData.showable], layE_str x⟩
  rw [toPyE, PyData.leavesShort, List.all_eq_true]
  intro c hc
  have := okS_of h c hc
  exact decide_eq_true (by show c < 4294967296; omega)
 | .tup xs, h, q => by rw [toPyE, PyData.leavesShort, PyData.showable, layE]; exact lsEs xs (gd_tup h) (by rwa [ib] at q)
 | .lst xs, h, q => by rw [toPyE, PyData.leavesShort, PyData.showable, layE]; exact lsEs xs (by rwa [gd] at h) (by rwa [ib] at q)
 | .emp, _, _ => by rw [toPyE, PyData.leavesShort, PyData.leavesShortKv, PyData.showable, PyData.showableKv, layE_emp]; exact ⟨rfl, rfl, rfl⟩
 | .scr _, h, _ => by rw [gd] at h; cases h
 | .exc _ _, h, _ => by rw [gd] at h; cases h
 | .o _, h, _ => by rw [gd] at h; cases h
theorem lsEs : ∀ ds : List D, gds ds = true → ibs ds = true → PyData.leavesShortAll 13 (toPyEs ds) = true ∧ PyData.showableAll (toPyEs ds) = true ∧ layEs ds = true
 | [], _, _ => by rw [toPyEs, PyData.leavesShortAll, PyData.showableAll, layEs]; exact ⟨rfl, rfl, rfl⟩
 | d :: r, h, q => by
  rw [gds, Bool.and_eq_true] at h
  rw [ibs, Bool.and_eq_true] at q
  obtain ⟨a1, a2, a3⟩ := lsE d h.1 q.1
  obtain ⟨b1, b2, b3⟩ := lsEs r h.2 q.2
  rw [toPyEs, PyData.leavesShortAll, PyData.showableAll, layEs, a1, a2, a3, b1, b2, b3]
  exact ⟨rfl, rfl, rfl⟩
end
mutual
theorem okE : ∀ d : D, gd d = true → okS (shwE d)
 | .non, _ => by show okS (toPyE .non).shown; rw [toPyE, PyData.shown]; exact okS_litN _
 | .bl b, _ => by show okS (toPyE (.bl b)).shown; rw [toPyE, PyData.shown]; cases b <;> exact okS_litN _
 | .int i, _ => by show okS (toPyE (.int i)).shown; rw [toPyE, PyData.shown]; exact okS_litN _
 | .str x, h => by show okS (toPyE (.str x)).shown; rw [toPyE, PyData.shown]; exact reprText_ok (okS_of (by rwa [gd] at h))
 | .tup xs, h => by show okS (toPyE (.tup xs)).shown; rw [toPyE, PyData.shown]; exact okS_tupN _ (okEs xs (gd_tup h))
 | .lst xs, h => by show okS (toPyE (.lst xs)).shown; rw [toPyE, PyData.shown]; exact okS_lstN _ (okEs xs (by rwa [gd] at h))
 | .emp, _ => by
  show okS (toPyE .emp).shown
  rw [toPyE, PyData.shown, PyData.shownKv]
  exact okS_of (by decide +kernel)
 | .scr _, h => by rw [gd] at h; cases h
 | .exc _ _, h => by rw [gd] at h; cases h
 | .o _, h => by rw [gd] at h; cases h
theorem okEs : ∀ ds : List D, gds ds = true → ∀ t ∈ PyData.shownAll (toPyEs ds), okS t
 | [], _ => by rw [toPyEs, PyData.shownAll]; intro t ht; cases ht
 | d :: r, h => by
  rw [gds, Bool.and_eq_true] at h
  rw [toPyEs, PyData.shownAll]
  intro t ht
  rcases List.mem_cons.mp ht with rfl | ht
  ·exact okE d h.1
  ·exact okEs r h.2 t ht
end
theorem okE_t {d : D} (h : gd d = true) : PyData.strOk (shwE d) = true := okS_toN (okE d h)
theorem showOkE_of {d : D} (h1 : gd d = true) (h2 : ib d = true) (h3 : dE d ≤ 290) (h4 : sE d ≤ 900000) : showOkE d = true := by
 obtain ⟨a, b, c⟩ := lsE d h1 h2
 have ln := PyData.shown_le 13 (by decide) (toPyE d) a
 have w := wtE d h1 h2
 have dd := depE d h1
 have hl : (shwE d).length ≤ 15000000 := by
  show (toPyE d).shown.length ≤ 15000000
  omega
 unfold showOkE
 rw [c, b, decide_eq_true (show (toPyE d).depth ≤ 290 by omega), decide_eq_true hl]
 rfl
theorem ib_var {v : Int} (h : v.natAbs ≤ 1000) : ib (.int v) = true := by
 rw [ib, decide_eq_true_eq]; omega
theorem ww (x : Str) (h : x.cps.size ≤ 10) : sE (.str x) ≤ 10 := by rw [sE]; exact h
mutual
theorem ibS_enc : ∀ t : Th, sm BV t = true → ib (enc t) = true ∧ sE (enc t) + 1 ≤ 61 * size t ∧ dE (enc t) ≤ 2 * depth t
 | .var v, h => by
  rw [sm, decide_eq_true_eq] at h
  have w1 := ww "var" (by decide +kernel)
  refine ⟨?_, ?_, ?_⟩
  ·rw [enc, ib, ibs, ibs, ibs, ib_var h]; rfl
  ·rw [enc, sE, sEs, sEs, sEs, size]; have : sE (.int v) = 41 := by rw [sE]
   omega
  ·rw [enc, dE, dEs, dEs, dEs, dE, dE, depth]; decide
   all_goals (intros; contradiction)
 | .call f as, h => by
  rw [sm, Bool.and_eq_true] at h
  obtain ⟨i1, i2, i3⟩ := ibS_encs as h.2
  have w1 := ww "call" (by decide +kernel)
  have w2 := ww f (okN_ok h.1).2
  refine ⟨?_, ?_, ?_⟩
  ·rw [enc, ib, ibs, ibs, ibs, ibs, ib, ib, ib, i1]; rfl
   all_goals (intros; contradiction)
  ·rw [enc, sE, sEs, sEs, sEs, sEs, size]; have : sE (.tup (encs as)) = sEs (encs as) := by rw [sE]
   omega
  ·rw [enc, dE, dEs, dEs, dEs, dEs, dE, dE, dE, depth]; omega
   all_goals (intros; contradiction)
 | .rel f as, h => by
  rw [sm, Bool.and_eq_true] at h
  obtain ⟨i1, i2, i3⟩ := ibS_encs as h.2
  have w1 := ww "rel" (by decide +kernel)
  have w2 := ww f (okN_ok h.1).2
  refine ⟨?_, ?_, ?_⟩
  ·rw [enc, ib, ibs, ibs, ibs, ibs, ib, ib, ib, i1]; rfl
   all_goals (intros; contradiction)
  ·rw [enc, sE, sEs, sEs, sEs, sEs, size]; have : sE (.tup (encs as)) = sEs (encs as) := by rw [sE]
   omega
  ·rw [enc, dE, dEs, dEs, dEs, dEs, dE, dE, dE, depth]; omega
   all_goals (intros; contradiction)
 | .same a b, h => by
  rw [sm, Bool.and_eq_true] at h
  obtain ⟨i1, i2, i3⟩ := ibS_enc a h.1
  obtain ⟨j1, j2, j3⟩ := ibS_enc b h.2
  have w1 := ww "same" (by decide +kernel)
  refine ⟨?_, ?_, ?_⟩
  ·rw [enc, ib, ibs, ibs, ibs, ibs, ib, i1, j1]; rfl
   all_goals (intros; contradiction)
  ·rw [enc, sE, sEs, sEs, sEs, sEs, size]; omega
  ·rw [enc, dE, dEs, dEs, dEs, dEs, dE, depth]; omega
   all_goals (intros; contradiction)
 | .and a b, h => by
  rw [sm, Bool.and_eq_true] at h
  obtain ⟨i1, i2, i3⟩ := ibS_enc a h.1
  obtain ⟨j1, j2, j3⟩ := ibS_enc b h.2
  have w1 := ww "and" (by decide +kernel)
  refine ⟨?_, ?_, ?_⟩
  ·rw [enc, ib, ibs, ibs, ibs, ibs, ib, i1, j1]; rfl
   all_goals (intros; contradiction)
  ·rw [enc, sE, sEs, sEs, sEs, sEs, size]; omega
  ·rw [enc, dE, dEs, dEs, dEs, dEs, dE, depth]; omega
   all_goals (intros; contradiction)
 | .or a b, h => by
  rw [sm, Bool.and_eq_true] at h
  obtain ⟨i1, i2, i3⟩ := ibS_enc a h.1
  obtain ⟨j1, j2, j3⟩ := ibS_enc b h.2
  have w1 := ww "or" (by decide +kernel)
  refine ⟨?_, ?_, ?_⟩
  ·rw [enc, ib, ibs, ibs, ibs, ibs, ib, i1, j1]; rfl
   all_goals (intros; contradiction)
  ·rw [enc, sE, sEs, sEs, sEs, sEs, size]; omega
  ·rw [enc, dE, dEs, dEs, dEs, dEs, dE, depth]; omega
   all_goals (intros; contradiction)
 | .imp a b, h => by
  rw [sm, Bool.and_eq_true] at h
  obtain ⟨i1, i2, i3⟩ := ibS_enc a h.1
  obtain ⟨j1, j2, j3⟩ := ibS_enc b h.2
  have w1 := ww "if" (by decide +kernel)
  refine ⟨?_, ?_, ?_⟩
  ·rw [enc, ib, ibs, ibs, ibs, ibs, ib, i1, j1]; rfl
   all_goals (intros; contradiction)
  ·rw [enc, sE, sEs, sEs, sEs, sEs, size]; omega
  ·rw [enc, dE, dEs, dEs, dEs, dEs, dE, depth]; omega
   all_goals (intros; contradiction)
 | .no, h => by
  have w1 := ww "no" (by decide +kernel)
  refine ⟨?_, ?_, ?_⟩
  ·rw [enc]; rfl
  ·rw [enc, sE, sEs, sEs, size]; omega
  ·rw [enc, dE, dEs, dEs, dE, depth]; decide
   all_goals (intros; contradiction)
 | .all s a, h => by
  rw [sm, Bool.and_eq_true] at h
  obtain ⟨i1, i2, i3⟩ := ibS_enc a h.2
  have w1 := ww "all" (by decide +kernel)
  have w2 := ww s (okN_ok h.1).2
  refine ⟨?_, ?_, ?_⟩
  ·rw [enc, ib, ibs, ibs, ibs, ibs, ib, ib, i1]; rfl
   all_goals (intros; contradiction)
  ·rw [enc, sE, sEs, sEs, sEs, sEs, size]; omega
  ·rw [enc, dE, dEs, dEs, dEs, dEs, dE, dE, depth]; omega
   all_goals (intros; contradiction)
 | .some s a, h => by
  rw [sm, Bool.and_eq_true] at h
  obtain ⟨i1, i2, i3⟩ := ibS_enc a h.2
  have w1 := ww "some" (by decide +kernel)
  have w2 := ww s (okN_ok h.1).2
  refine ⟨?_, ?_, ?_⟩
  ·rw [enc, ib, ibs, ibs, ibs, ibs, ib, ib, i1]; rfl
   all_goals (intros; contradiction)
  ·rw [enc, sE, sEs, sEs, sEs, sEs, size]; omega
  ·rw [enc, dE, dEs, dEs, dEs, dEs, dE, dE, depth]; omega
   all_goals (intros; contradiction)
theorem ibS_encs : ∀ ts : List Th, sms BV ts = true → ibs (encs ts) = true ∧ sEs (encs ts) ≤ 61 * sizes ts ∧ dEs (encs ts) ≤ 2 * depths ts
 | [], _ => by
  refine ⟨?_, ?_, ?_⟩
  ·rw [encs]; rfl
  ·rw [encs, sEs]; omega
  ·rw [encs, dEs]; omega
 | t :: r, h => by
  rw [sms, Bool.and_eq_true] at h
  obtain ⟨i1, i2, i3⟩ := ibS_enc t h.1
  obtain ⟨j1, j2, j3⟩ := ibS_encs r h.2
  refine ⟨?_, ?_, ?_⟩
  ·rw [encs, ibs, i1, j1]; rfl
  ·rw [encs, sEs, sizes]; omega
  ·rw [encs, dEs, depths]; omega
end
theorem nm_okN {f : Str} (h : Nm (cdn f)) : okN f = true := okN_of (nm_ok h) (by
 have := h.l
 show f.cps.size ≤ 10
 rwa [Array.length_toList] at this)
mutual
theorem gT_sm {m : Int} : ∀ {T : Th}, gT m T → sm BV T = true
 | .var k, h => by rw [gT] at h; rw [sm, decide_eq_true_eq]; show k.natAbs ≤ 1000; omega
 | .call f as, h => by rw [gT] at h; rw [sm, nm_okN h.1, gTs_sm h.2]; rfl
 | .rel _ _, h => h.elim
 | .same _ _, h => h.elim
 | .no, h => h.elim
 | .and _ _, h => h.elim
 | .or _ _, h => h.elim
 | .imp _ _, h => h.elim
 | .all _ _, h => h.elim
 | .some _ _, h => h.elim
theorem gTs_sm {m : Int} : ∀ {ts : List Th}, gTs m ts → sms BV ts = true
 | [], _ => by rw [sms]
 | x :: r, h => by rw [gTs] at h; rw [sms, gT_sm h.1, gTs_sm h.2]; rfl
end
theorem gS_sm : ∀ {A : Th} {m : Int}, gS A m → sm BV A = true
 | .all s b, m, h => by rw [sm, nm_okN h.1, gS_sm h.2.2.2]; rfl
 | .some s b, m, h => by rw [sm, nm_okN h.1, gS_sm h.2.2.2]; rfl
 | .no, _, _ => by rw [sm]
 | .rel f as, m, h => by rw [sm, nm_okN h.1, gTs_sm h.2]; rfl
 | .same a b, m, h => by rw [sm, gT_sm h.1, gT_sm h.2]; rfl
 | .and a b, m, h => by rw [sm, gS_sm h.1, gS_sm h.2]; rfl
 | .or a b, m, h => by rw [sm, gS_sm h.1, gS_sm h.2]; rfl
 | .imp a b, m, h => by rw [sm, gS_sm h.1, gS_sm h.2]; rfl
 | .var _, _, h => h.elim
 | .call _ _, _, h => h.elim
theorem enc_tup (A : Th) : ∃ xs, enc A = .tup xs := by
 cases A <;> exact ⟨_, by rw [enc]⟩
theorem rep_ok {A : Th} (h : sm BV A = true) (hs : size A ≤ 400) (hd : depth A ≤ 40) : fReprE [enc A] = some (.d (.str (shwE (enc A)))) ∧ PyData.strOk (shwE (enc A)) = true := by
 obtain ⟨i1, i2, i3⟩ := ibS_enc A h
 have g := gd_enc A (sm_nms A h)
 have s := showOkE_of g i1 (by omega) (by omega)
 refine ⟨?_, okE_t g⟩
 obtain ⟨xs, e⟩ := enc_tup A
 rw [e] at s ⊢
 exact if_pos s
theorem tks_le : ∀ {ps : List Pc}, Good ps → (tks ps).length ≤ (cds ps).length ∧ ps.length ≤ (cds ps).length
 | [], _ => ⟨Nat.le_refl _, Nat.le_refl _⟩
 | .run cs t :: r, h => by
  obtain ⟨a, b⟩ := tks_le h.2.2
  have := List.length_pos_iff.mpr h.1.ne
  refine ⟨?_, ?_⟩
  ·show ([t] ++ tks r).length ≤ (cs ++ cds r).length
   simp only [List.length_append, List.length_singleton]
   omega
  ·show (Pc.run cs t :: r).length ≤ (cs ++ cds r).length
   simp only [List.length_append, List.length_cons]
   omega
 | .mk c :: r, h => by
  obtain ⟨a, b⟩ := tks_le h.2
  exact ⟨Nat.succ_le_succ a, Nat.succ_le_succ b⟩
 | .arrow :: r, h => by
  obtain ⟨a, b⟩ := tks_le (ps := r) h
  exact ⟨Nat.le_succ_of_le (Nat.succ_le_succ a), Nat.le_succ_of_le (Nat.succ_le_succ b)⟩
 | .sp :: r, h => by
  obtain ⟨a, b⟩ := tks_le (ps := r) h
  exact ⟨Nat.le_succ_of_le a, Nat.succ_le_succ b⟩
theorem read_ps (n : Nat) {ps : List Pc} {wd : Str} {m : Int} {A : Th} {t : List MO} {i c e : Nat} (hg : Good ps) (hl : (cds ps).length ≤ 20000) (hR : Rch c e m (tks ps) i [.tup [.str wd]] [] A) (hs : size A ≤ 400) (hd : depth A ≤ 40) : ∃ t', mir (n + 11) .small_one [.d (.str (sc (cds ps))), .d (.int m), .d (.str wd)] t = .ok (.d (enc A)) t' ∧ Fr t.length t t' := by
 obtain ⟨a, b⟩ := tks_le hg
 have l8 := lim8
 exact small_ok n (ws := wds 0 ps) (ts := tks ps) (by rw [sc_len]; exact hl) (words_ok (n + 4) hg (by omega) (by omega)) ⟨by show (wds 0 ps).length ≤ 100000; rw [wds_len]; omega, wds_f ps 0 hg⟩ (at_wds ps 0 0 [] rfl) (wds_len ps 0) (by omega) hR hs hd
theorem read_statement_ok (n : Nat) {A : Th} {m : Int} {rs : List Int} {t : List MO} (h : gS A m) (hs : size A ≤ 400) (hd : depth A ≤ 40) : ∃ t', mir (n + 12) .read_statement [.d (.str (sc (cds (ltx A m rs).1))), .d (.int m)] t = .ok (.d (enc A)) t' ∧ Fr t.length t t' := by
 have p := ltx_ok A m rs h
 have g := p.g [] trivial rfl
 rw [List.append_nil] at g
 have l := p.l
 obtain ⟨t', e, f⟩ := read_ps n (t := t) (wd := "statement") g (by omega) (pt_ok p.t).s hs hd
 refine ⟨t', ?_, f⟩
 show fnM 2 (m_read_statement (mir (n + 11))) [.d (.str (sc (cds (ltx A m rs).1))), .d (.int m)] t = _
 exact fnM_d (M := MX) (ret_d (call_d (ss := [.d (.str (sc (cds (ltx A m rs).1))), .d (.int m), .d (.str "statement")]) (rho1 := [some (.d (.str (sc (cds (ltx A m rs).1)))), some (.d (.int m))]) rfl rfl e))
theorem read_term_ok (n : Nat) {T : Th} {m : Int} {t : List MO} (h : gT m T) (hs : size T ≤ 400) (hd : depth T ≤ 40) : ∃ t', mir (n + 12) .read_term [.d (.str (txT m T)), .d (.int m)] t = .ok (.d (enc T)) t' ∧ Fr t.length t t' := by
 have g := good_T (q := []) trivial rfl h
 rw [List.append_nil] at g
 have l := len_T h
 have R : Rch 0 0 m (tks (pcT m T)) 4 [.tup [.str "term"]] [] T := by
  rw [tks_T m h]
  exact tc_ok m _ T (Nat.le_refl _) (gT_tm h)
 obtain ⟨t', e, f⟩ := read_ps n (t := t) (wd := "term") g (by omega) R hs hd
 refine ⟨t', ?_, f⟩
 show fnM 2 (m_read_term (mir (n + 11))) [.d (.str (txT m T)), .d (.int m)] t = _
 exact fnM_d (M := MX) (ret_d (call_d (ss := [.d (.str (txT m T)), .d (.int m), .d (.str "term")]) (rho1 := [some (.d (.str (txT m T))), some (.d (.int m))]) rfl rfl e))
theorem isi_tT (xs : List D) : dIsiN "tuple" (.tup xs) = some (.d (.bl true)) := by kernel_rfl
theorem isi_tS (x : Str) : dIsiN "tuple" (.str x) = some (.d (.bl false)) := by kernel_rfl
theorem isi_tI (k : Int) : dIsiN "tuple" (.int k) = some (.d (.bl false)) := by kernel_rfl
theorem isi_sT (xs : List D) : dIsiN "str" (.tup xs) = some (.d (.bl false)) := by kernel_rfl
theorem ixh (x : D) (r : List D) : dIx (.tup (x :: r)) (.int 0) = some (.d x) := by
 show (atI (x :: r) 0).map R.d = _
 rw [atI0]
 rfl
theorem isi_sS (x : Str) : dIsiN "str" (.str x) = some (.d (.bl true)) := by kernel_rfl
section
variable {n : Nat} {t : List MO}
noncomputable def zs (d : D) (o : Option S) (t : List MO) : Z (List MO) := ⟨[some (.d d), o, none], t⟩
theorem eun1 {g : D → Option R} {f : Sm MX S} {z z1 : Z (List MO)} {a r : D} (hf : f z = .ok (.d a) z1) (h : g a = some (.d r)) : eUn g f z = .ok (.d r) z1 := by
 unfold eUn opd
 rw [hf]
 simp only [Rs.bind_ok, rd, Option.bind_some, h, fin, R.toS]
theorem efn1l {g : List D → Option R} {f : Sm MX S} {z z1 : Z (List MO)} {xs : List D} {r : D} (hf : f z = .ok (.l xs) z1) (h : g [.lst xs] = some (.d r)) : eFn g (aCons (opd f) aNil) z = .ok (.d r) z1 := by
 unfold eFn aCons kA opd aNil
 rw [hf]
 simp only [Rs.bind_ok, rds, rd, Option.bind_some, h, fin, R.toS]
theorem t_not1 {f : Sm MX S} {z z1 : Z (List MO)} {b : Bool} (hf : f z = .ok (.d (.bl b)) z1) : (tNotM (tTru dTru f) : Sm MX Bool) z = .ok (!b) z1 := by
 unfold tNotM tTru opd
 rw [hf]
 cases b <;> rfl
theorem size_no {d : D} (h : dIsiN "tuple" d = some (.d (.bl false))) : mir (n + 1) ._law_size [.d d] t = .ok (.d (.int 0)) t := by
 show fnM 3 (m__law_size (mir n)) [.d d] t = _
 exact fnM_d (M := MX) (seq_rt ((if_T (t_not1 (eun1 (z := zs d none t) rfl h))).trans (ret_d rfl)))
theorem size_tail {xs : List D} {ps : List (D × Nat)} {b : Bool} (hc : cutD xs (some (if b = true then 1 else 0)) none = ps.map (·.1)) (hl : ps.length ≤ 400000) (ih : ∀ p ∈ ps, mir n ._law_size [.d p.1] t = .ok (.d (.int (p.2 : Nat))) t) :
  (sRet (eBin dAdd (eVar 1) (eFn fSum (aCons (opd (eLc (iAnyM (eSl dSl (eVar 0) (oInt (eBin dSub (eC (.int 1)) (eFn fInt (aCons (opd (eBin dEq (eVar 1) (eC (.int 0)))) aNil)))) (fun z => .ok none z))) (kName 2) (fun z => .ok true z) (eCall (mir n ._law_size) (aCons (escf (eVar 2)) aNil)) [2])) aNil))) : Sm MX Out) (zs (.tup xs) (some (.d (.int (if b = true then 1 else 0)))) t) = .ok (.rt (.d (.int (((if b = true then 1 else 0) + (ps.map (·.2)).sum : Nat) : Int)))) (zs (.tup xs) (some (.d (.int (if b = true then 1 else 0)))) t) := by
 have l8 := lim8
 have o : (oInt (eBin dSub (eC (.int 1)) (eFn fInt (aCons (opd (eBin dEq (eVar 1) (eC (.int 0)))) aNil))) : Sm MX (Option Int)) (zs (.tup xs) (some (.d (.int (if b = true then 1 else 0)))) t) = .ok (some (if b = true then 1 else 0)) (zs (.tup xs) (some (.d (.int (if b = true then 1 else 0)))) t) := by
  unfold zs
  walk_at "ex"
  cases b <;> rfl
 have it : (iAnyM (eSl dSl (eVar 0) (oInt (eBin dSub (eC (.int 1)) (eFn fInt (aCons (opd (eBin dEq (eVar 1) (eC (.int 0)))) aNil)))) (fun z => .ok none z)) : Sm MX (List D)) (zs (.tup xs) (some (.d (.int (if b = true then 1 else 0)))) t) = .ok (ps.map (·.1)) (zs (.tup xs) (some (.d (.int (if b = true then 1 else 0)))) t) := by
  have e : (eSl dSl (eVar 0) (oInt (eBin dSub (eC (.int 1)) (eFn fInt (aCons (opd (eBin dEq (eVar 1) (eC (.int 0)))) aNil)))) (fun z => .ok none z) : Sm MX S) (zs (.tup xs) (some (.d (.int (if b = true then 1 else 0)))) t) =   .ok (.d (.tup (ps.map (·.1)))) (zs (.tup xs) (some (.d (.int (if b = true then 1 else 0)))) t) := by
   unfold eSl
   have a : opd (eVar 0 : Sm MX S) (zs (.tup xs) (some (.d (.int (if b = true then 1 else 0)))) t) = .ok (.d (.tup xs)) (zs (.tup xs) (some (.d (.int (if b = true then 1 else 0)))) t) := rfl
   rw [a]
   simp only [Rs.bind_ok]
   rw [o]
   simp only [Rs.bind_ok, rd, Option.bind_some, dSl, hc, fin, R.toS]
  unfold iAnyM escf
  rw [e]
  rfl
 have lc := elc_map (M := MX) (i := 2) (e := eCall (mir n ._law_size) (aCons (escf (eVar 2)) aNil)) (fun p : D × Nat => p.1) (g := fun p : D × Nat => .int (p.2 : Nat)) (ts := ps) it rfl (by omega) (fun p hp => by
  unfold zs
  walk_at "ec"
  rw [ih p hp]
  walk_at "ec")
 have s : fSum [.lst (ps.map fun p : D × Nat => .int (p.2 : Nat))] = some (.d (.int (((ps.map (·.2)).sum : Nat) : Int))) := by
  have := intsOf_map (fun p : D × Nat => ((p.2 : Nat) : Int)) ps
  simp only [fSum, this, Option.map_some]
  have e : ∀ l : List (D × Nat), (l.map fun p => ((p.2 : Nat) : Int)).sum = (((l.map (·.2)).sum : Nat) : Int) := fun l => by
   induction l with
   | nil => rfl
   | cons x r ih => simp only [List.map_cons, List.sum_cons, ih]; omega
  rw [e]
 have fs : (eFn fSum (aCons (opd (eLc (iAnyM (eSl dSl (eVar 0) (oInt (eBin dSub (eC (.int 1)) (eFn fInt (aCons (opd (eBin dEq (eVar 1) (eC (.int 0)))) aNil)))) (fun z => .ok none z))) (kName 2) (fun z => .ok true z) (eCall (mir n ._law_size) (aCons (escf (eVar 2)) aNil)) [2])) aNil) : Sm MX S) (zs (.tup xs) (some (.d (.int (if b = true then 1 else 0)))) t) = .ok (.d (.int (((ps.map (·.2)).sum : Nat) : Int))) (zs (.tup xs) (some (.d (.int (if b = true then 1 else 0)))) t) := by
  exact efn1l lc s
 refine ret_d (ebin_ok rfl fs ?_)
 rw [dAdd_i]
 cases b <;> simp
theorem size_of {xs : List D} {ps : List (D × Nat)} {b : Bool} (hb : (eAndM (eBin (dEq0 true) (eVar 0) (eTup aNil)) (eUn (dIsiN "str") (eBin dIx (eVar 0) (eC (.int 0)))) : Sm MX S) (zs (.tup xs) none t) = .ok (.d (.bl b)) (zs (.tup xs) none t)) (hc : cutD xs (some (if b = true then 1 else 0)) none = ps.map (·.1)) (hl : ps.length ≤ 400000) (ih : ∀ p ∈ ps, mir n ._law_size [.d p.1] t = .ok (.d (.int (p.2 : Nat))) t) :
  mir (n + 1) ._law_size [.d (.tup xs)] t = .ok (.d (.int (((if b = true then 1 else 0) + (ps.map (·.2)).sum : Nat) : Int))) t := by
 show fnM 3 (m__law_size (mir n)) [.d (.tup xs)] t = _
 have s1 : (sSet 1 (eFn fInt (aCons (opd (eAndM (eBin (dEq0 true) (eVar 0) (eTup aNil)) (eUn (dIsiN "str") (eBin dIx (eVar 0) (eC (.int 0)))))) aNil)) : Sm MX Out) (zs (.tup xs) none t) = .ok .nx (zs (.tup xs) (some (.d (.int (if b = true then 1 else 0)))) t) := set_d (efn1 hb rfl)
 exact fnM_d (M := MX) ((seq_nx (if_F (t_not1 (eun1 (z := zs (.tup xs) none t) rfl (isi_tT xs))))).trans ((seq_nx s1).trans (size_tail hc hl ih)))
theorem size_h {w : Str} {ps : List (D × Nat)} (hl : ps.length ≤ 400000) (ih : ∀ p ∈ ps, mir n ._law_size [.d p.1] t = .ok (.d (.int (p.2 : Nat))) t) : mir (n + 1) ._law_size [.d (.tup (.str w :: ps.map (·.1)))] t = .ok (.d (.int ((1 + (ps.map (·.2)).sum : Nat) : Int))) t := by
 refine size_of (b := true) ?_ ?_ hl ih
 ·unfold eAndM
  have c : (tOf (eBin (dEq0 true) (eVar 0) (eTup aNil)) : Sm MX Bool) (zs (.tup (.str w :: ps.map (·.1))) none t) = .ok true (zs (.tup (.str w :: ps.map (·.1))) none t) := rfl
  rw [c]
  exact eun1 (ebin_ok rfl rfl (ixh _ _)) (isi_sS w)
 ·show cutD _ (some ((1 : Nat) : Int)) none = _
  rw [cut_drop _ _ (by rw [List.length_cons]; omega)]
  rfl
theorem size_l {ps : List (D × Nat)} (hp : ∀ p ∈ ps, ∃ xs, p.1 = .tup xs) (hl : ps.length ≤ 400000) (ih : ∀ p ∈ ps, mir n ._law_size [.d p.1] t = .ok (.d (.int (p.2 : Nat))) t) : mir (n + 1) ._law_size [.d (.tup (ps.map (·.1)))] t = .ok (.d (.int (((ps.map (·.2)).sum : Nat) : Int))) t := by
 have := size_of (n := n) (t := t) (xs := ps.map (·.1)) (ps := ps) (b := false) ?_ ?_ hl ih
 ·rw [this]; simp
 ·unfold eAndM
  cases ps with
  | nil => rfl
  | cons p r =>
   have c : (tOf (eBin (dEq0 true) (eVar 0) (eTup aNil)) : Sm MX Bool) (zs (.tup ((p :: r).map (·.1))) none t) = .ok true (zs (.tup ((p :: r).map (·.1))) none t) := rfl
   rw [c]
   obtain ⟨xs, e⟩ := hp p List.mem_cons_self
   refine eun1 (a := p.1) (ebin_ok rfl rfl (ixh _ _)) ?_
   rw [e]
   exact isi_sT xs
 ·show cutD _ (some ((0 : Nat) : Int)) none = _
  rw [cut_drop _ _ (Nat.zero_le _)]
  rfl
end
theorem size2 {n : Nat} {w : Str} {a b : D} {x y : Nat} {t : List MO} (ha : mir n ._law_size [.d a] t = .ok (.d (.int (x : Nat))) t) (hb : mir n ._law_size [.d b] t = .ok (.d (.int (y : Nat))) t) : mir (n + 1) ._law_size [.d (.tup [.str w, a, b])] t = .ok (.d (.int ((1 + (x + y) : Nat) : Int))) t := by
 have := size_h (n := n) (t := t) (w := w) (ps := [(a, x), (b, y)]) (by show 2 ≤ _; omega) (fun p hp => by
  rcases List.mem_cons.mp hp with rfl | hp
  ·exact ha
  ·rcases List.mem_cons.mp hp with rfl | hp
   ·exact hb
   ·cases hp)
 have e : (1 + ([(a, x), (b, y)].map (·.2)).sum : Nat) = 1 + (x + y) := by simp
 rw [e] at this
 exact this
theorem size_args {n : Nat} {as : List Th} {t : List MO} (hl : sizes as ≤ 400000) (ih : ∀ x ∈ as, mir n ._law_size [.d (enc x)] t = .ok (.d (.int (size x : Nat))) t) : mir (n + 1) ._law_size [.d (.tup (encs as))] t = .ok (.d (.int (sizes as : Nat))) t := by
 have hn := sizes_len as
 have := size_l (n := n) (t := t) (ps := as.map fun x => (enc x, size x)) (fun p hp => by
  obtain ⟨x, _, rfl⟩ := List.mem_map.mp hp
  exact enc_tup x) (by rw [List.length_map]; omega) (fun p hp => by
  obtain ⟨x, hx, rfl⟩ := List.mem_map.mp hp
  exact ih x hx)
 rw [List.map_map, List.map_map] at this
 have e1 : as.map ((·.1) ∘ fun x => (enc x, size x)) = encs as := (encs_map as).symm
 have e2 : ∀ l : List Th, (l.map ((·.2) ∘ fun x => (enc x, size x))).sum = sizes l := fun l => by
  induction l with
  | nil => rw [sizes]; rfl
  | cons x r ih => rw [sizes, ← ih]; rfl
 rw [e1, e2] at this
 exact this
theorem size_ok (t : List MO) : ∀ (k : Nat) (T : Th), depth T ≤ k → size T ≤ 400000 → ∀ n, mir (n + 2 * k + 1) ._law_size [.d (enc T)] t = .ok (.d (.int (size T : Nat))) t
 | 0, T, hk, _, _ => by rw [depth_kids] at hk; omega
 | k + 1, .var v, hk, hs, n => by
  have := size_h (n := n + 2 * k + 2) (t := t) (w := "var") (ps := [(.int v, 0)]) (by show 1 ≤ _; omega) (fun p hp => by
   rcases List.mem_cons.mp hp with rfl | hp
   ·exact size_no (isi_tI _)
   ·cases hp)
  rw [enc, size]
  exact this
 | k + 1, .no, hk, hs, n => by
  have := size_h (n := n + 2 * k + 2) (t := t) (w := "no") (ps := []) (by show 0 ≤ _; omega) (fun p hp => by cases hp)
  rw [enc, size]
  exact this
 | k + 1, .call f as, hk, hs, n => by
  rw [depth] at hk
  rw [size] at hs
  have a := size_args (n := n + 2 * k + 1) (t := t) (as := as) (by omega) (fun x hx => size_ok t k x (by have := depth_mem hx; omega) (by have := mem_size hx; omega) n)
  have := size2 (n := n + 2 * k + 2) (w := "call") (x := 0) (size_no (n := n + 2 * k + 1) (isi_tS f)) a
  rw [Nat.zero_add] at this
  rw [enc, size]
  exact this
 | k + 1, .rel f as, hk, hs, n => by
  rw [depth] at hk
  rw [size] at hs
  have a := size_args (n := n + 2 * k + 1) (t := t) (as := as) (by omega) (fun x hx => size_ok t k x (by have := depth_mem hx; omega) (by have := mem_size hx; omega) n)
  have := size2 (n := n + 2 * k + 2) (w := "rel") (x := 0) (size_no (n := n + 2 * k + 1) (isi_tS f)) a
  rw [Nat.zero_add] at this
  rw [enc, size]
  exact this
 | k + 1, .same a b, hk, hs, n => by
  rw [depth] at hk
  rw [size] at hs
  have ea := size_ok t k a (by omega) (by omega) (n + 1)
  have eb := size_ok t k b (by omega) (by omega) (n + 1)
  rw [show n + 1 + 2 * k + 1 = n + 2 * k + 2 by omega] at ea eb
  rw [enc, size]
  exact size2 ea eb
 | k + 1, .and a b, hk, hs, n => by
  rw [depth] at hk
  rw [size] at hs
  have ea := size_ok t k a (by omega) (by omega) (n + 1)
  have eb := size_ok t k b (by omega) (by omega) (n + 1)
  rw [show n + 1 + 2 * k + 1 = n + 2 * k + 2 by omega] at ea eb
  rw [enc, size]
  exact size2 ea eb
 | k + 1, .or a b, hk, hs, n => by
  rw [depth] at hk
  rw [size] at hs
  have ea := size_ok t k a (by omega) (by omega) (n + 1)
  have eb := size_ok t k b (by omega) (by omega) (n + 1)
  rw [show n + 1 + 2 * k + 1 = n + 2 * k + 2 by omega] at ea eb
  rw [enc, size]
  exact size2 ea eb
 | k + 1, .imp a b, hk, hs, n => by
  rw [depth] at hk
  rw [size] at hs
  have ea := size_ok t k a (by omega) (by omega) (n + 1)
  have eb := size_ok t k b (by omega) (by omega) (n + 1)
  rw [show n + 1 + 2 * k + 1 = n + 2 * k + 2 by omega] at ea eb
  rw [enc, size]
  exact size2 ea eb
 | k + 1, .all s a, hk, hs, n => by
  rw [depth] at hk
  rw [size] at hs
  have ea := size_ok t k a (by omega) (by omega) (n + 1)
  rw [show n + 1 + 2 * k + 1 = n + 2 * k + 2 by omega] at ea
  have := size2 (n := n + 2 * k + 2) (w := "all") (x := 0) (size_no (n := n + 2 * k + 1) (isi_tS s)) ea
  rw [Nat.zero_add] at this
  rw [enc, size]
  exact this
 | k + 1, .some s a, hk, hs, n => by
  rw [depth] at hk
  rw [size] at hs
  have ea := size_ok t k a (by omega) (by omega) (n + 1)
  rw [show n + 1 + 2 * k + 1 = n + 2 * k + 2 by omega] at ea
  have := size2 (n := n + 2 * k + 2) (w := "some") (x := 0) (size_no (n := n + 2 * k + 1) (isi_tS s)) ea
  rw [Nat.zero_add] at this
  rw [enc, size]
  exact this
noncomputable def nmB (cs : List Nat) : Bool := decide (cs.length ≤ 10) && ((match cs with | c :: _ => decide (c ∈ SMl) | [] => false) && (cs.all (fun c => decide (c ∈ SFl)) && (!(inD (.str (sc cs)) toldL) && !(inD (.str (sc cs)) formL))))
theorem nm_of {cs : List Nat} (h : nmB cs = true) : Nm cs := by
 unfold nmB at h
 simp only [Bool.and_eq_true, Bool.not_eq_true', decide_eq_true_eq, List.all_eq_true] at h
 obtain ⟨h1, h2, h3, h4, h5⟩ := h
 refine ⟨h1, ?_, h3, h4, h5⟩
 cases cs with
 | nil => cases h2
 | cons c r => exact ⟨c, r, rfl, of_decide_eq_true h2⟩
theorem law_name_ok (n : Nat) (k : Int) : ∃ f : Str, Nm (cdn f) ∧ ∀ t, mir (n + 1) ._law_name [.d (.int k)] t = .ok (.d (.str f)) t := by
 have hm : dMod (.int k) (.int 10) = some (.d (.int (k % 10))) := modA _ _ (by omega)
 have lst : ∀ z : Z (List MO), (eLst (aCons (escf (eC (.str "a"))) (aCons (escf (eC (.str "f"))) (aCons (escf (eC (.str "p"))) (aCons (escf (eC (.str "thing"))) (aCons (escf (eC (.str "x1"))) (aCons (escf (eC (.str "q"))) (aCons (escf (eC (.str "longname10"))) (aCons (escf (eC (.str "r2d2"))) (aCons (escf (eC (.str "ab"))) (aCons (escf (eC (.str "z"))) aNil)))))))))) : Sm MX S) z = .ok (.l [.str "a", .str "f", .str "p", .str "thing", .str "x1", .str "q", .str "longname10", .str "r2d2", .str "ab", .str "z"]) z := fun z => rfl
 have go : ∀ (j : Int) (f : Str), k % 10 = j → nmB (cdn f) = true → dIx (.lst [.str "a", .str "f", .str "p", .str "thing", .str "x1", .str "q", .str "longname10", .str "r2d2", .str "ab", .str "z"]) (.int j) = some (.d (.str f)) → ∃ f : Str, Nm (cdn f) ∧ ∀ t, mir (n + 1) ._law_name [.d (.int k)] t = .ok (.d (.str f)) t := fun j f e1 e2 e3 => ⟨f, nm_of e2, fun t => by
  show fnM 1 (m__law_name (mir n)) [.d (.int k)] t = _
  have e : (eBin dIx (eLst (aCons (escf (eC (.str "a"))) (aCons (escf (eC (.str "f"))) (aCons (escf (eC (.str "p"))) (aCons (escf (eC (.str "thing"))) (aCons (escf (eC (.str "x1"))) (aCons (escf (eC (.str "q"))) (aCons (escf (eC (.str "longname10"))) (aCons (escf (eC (.str "r2d2"))) (aCons (escf (eC (.str "ab"))) (aCons (escf (eC (.str "z"))) aNil))))))))))) (eBin dMod (eVar 0) (eC (.int 10))) : Sm MX S) ⟨[some (.d (.int k))], t⟩ = .ok (.d (.str f)) ⟨[some (.d (.int k))], t⟩ := by
   have q : (eBin dMod (eVar 0) (eC (.int 10)) : Sm MX S) ⟨[some (.d (.int k))], t⟩ = .ok (.d (.int j)) ⟨[some (.d (.int k))], t⟩ := e1 ▸ ebin_ok rfl rfl hm
   unfold eBin kB opd
   rw [lst]
   unfold eBin kB opd at q
   simp only [Rs.bind_ok] at q ⊢
   rw [q]
   simp only [Rs.bind_ok, rd, Option.bind_some, e3, fin, R.toS]
  exact fnM_d (M := MX) (ret_d e)⟩
 have h : k % 10 = 0 ∨ k % 10 = 1 ∨ k % 10 = 2 ∨ k % 10 = 3 ∨ k % 10 = 4 ∨ k % 10 = 5 ∨ k % 10 = 6 ∨ k % 10 = 7 ∨ k % 10 = 8 ∨ k % 10 = 9 := by omega
 rcases h with e | e | e | e | e | e | e | e | e | e
 ·exact go 0 "a" e (by decide +kernel) (by kernel_rfl)
 ·exact go 1 "f" e (by decide +kernel) (by kernel_rfl)
 ·exact go 2 "p" e (by decide +kernel) (by kernel_rfl)
 ·exact go 3 "thing" e (by decide +kernel) (by kernel_rfl)
 ·exact go 4 "x1" e (by decide +kernel) (by kernel_rfl)
 ·exact go 5 "q" e (by decide +kernel) (by kernel_rfl)
 ·exact go 6 "longname10" e (by decide +kernel) (by kernel_rfl)
 ·exact go 7 "r2d2" e (by decide +kernel) (by kernel_rfl)
 ·exact go 8 "ab" e (by decide +kernel) (by kernel_rfl)
 ·exact go 9 "z" e (by decide +kernel) (by kernel_rfl)
noncomputable def Sb (t : List MO) (b : Nat) : Prop := ∃ k : Nat, Sp t (k : Int) ∧ k ≤ b
theorem Sb.up {t : List MO} {a b : Nat} (h : Sb t a) (l : a ≤ b) : Sb t b := by
 obtain ⟨k, h1, h2⟩ := h
 exact ⟨k, h1, by omega⟩
theorem tand {f g : Sm MX Bool} {z : Z (List MO)} {b c : Bool} (hf : f z = .ok b z) (hg : g z = .ok c z) : tAndM f g z = .ok (b && c) z := t_and (z1 := z) hf hg
theorem tor {f g : Sm MX Bool} {z : Z (List MO)} {b c : Bool} (hf : f z = .ok b z) (hg : g z = .ok c z) : tOrM f g z = .ok (b || c) z := t_or (z1 := z) hf hg
section
variable {ns : List Int}
theorem cell_b (hL2 : ns.length < 1000) (n : Nat) {t : List MO} {b : Nat} (h : Sb t b) (hb : b < 10000000000) : ∃ (r : Int) (t' : List MO), mir (n + 1) ._law_cell [.d (.scr ns), .d (.o 0)] t = .ok (.d (.int r)) t' ∧ Sb t' (b + 1) ∧ Mv 0 t t' ∧ 0 ≤ r ∧ r < 2147483648 := by
 obtain ⟨k, h1, h2⟩ := h
 obtain ⟨r, t', e, s, m, p, q⟩ := cell_ok (k := (k : Int)) n hL2 (by omega) (by omega) h1
 exact ⟨r, t', e, ⟨k + 1, s, by omega⟩, m, p, q⟩
structure GT (m : Int) (D C : Nat) (T : Th) : Prop where
  g : gT m T
  d : depth T ≤ D
  s : size T ≤ C
noncomputable def Tm (ns : List Int) (n : Nat) (m deep : Int) (D C : Nat) : Prop := ∀ (t : List MO) (b : Nat), Sb t b → b + C < 10000000000 → ∃ (T : Th) (t' : List MO), mir n ._law_term [.d (.scr ns), .d (.o 0), .d (.int deep), .d (.int m)] t = .ok (.d (enc T)) t' ∧ GT m D C T ∧ Sb t' (b + C) ∧ Mv 0 t t'
noncomputable def St (ns : List Int) (n : Nat) (m deep : Int) (D C : Nat) : Prop := ∀ (t : List MO) (b : Nat), Sb t b → b + C < 10000000000 → ∃ (A : Th) (t' : List MO), mir n ._law_statement [.d (.scr ns), .d (.o 0), .d (.int deep), .d (.int m)] t = .ok (.d (enc A)) t' ∧ (gS A m ∧ depth A ≤ D ∧ size A ≤ C) ∧ Sb t' (b + C) ∧ Mv 0 t t'
theorem gts_all {m : Int} {D C : Nat} : ∀ {ts : List Th}, (∀ T ∈ ts, GT m D C T) → gTs m ts ∧ depths ts ≤ D ∧ sizes ts ≤ ts.length * C
 | [], _ => ⟨by rw [gTs]; trivial, by rw [depths]; omega, by rw [sizes]; omega⟩
 | x :: r, h => by
  obtain ⟨a, b, c⟩ := gts_all (ts := r) fun y hy => h y (List.mem_cons_of_mem _ hy)
  have g := h x List.mem_cons_self
  have := g.d
  have := g.s
  refine ⟨by rw [gTs]; exact ⟨g.g, a⟩, by rw [depths]; omega, ?_⟩
  rw [sizes, List.length_cons, Nat.succ_mul]
  omega
theorem draws {α : Type} {en : α → D} {P : α → Prop} {C i : Nat} {rho : List (Option S)} {its : Sm MX (List D)} {e : Sm MX S} {z0 : Z (List MO)} {ds : List D} {t : List MO} {b L : Nat} (h0 : its z0 = .ok ds ⟨rho, t⟩) (hi : rho.set i none = rho) (hL : ds.length ≤ L) (hL2 : L ≤ 100) (hs : Sb t b) (hb : b + L * C < 10000000000)
  (h : ∀ (d : D) (t : List MO) (b : Nat), Sb t b → b + C < 10000000000 → ∃ (x : α) (t' : List MO), escf e ⟨rho.set i (some (.d d)), t⟩ = .ok (.d (en x)) ⟨rho.set i (some (.d d)), t'⟩ ∧ P x ∧ Sb t' (b + C) ∧ Mv 0 t t') :
  ∃ (xs : List α) (t' : List MO), eLc its (kName i) (fun z => .ok true z) e [i] z0 = .ok (.l (xs.map en)) ⟨rho, t'⟩ ∧ xs.length ≤ L ∧ (∀ x ∈ xs, P x) ∧ Sb t' (b + L * C) ∧ Mv 0 t t' := by
 have l8 := lim8
 obtain ⟨xs, t', e1, e2, e3, e4⟩ := elc_run (M := MX) (i := i) (e := e) (en := en) (P := P) (Q := fun j x => (∃ b', b' + j * C ≤ b + L * C ∧ Sb x b') ∧ Mv 0 t x) h0 hi (by omega) ⟨⟨b, by have := Nat.mul_le_mul_right C hL; omega, hs⟩, Mv.refl _ _⟩ (fun j d x q => by
  obtain ⟨⟨b', h1, h2⟩, h3⟩ := q
  rw [Nat.succ_mul] at h1
  obtain ⟨y, t', f1, f2, f3, f4⟩ := h d x b' h2 (by omega)
  exact ⟨y, t', f1, f2, ⟨b' + C, by omega, f3⟩, h3.trans f4⟩)
 obtain ⟨⟨b', h1, h2⟩, h3⟩ := e4
 exact ⟨xs, t', e1, by omega, e3, h2.up (by omega), h3⟩
theorem rg_it {f : Sm MX S} {z z1 : Z (List MO)} {k : Int} (h : f z = .ok (.d (.int k)) z1) (h0 : 0 ≤ k) (h1 : k < 1000000) : (iRg1M (aCons (opd f) aNil) : Sm MX (List D)) z = .ok (rangeD 0 k.toNat) z1 := by
 unfold iRg1M
 rw [acons1 h, Rs.bind_ok]
 show (if -(2 ^ 62) ≤ k ∧ k < 2 ^ 62 then Rs.ok (rangeD 0 k.toNat) _ else .bad) = _
 rw [if_pos (by omega)]
theorem rangeD_len (n : Nat) : (rangeD 0 n).length = n := by simp [rangeD]
noncomputable def zt (ns : List Int) (deep m : Int) (x y w : Option S) (t : List MO) : Z (List MO) := ⟨[some (.d (.scr ns)), some (.d (.o 0)), some (.d (.int deep)), some (.d (.int m)), x, y, w], t⟩
theorem cell_c (hL2 : ns.length < 1000) (n : Nat) {t : List MO} {b : Nat} {rho : List (Option S)} (h0 : rho[0]? = some (some (.d (.scr ns)))) (h1 : rho[1]? = some (some (.d (.o 0)))) (h : Sb t b) (hb : b < 10000000000) : ∃ (r : Int) (t' : List MO), (eCall (mir (n + 1) ._law_cell) (aCons (escf (eVar 0)) (aCons (escf (eVar 1)) aNil)) : Sm MX S) ⟨rho, t⟩ = .ok (.d (.int r)) ⟨rho, t'⟩ ∧ Sb t' (b + 1) ∧ Mv 0 t t' ∧ 0 ≤ r ∧ r < 2147483648 := by
 obtain ⟨r, t', e, s, m, p, q⟩ := cell_b hL2 n h hb
 refine ⟨r, t', call_d (ss := [.d (.scr ns), .d (.o 0)]) ?_ rfl e, s, m, p, q⟩
 simp only [aCons, kA, escf, eVar, h0, h1, Rs.bind_ok, escS, aNil]
theorem divK {f : Sm MX S} {z z1 : Z (List MO)} {i j : Int} (h : f z = .ok (.d (.int i)) z1) (hj : 0 < j ∧ j < 1073741824) : (eBin dFdiv f (eC (.int j)) : Sm MX S) z = .ok (.d (.int (i / j))) z1 := ebin_ok h rfl (divA _ _ hj)
theorem modK {f : Sm MX S} {z z1 : Z (List MO)} {i j : Int} (h : f z = .ok (.d (.int i)) z1) (hj : 0 < j) : (eBin dMod f (eC (.int j)) : Sm MX S) z = .ok (.d (.int (i % j))) z1 := ebin_ok h rfl (modA _ _ hj)
theorem name_c (n : Nat) {f : Sm MX S} {z : Z (List MO)} {k : Int} (h : f z = .ok (.d (.int k)) z) : ∃ s : Str, Nm (cdn s) ∧ (eCall (mir (n + 1) ._law_name) (aCons (escf f) aNil) : Sm MX S) z = .ok (.d (.str s)) z := by
 obtain ⟨s, h1, h2⟩ := law_name_ok n k
 refine ⟨s, h1, call_d (ss := [.d (.int k)]) (t1 := z.m) ?_ rfl (h2 _)⟩
 unfold aCons kA escf aNil
 rw [h]
 rfl
theorem etup2 {f g : Sm MX S} {z z1 z2 : Z (List MO)} {a b : D} (hf : f z = .ok (.d a) z1) (hg : g z1 = .ok (.d b) z2) : (eTup (aCons (escf f) (aCons (escf g) aNil)) : Sm MX S) z = .ok (.d (.tup [a, b])) z2 := by
 unfold eTup aCons kA escf aNil
 rw [hf]
 simp only [Rs.bind_ok, escS, hg]
 rfl
theorem etup3 {f g h : Sm MX S} {z z1 z2 z3 : Z (List MO)} {a b c : D} (hf : f z = .ok (.d a) z1) (hg : g z1 = .ok (.d b) z2) (hh : h z2 = .ok (.d c) z3) : (eTup (aCons (escf f) (aCons (escf g) (aCons (escf h) aNil))) : Sm MX S) z = .ok (.d (.tup [a, b, c])) z3 := by
 unfold eTup
 have e : ∀ z, aCons (escf f) (aCons (escf g) (aCons (escf h) aNil)) z = (escf f z).bind (kA (aCons (escf g) (aCons (escf h) aNil))) := fun z => rfl
 rw [e]
 unfold escf
 rw [hf]
 simp only [Rs.bind_ok, escS, kA]
 have e : ∀ z, aCons (escf g) (aCons (escf h) aNil) z = (escf g z).bind (kA (aCons (escf h) aNil)) := fun z => rfl
 have e := e z1
 unfold escf at e
 rw [hg] at e
 simp only [Rs.bind_ok, escS, kA] at e
 rw [e]
 have e : ∀ z, aCons (escf h) aNil z = (escf h z).bind (kA aNil) := fun z => rfl
 have e := e z2
 unfold escf at e
 rw [hh] at e
 simp only [Rs.bind_ok, escS, kA, aNil] at e
 rw [e]
 rfl
theorem eftup {i : Nat} {z : Z (List MO)} {xs : List D} (h : z.rho[i]? = some (some (.l xs))) : (eFn fTuple (aCons (opd (eVar i)) aNil) : Sm MX S) z = .ok (.d (.tup xs)) z := by
 unfold eFn aCons kA opd aNil eVar
 simp only [h, Rs.bind_ok, rds, rd, Option.bind_some, fTuple, fin, R.toS]
theorem tm_step {n D C : Nat} {m deep : Int} (hL2 : ns.length < 1000) (h0 : 0 ≤ m) (h40 : m ≤ 40) (ih : 2 ≤ deep → Tm ns (n + 1) m (deep - 1) D C) : Tm ns (n + 2) m deep (D + 1) (3 * C + 1) := by
 intro t b hs hb
 obtain ⟨r, t1, e1, s1, m1, r0, r1⟩ := cell_c (rho := (zt ns deep m none none none t).rho) hL2 n rfl rfl hs (by omega)
 have b1 : (sSet 4 (eCall (mir (n + 1) ._law_cell) (aCons (escf (eVar 0)) (aCons (escf (eVar 1)) aNil))) : Sm MX Out) (zt ns deep m none none none t) = .ok .nx (zt ns deep m (some (.d (.int r))) none none t1) := set_d e1
 have v4 : ∀ y w t, (eVar 4 : Sm MX S) (zt ns deep m (some (.d (.int r))) y w t) = .ok (.d (.int r)) (zt ns deep m (some (.d (.int r))) y w t) := fun _ _ _ => rfl
 have v3 : ∀ y w t, (eVar 3 : Sm MX S) (zt ns deep m (some (.d (.int r))) y w t) = .ok (.d (.int m)) (zt ns deep m (some (.d (.int r))) y w t) := fun _ _ _ => rfl
 have v2 : ∀ y w t, (eVar 2 : Sm MX S) (zt ns deep m (some (.d (.int r))) y w t) = .ok (.d (.int deep)) (zt ns deep m (some (.d (.int r))) y w t) := fun _ _ _ => rfl
 have c1 := tand (t_gt (v3 none none t1) (rfl : (eC (.int 0) : Sm MX S) _ = .ok (.d (.int 0)) _)) (t_gt (modK (v4 none none t1) (j := 3) (by omega)) (rfl : (eC (.int 0) : Sm MX S) _ = .ok (.d (.int 0)) _))
 by_cases hc : (decide (0 < m) && decide (0 < r % 3)) = true
 ·rw [hc] at c1
  rw [Bool.and_eq_true] at hc
  have hm := of_decide_eq_true hc.1
  have g : GT m (D + 1) (3 * C + 1) (.var (r / 3 % m)) := ⟨by rw [gT]; exact ⟨Int.emod_nonneg _ (by omega), Int.emod_lt_of_pos _ hm, h40⟩, by rw [depth]; omega, by rw [size]; omega⟩
  refine ⟨.var (r / 3 % m), t1, ?_, g, s1.up (by omega), m1⟩
  have rt := etup2 (rfl : (eC (.str "var") : Sm MX S) (zt ns deep m (some (.d (.int r))) none none t1) = .ok (.d (.str "var")) (zt ns deep m (some (.d (.int r))) none none t1)) (ebin_ok (divK (v4 none none t1) (j := 3) (by omega)) (v3 none none t1) (modA _ _ hm))
  show fnM 7 (m__law_term (mir (n + 1))) [.d (.scr ns), .d (.o 0), .d (.int deep), .d (.int m)] t = _
  rw [enc]
  exact fnM_d (M := MX) ((seq_nx b1).trans (seq_rt ((if_T c1).trans (ret_d rt))))
 rw [Bool.eq_false_iff.mpr hc] at c1
 have c2 := tor (t_lt (v2 none none t1) (rfl : (eC (.int 2) : Sm MX S) _ = .ok (.d (.int 2)) _)) (t_eq (modK (divK (v4 none none t1) (j := 3) (by omega)) (j := 3) (by omega)) (rfl : (eC (.int 0) : Sm MX S) _ = .ok (.d (.int 0)) _))
 by_cases hd : (decide (deep < 2) || decide (r / 3 % 3 = 0)) = true
 ·rw [hd] at c2
  obtain ⟨f, hf, ef⟩ := name_c n (divK (v4 none none t1) (j := 9) (by omega))
  have g : GT m (D + 1) (3 * C + 1) (.call f []) := ⟨by rw [gT]; exact ⟨hf, by rw [gTs]; trivial⟩, by rw [depth, depths]; omega, by rw [size, sizes]; omega⟩
  refine ⟨.call f [], t1, ?_, g, s1.up (by omega), m1⟩
  have rt := etup3 (rfl : (eC (.str "call") : Sm MX S) (zt ns deep m (some (.d (.int r))) none none t1) = .ok (.d (.str "call")) (zt ns deep m (some (.d (.int r))) none none t1)) ef (rfl : (eTup aNil : Sm MX S) _ = .ok (.d (.tup [])) _)
  show fnM 7 (m__law_term (mir (n + 1))) [.d (.scr ns), .d (.o 0), .d (.int deep), .d (.int m)] t = _
  rw [enc, encs]
  exact fnM_d (M := MX) ((seq_nx b1).trans ((seq_nx (if_F c1)).trans (seq_rt ((if_T c2).trans (ret_d rt)))))
 rw [Bool.eq_false_iff.mpr hd] at c2
 have hdeep : 2 ≤ deep := by
  rw [Bool.or_eq_true, decide_eq_true_eq, decide_eq_true_eq] at hd
  omega
 have ih := ih hdeep
 have it := rg_it (ebin_ok (rfl : (eC (.int 1) : Sm MX S) (zt ns deep m (some (.d (.int r))) none none t1) = .ok (.d (.int 1)) _) (modK (divK (v4 none none t1) (j := 9) (by omega)) (j := 3) (by omega)) (dAdd_i _ _)) (by omega) (by omega)
 obtain ⟨ts, t2, e2, l2, p2, s2, m2⟩ := draws (L := 3) (C := C) (en := enc) (P := GT m D C) (i := 6) (e := eCall (mir (n + 1) ._law_term) (aCons (escf (eVar 0)) (aCons (escf (eVar 1)) (aCons (escf (eBin dSub (eVar 2) (eC (.int 1)))) (aCons (escf (eVar 3)) aNil))))) it rfl (by rw [rangeD_len]; omega) (by omega) s1 (by omega) (fun d t b hs hb => by
  obtain ⟨T, t', e, g, s, mv⟩ := ih t b hs hb
  refine ⟨T, t', ?_, g, s, mv⟩
  walk_at "ec"
  rw [e]
  walk_at "ec")
 have b2 : (sSet 5 (eLc (iRg1M (aCons (opd (eBin dAdd (eC (.int 1)) (eBin dMod (eBin dFdiv (eVar 4) (eC (.int 9))) (eC (.int 3))))) aNil)) (kName 6) (fun z => .ok true z) (eCall (mir (n + 1) ._law_term) (aCons (escf (eVar 0)) (aCons (escf (eVar 1)) (aCons (escf (eBin dSub (eVar 2) (eC (.int 1)))) (aCons (escf (eVar 3)) aNil))))) [6]) : Sm MX Out) (zt ns deep m (some (.d (.int r))) none none t1) = .ok .nx (zt ns deep m (some (.d (.int r))) (some (.l (ts.map enc))) none t2) := set_l e2
 obtain ⟨f, hf, ef⟩ := name_c n (divK (v4 (some (.l (ts.map enc))) none t2) (j := 27) (by omega))
 obtain ⟨g1, g2, g3⟩ := gts_all p2
 have g4 := Nat.mul_le_mul_right C l2
 have g : GT m (D + 1) (3 * C + 1) (.call f ts) := ⟨by rw [gT]; exact ⟨hf, g1⟩, by rw [depth]; omega, by rw [size]; omega⟩
 refine ⟨.call f ts, t2, ?_, g, s2.up (by omega), m1.trans m2⟩
 have rt := etup3 (rfl : (eC (.str "call") : Sm MX S) (zt ns deep m (some (.d (.int r))) (some (.l (ts.map enc))) none t2) = .ok (.d (.str "call")) (zt ns deep m (some (.d (.int r))) (some (.l (ts.map enc))) none t2)) ef (eftup (i := 5) (xs := ts.map enc) rfl)
 show fnM 7 (m__law_term (mir (n + 1))) [.d (.scr ns), .d (.o 0), .d (.int deep), .d (.int m)] t = _
 rw [enc, encs_map]
 exact fnM_d (M := MX) ((seq_nx b1).trans ((seq_nx (if_F c1)).trans ((seq_nx (if_F c2)).trans ((seq_nx b2).trans (ret_d rt)))))
theorem tm_1 {n : Nat} {m deep : Int} (hL2 : ns.length < 1000) (h0 : 0 ≤ m) (h40 : m ≤ 40) (hd : deep ≤ 1) : Tm ns (n + 2) m deep 1 1 := tm_step (D := 0) (C := 0) hL2 h0 h40 (fun h => absurd h (by omega))
theorem tm_2 {n : Nat} {m deep : Int} (hL2 : ns.length < 1000) (h0 : 0 ≤ m) (h40 : m ≤ 40) (hd : deep ≤ 2) : Tm ns (n + 3) m deep 2 4 := tm_step (D := 1) (C := 1) hL2 h0 h40 (fun _ => tm_1 hL2 h0 h40 (by omega))
theorem tm_3 {n : Nat} {m deep : Int} (hL2 : ns.length < 1000) (h0 : 0 ≤ m) (h40 : m ≤ 40) (hd : deep ≤ 3) : Tm ns (n + 4) m deep 3 13 := tm_step (D := 2) (C := 4) hL2 h0 h40 (fun _ => tm_2 hL2 h0 h40 (by omega))
theorem tm_4 {n : Nat} {m deep : Int} (hL2 : ns.length < 1000) (h0 : 0 ≤ m) (h40 : m ≤ 40) (hd : deep ≤ 4) : Tm ns (n + 5) m deep 4 40 := tm_step (D := 3) (C := 13) hL2 h0 h40 (fun _ => tm_3 hL2 h0 h40 (by omega))
end
section
variable {ns : List Int}
noncomputable def z9 (ns : List Int) (deep m r v : Int) (x y : Option S) (t : List MO) : Z (List MO) := ⟨[some (.d (.scr ns)), some (.d (.o 0)), some (.d (.int deep)), some (.d (.int m)), some (.d (.int r)), some (.d (.int v)), x, y, none], t⟩
theorem acons4 {f g h k : Sm MX S} {z : Z (List MO)} {a b c d : D} (hf : f z = .ok (.d a) z) (hg : g z = .ok (.d b) z) (hh : h z = .ok (.d c) z) (hk : k z = .ok (.d d) z) : (aCons (escf f) (aCons (escf g) (aCons (escf h) (aCons (escf k) aNil))) : Sm MX (List S)) z = .ok [.d a, .d b, .d c, .d d] z := by
 simp only [aCons, kA, escf, hf, hg, hh, hk, Rs.bind_ok, escS, aNil]
theorem arg4 {rho : List (Option S)} {f g : Sm MX S} {deep m : Int} {t : List MO} (h0 : rho[0]? = some (some (.d (.scr ns)))) (h1 : rho[1]? = some (some (.d (.o 0)))) (hf : f ⟨rho, t⟩ = .ok (.d (.int deep)) ⟨rho, t⟩) (hg : g ⟨rho, t⟩ = .ok (.d (.int m)) ⟨rho, t⟩) : (aCons (escf (eVar 0)) (aCons (escf (eVar 1)) (aCons (escf f) (aCons (escf g) aNil))) : Sm MX (List S)) ⟨rho, t⟩ = .ok [.d (.scr ns), .d (.o 0), .d (.int deep), .d (.int m)] ⟨rho, t⟩ :=
 acons4 (by unfold eVar; simp only [h0]) (by unfold eVar; simp only [h1]) hf hg
theorem term_c {n D C : Nat} {rho : List (Option S)} {f g : Sm MX S} {deep m : Int} {t : List MO} {b : Nat} (ih : Tm ns n m deep D C) (h0 : rho[0]? = some (some (.d (.scr ns)))) (h1 : rho[1]? = some (some (.d (.o 0)))) (hf : f ⟨rho, t⟩ = .ok (.d (.int deep)) ⟨rho, t⟩) (hg : g ⟨rho, t⟩ = .ok (.d (.int m)) ⟨rho, t⟩) (hs : Sb t b) (hb : b + C < 10000000000) :
  ∃ (T : Th) (t' : List MO), (eCall (mir n ._law_term) (aCons (escf (eVar 0)) (aCons (escf (eVar 1)) (aCons (escf f) (aCons (escf g) aNil)))) : Sm MX S) ⟨rho, t⟩ = .ok (.d (enc T)) ⟨rho, t'⟩ ∧ GT m D C T ∧ Sb t' (b + C) ∧ Mv 0 t t' := by
 obtain ⟨T, t', e, g, s, mv⟩ := ih t b hs hb
 exact ⟨T, t', call_d (arg4 h0 h1 hf hg) rfl e, g, s, mv⟩
theorem stat_c {n D C : Nat} {rho : List (Option S)} {f g : Sm MX S} {deep m : Int} {t : List MO} {b : Nat} (ih : St ns n m deep D C) (h0 : rho[0]? = some (some (.d (.scr ns)))) (h1 : rho[1]? = some (some (.d (.o 0)))) (hf : f ⟨rho, t⟩ = .ok (.d (.int deep)) ⟨rho, t⟩) (hg : g ⟨rho, t⟩ = .ok (.d (.int m)) ⟨rho, t⟩) (hs : Sb t b) (hb : b + C < 10000000000) :
  ∃ (A : Th) (t' : List MO), (eCall (mir n ._law_statement) (aCons (escf (eVar 0)) (aCons (escf (eVar 1)) (aCons (escf f) (aCons (escf g) aNil)))) : Sm MX S) ⟨rho, t⟩ = .ok (.d (enc A)) ⟨rho, t'⟩ ∧ (gS A m ∧ depth A ≤ D ∧ size A ≤ C) ∧ Sb t' (b + C) ∧ Mv 0 t t' := by
 obtain ⟨A, t', e, g, s, mv⟩ := ih t b hs hb
 exact ⟨A, t', call_d (arg4 h0 h1 hf hg) rfl e, g, s, mv⟩
theorem pick {g : Sm MX (List S)} {f : Sm MX S} {z : Z (List MO)} {i : Int} {xs : List D} {w : D} (h : (eLst g : Sm MX S) z = .ok (.l xs) z) (hf : f z = .ok (.d (.int i)) z) (hw : dIx (.lst xs) (.int i) = some (.d w)) : (eBin dIx (eLst g) f : Sm MX S) z = .ok (.d w) z := by
 unfold eBin kB opd
 rw [h]
 simp only [Rs.bind_ok, hf, rd, Option.bind_some, hw, fin, R.toS]
theorem st_leaf {n D C : Nat} {m deep r : Int} {t t1 : List MO} {b : Nat} (hL2 : ns.length < 1000) (hD : 3 ≤ D) (hC : 20 ≤ C) (h0 : 0 ≤ m) (h39 : m ≤ 39) (s1 : Sb t1 (b + 1)) (m1 : Mv 0 t t1) (hb : b + (2 * C + 1) < 10000000000) :
  ∃ (A : Th) (rho' : List (Option S)) (t' : List MO), (sSeq (sIf (tOf (eBin dEq (eBin dMod (eBin dFdiv (eVar 4) (eC (.int 11))) (eC (.int 4))) (eC (.int 0)))) (sRet (eTup (aCons (escf (eC (.str "no"))) aNil))) sNil)
  (sSeq (sIf (tOf (eBin dEq (eBin dMod (eBin dFdiv (eVar 4) (eC (.int 11))) (eC (.int 4))) (eC (.int 1)))) (sRet (eTup (aCons (escf (eC (.str "same"))) (aCons (escf (eCall (mir (n + 4) ._law_term) (aCons (escf (eVar 0)) (aCons (escf (eVar 1)) (aCons (escf (eC (.int 3))) (aCons (escf (eVar 3)) aNil)))))) (aCons (escf (eCall (mir (n + 4) ._law_term) (aCons (escf (eVar 0)) (aCons (escf (eVar 1)) (aCons (escf (eC (.int 2))) (aCons (escf (eVar 3)) aNil)))))) aNil))))) sNil)
  (sSeq (sSet 6 (eLc (iRg1M (aCons (opd (eBin dMod (eBin dFdiv (eVar 4) (eC (.int 44))) (eC (.int 4)))) aNil)) (kName 8) (fun z => .ok true z) (eCall (mir (n + 4) ._law_term) (aCons (escf (eVar 0)) (aCons (escf (eVar 1)) (aCons (escf (eC (.int 3))) (aCons (escf (eVar 3)) aNil))))) [8]))
  (sRet (eTup (aCons (escf (eC (.str "rel"))) (aCons (escf (eCall (mir (n + 4) ._law_name) (aCons (escf (eBin dFdiv (eVar 4) (eC (.int 176)))) aNil))) (aCons (escf (eFn fTuple (aCons (opd (eVar 6)) aNil))) aNil))))))) : Sm MX Out) (z9 ns deep m r (r % 11) none none t1) = .ok (.rt (.d (enc A))) ⟨rho', t'⟩ ∧ (gS A m ∧ depth A ≤ D + 1 ∧ size A ≤ 2 * C + 1) ∧ Sb t' (b + (2 * C + 1)) ∧ Mv 0 t t' := by
 have v4 : ∀ x t, (eVar 4 : Sm MX S) (z9 ns deep m r (r % 11) x none t) = .ok (.d (.int r)) (z9 ns deep m r (r % 11) x none t) := fun _ _ => rfl
 have v3 : ∀ x t, (eVar 3 : Sm MX S) (z9 ns deep m r (r % 11) x none t) = .ok (.d (.int m)) (z9 ns deep m r (r % 11) x none t) := fun _ _ => rfl
 have c2 := t_eq (modK (divK (v4 none t1) (j := 11) (by omega)) (j := 4) (by omega)) (rfl : (eC (.int 0) : Sm MX S) _ = .ok (.d (.int 0)) _)
 by_cases h2 : r / 11 % 4 = 0
 ·rw [decide_eq_true h2] at c2
  refine ⟨.no, (z9 ns deep m r (r % 11) none none t1).rho, t1, ?_, ⟨trivial, by rw [depth]; omega, by rw [size]; omega⟩, s1.up (by omega), m1⟩
  rw [enc]
  exact seq_rt ((if_T c2).trans (ret_d rfl))
 rw [decide_eq_false h2] at c2
 have c3 := t_eq (modK (divK (v4 none t1) (j := 11) (by omega)) (j := 4) (by omega)) (rfl : (eC (.int 1) : Sm MX S) _ = .ok (.d (.int 1)) _)
 by_cases h3 : r / 11 % 4 = 1
 ·rw [decide_eq_true h3] at c3
  obtain ⟨A, t2, ea, ga, s2, m2⟩ := term_c (rho := (z9 ns deep m r (r % 11) none none t1).rho) (tm_3 (n := n) (deep := 3) hL2 h0 (by omega) (by omega)) rfl rfl (rfl : (eC (.int 3) : Sm MX S) _ = .ok (.d (.int 3)) _) (v3 none t1) s1 (by omega)
  obtain ⟨B, t3, eb, gb, s3, m3⟩ := term_c (rho := (z9 ns deep m r (r % 11) none none t2).rho) (tm_2 (n := n + 1) (deep := 2) hL2 h0 (by omega) (by omega)) rfl rfl (rfl : (eC (.int 2) : Sm MX S) _ = .ok (.d (.int 2)) _) (v3 none t2) s2 (by omega)
  have a1 := ga.d
  have a2 := ga.s
  have a3 := gb.d
  have a4 := gb.s
  refine ⟨.same A B, (z9 ns deep m r (r % 11) none none t1).rho, t3, ?_, ⟨⟨ga.g, gb.g⟩, by rw [depth]; omega, by rw [size]; omega⟩, s3.up (by omega), m1.trans (m2.trans m3)⟩
  rw [enc]
  exact (seq_nx (if_F c2)).trans (seq_rt ((if_T c3).trans (ret_d (etup3 (rfl : (eC (.str "same") : Sm MX S) _ = .ok (.d (.str "same")) _) ea eb))))
 rw [decide_eq_false h3] at c3
 have it := rg_it (modK (divK (v4 none t1) (j := 44) (by omega)) (j := 4) (by omega)) (by omega) (by omega)
 obtain ⟨ts, t2, e2, l2, p2, s2, m2⟩ := draws (L := 3) (C := 13) (en := enc) (P := GT m 3 13) (i := 8) (e := eCall (mir (n + 4) ._law_term) (aCons (escf (eVar 0)) (aCons (escf (eVar 1)) (aCons (escf (eC (.int 3))) (aCons (escf (eVar 3)) aNil))))) it rfl (by rw [rangeD_len]; omega) (by omega) s1 (by omega) (fun d t b hs hb => by
  obtain ⟨T, t', e, g, s, mv⟩ := tm_3 (n := n) (m := m) (deep := 3) hL2 h0 (by omega) (by omega) t b hs hb
  refine ⟨T, t', ?_, g, s, mv⟩
  walk_at "ec"
  rw [e]
  walk_at "ec")
 have b2 : (sSet 6 (eLc (iRg1M (aCons (opd (eBin dMod (eBin dFdiv (eVar 4) (eC (.int 44))) (eC (.int 4)))) aNil)) (kName 8) (fun z => .ok true z) (eCall (mir (n + 4) ._law_term) (aCons (escf (eVar 0)) (aCons (escf (eVar 1)) (aCons (escf (eC (.int 3))) (aCons (escf (eVar 3)) aNil))))) [8]) : Sm MX Out) (z9 ns deep m r (r % 11) none none t1) = .ok .nx (z9 ns deep m r (r % 11) (some (.l (ts.map enc))) none t2) := set_l e2
 obtain ⟨f, hf, ef⟩ := name_c (n + 3) (divK (v4 (some (.l (ts.map enc))) t2) (j := 176) (by omega))
 obtain ⟨g1, g2, g3⟩ := gts_all p2
 have g4 := Nat.mul_le_mul_right 13 l2
 refine ⟨.rel f ts, (z9 ns deep m r (r % 11) (some (.l (ts.map enc))) none t1).rho, t2, ?_, ⟨⟨hf, g1⟩, by rw [depth]; omega, by rw [size]; omega⟩, s2.up (by omega), m1.trans m2⟩
 rw [enc, encs_map]
 exact (seq_nx (if_F c2)).trans ((seq_nx (if_F c3)).trans ((seq_nx b2).trans (ret_d (etup3 (rfl : (eC (.str "rel") : Sm MX S) _ = .ok (.d (.str "rel")) _) ef (eftup (i := 6) (xs := ts.map enc) rfl)))))
theorem st_step {n D C : Nat} {m deep : Int} (hL2 : ns.length < 1000) (hD : 3 ≤ D) (hC : 20 ≤ C) (h0 : 0 ≤ m) (h39 : m ≤ 39) (ih : 2 ≤ deep → ∀ m' : Int, 0 ≤ m' → m' ≤ m + 1 → St ns (n + 4) m' (deep - 1) D C) : St ns (n + 5) m deep (D + 1) (2 * C + 1) := by
 intro t b hs hb
 obtain ⟨r, t1, e1, s1, m1, r0, r1⟩ := cell_c (rho := [some (.d (.scr ns)), some (.d (.o 0)), some (.d (.int deep)), some (.d (.int m)), none, none, none, none, none]) hL2 (n + 3) rfl rfl hs (by omega)
 have b1 : (sSet 4 (eCall (mir (n + 4) ._law_cell) (aCons (escf (eVar 0)) (aCons (escf (eVar 1)) aNil))) : Sm MX Out) ⟨[some (.d (.scr ns)), some (.d (.o 0)), some (.d (.int deep)), some (.d (.int m)), none, none, none, none, none], t⟩ = .ok .nx ⟨[some (.d (.scr ns)), some (.d (.o 0)), some (.d (.int deep)), some (.d (.int m)), some (.d (.int r)), none, none, none, none], t1⟩ := set_d e1
 have b2 : (sSet 5 (eBin dMod (eVar 4) (eC (.int 11))) : Sm MX Out) ⟨[some (.d (.scr ns)), some (.d (.o 0)), some (.d (.int deep)), some (.d (.int m)), some (.d (.int r)), none, none, none, none], t1⟩ = .ok .nx (z9 ns deep m r (r % 11) none none t1) := set_d (modK (i := r) (j := 11) rfl (by omega))
 have v4 : ∀ x t, (eVar 4 : Sm MX S) (z9 ns deep m r (r % 11) none x t) = .ok (.d (.int r)) (z9 ns deep m r (r % 11) none x t) := fun _ _ => rfl
 have v5 : ∀ x t, (eVar 5 : Sm MX S) (z9 ns deep m r (r % 11) none x t) = .ok (.d (.int (r % 11))) (z9 ns deep m r (r % 11) none x t) := fun _ _ => rfl
 have v3 : ∀ x t, (eVar 3 : Sm MX S) (z9 ns deep m r (r % 11) none x t) = .ok (.d (.int m)) (z9 ns deep m r (r % 11) none x t) := fun _ _ => rfl
 have v2 : ∀ x t, (eVar 2 : Sm MX S) (z9 ns deep m r (r % 11) none x t) = .ok (.d (.int deep)) (z9 ns deep m r (r % 11) none x t) := fun _ _ => rfl
 have dp : ∀ x t, (eBin dSub (eVar 2) (eC (.int 1)) : Sm MX S) (z9 ns deep m r (r % 11) none x t) = .ok (.d (.int (deep - 1))) (z9 ns deep m r (r % 11) none x t) := fun x t => ebin_ok (v2 x t) rfl (dSub_i _ _)
 have c1 := tor (t_lt (v2 none t1) (rfl : (eC (.int 2) : Sm MX S) _ = .ok (.d (.int 2)) _)) (t_gt (v5 none t1) (rfl : (eC (.int 6) : Sm MX S) _ = .ok (.d (.int 6)) _))
 by_cases hc : (decide (deep < 2) || decide (6 < r % 11)) = true
 ·rw [hc] at c1
  obtain ⟨A, rho', t', e, g, s, mv⟩ := st_leaf (n := n) (deep := deep) (r := r) hL2 hD hC h0 h39 s1 m1 hb
  refine ⟨A, t', ?_, g, s, mv⟩
  show fnM 9 (m__law_statement (mir (n + 4))) [.d (.scr ns), .d (.o 0), .d (.int deep), .d (.int m)] t = _
  exact fnM_d (M := MX) ((seq_nx b1).trans ((seq_nx b2).trans (seq_rt ((if_T c1).trans e))))
 rw [Bool.eq_false_iff.mpr hc] at c1
 rw [Bool.or_eq_true, decide_eq_true_eq, decide_eq_true_eq] at hc
 have ih := ih (by omega)
 have r11 : 0 ≤ r % 11 := by omega
 have c4 := t_lt (v5 none t1) (rfl : (eC (.int 2) : Sm MX S) _ = .ok (.d (.int 2)) _)
 by_cases h4 : r % 11 < 2
 ·rw [decide_eq_true h4] at c4
  obtain ⟨f, hf, ef⟩ := name_c (n + 3) (divK (v4 none t1) (j := 11) (by omega))
  obtain ⟨A, t2, ea, ⟨g1, g2, g3⟩, s2, m2⟩ := stat_c (rho := (z9 ns deep m r (r % 11) none none t1).rho) (f := eBin dSub (eVar 2) (eC (.int 1))) (g := eBin dAdd (eVar 3) (eC (.int 1))) (ih (m + 1) (by omega) (by omega)) rfl rfl (dp none t1) (ebin_ok (v3 none t1) rfl (dAdd_i _ _)) s1 (by omega)
  have fin : ∀ (w : Str) (X : Th), enc X = .tup [.str w, .str f, enc A] → dIx (.lst [.str "all", .str "some"]) (.int (r % 11)) = some (.d (.str w)) → gS X m → depth X = 1 + depth A → size X = 1 + size A → ∃ (X : Th) (t' : List MO), mir (n + 5) ._law_statement [.d (.scr ns), .d (.o 0), .d (.int deep), .d (.int m)] t = .ok (.d (enc X)) t' ∧ (gS X m ∧ depth X ≤ D + 1 ∧ size X ≤ 2 * C + 1) ∧ Sb t' (b + (2 * C + 1)) ∧ Mv 0 t t' := fun w X q1 q2 q3 q4 q5 => by
   refine ⟨X, t2, ?_, ⟨q3, by omega, by omega⟩, s2.up (by omega), m1.trans m2⟩
   have pk : (eBin dIx (eLst (aCons (escf (eC (.str "all"))) (aCons (escf (eC (.str "some"))) aNil))) (eVar 5) : Sm MX S) (z9 ns deep m r (r % 11) none none t1) = .ok (.d (.str w)) (z9 ns deep m r (r % 11) none none t1) := pick rfl (v5 none t1) q2
   rw [q1]
   show fnM 9 (m__law_statement (mir (n + 4))) [.d (.scr ns), .d (.o 0), .d (.int deep), .d (.int m)] t = _
   exact fnM_d (M := MX) ((seq_nx b1).trans ((seq_nx b2).trans ((seq_nx (if_F c1)).trans (seq_rt ((if_T c4).trans (ret_d (etup3 pk ef ea)))))))
  have h5 : r % 11 = 0 ∨ r % 11 = 1 := by omega
  rcases h5 with h5 | h5
  ·exact fin "all" (.all f A) (by rw [enc]) (by rw [h5]; kernel_rfl) ⟨hf, h0, by omega, g1⟩ (by rw [depth]) (by rw [size])
  ·exact fin "some" (.some f A) (by rw [enc]) (by rw [h5]; kernel_rfl) ⟨hf, h0, by omega, g1⟩ (by rw [depth]) (by rw [size])
 rw [decide_eq_false h4] at c4
 obtain ⟨A, t2, ea, ⟨g1, g2, g3⟩, s2, m2⟩ := stat_c (rho := (z9 ns deep m r (r % 11) none none t1).rho) (f := eBin dSub (eVar 2) (eC (.int 1))) (g := eVar 3) (ih m (by omega) (by omega)) rfl rfl (dp none t1) (v3 none t1) s1 (by omega)
 have b3 : (sSet 7 (eCall (mir (n + 4) ._law_statement) (aCons (escf (eVar 0)) (aCons (escf (eVar 1)) (aCons (escf (eBin dSub (eVar 2) (eC (.int 1)))) (aCons (escf (eVar 3)) aNil))))) : Sm MX Out) (z9 ns deep m r (r % 11) none none t1) = .ok .nx (z9 ns deep m r (r % 11) none (some (.d (enc A))) t2) := set_d ea
 have v7 : ∀ t, (eVar 7 : Sm MX S) (z9 ns deep m r (r % 11) none (some (.d (enc A))) t) = .ok (.d (enc A)) (z9 ns deep m r (r % 11) none (some (.d (enc A))) t) := fun _ => rfl
 have c5 := t_eq (v5 (some (.d (enc A))) t2) (rfl : (eC (.int 2) : Sm MX S) _ = .ok (.d (.int 2)) _)
 by_cases h5 : r % 11 = 2
 ·rw [decide_eq_true h5] at c5
  refine ⟨.imp A .no, t2, ?_, ⟨⟨g1, trivial⟩, by rw [depth, depth]; omega, by rw [size, size]; omega⟩, s2.up (by omega), m1.trans m2⟩
  rw [enc, enc]
  show fnM 9 (m__law_statement (mir (n + 4))) [.d (.scr ns), .d (.o 0), .d (.int deep), .d (.int m)] t = _
  exact fnM_d (M := MX) ((seq_nx b1).trans ((seq_nx b2).trans ((seq_nx (if_F c1)).trans ((seq_nx (if_F c4)).trans ((seq_nx b3).trans (seq_rt ((if_T c5).trans (ret_d (etup3 (rfl : (eC (.str "if") : Sm MX S) _ = .ok (.d (.str "if")) _) (v7 t2) (rfl : (eTup (aCons (escf (eC (.str "no"))) aNil) : Sm MX S) _ = .ok (.d (.tup [.str "no"])) _))))))))))
 rw [decide_eq_false h5] at c5
 obtain ⟨B, t3, eb, ⟨k1, k2, k3⟩, s3, m3⟩ := stat_c (rho := (z9 ns deep m r (r % 11) none (some (.d (enc A))) t2).rho) (f := eBin dSub (eVar 2) (eC (.int 1))) (g := eVar 3) (ih m (by omega) (by omega)) rfl rfl (dp _ t2) (v3 _ t2) s2 (by omega)
 have sb := ebin_ok (v5 (some (.d (enc A))) t2) (rfl : (eC (.int 3) : Sm MX S) _ = .ok (.d (.int 3)) _) (dSub_i (r % 11) 3)
 have fin : ∀ (w : Str) (X : Th), enc X = .tup [.str w, enc A, enc B] → dIx (.lst [.str "and", .str "or", .str "if", .str "if"]) (.int (r % 11 - 3)) = some (.d (.str w)) → gS X m → depth X = 1 + max (depth A) (depth B) → size X = 1 + (size A + size B) → ∃ (X : Th) (t' : List MO), mir (n + 5) ._law_statement [.d (.scr ns), .d (.o 0), .d (.int deep), .d (.int m)] t = .ok (.d (enc X)) t' ∧ (gS X m ∧ depth X ≤ D + 1 ∧ size X ≤ 2 * C + 1) ∧ Sb t' (b + (2 * C + 1)) ∧ Mv 0 t t' := fun w X q1 q2 q3 q4 q5 => by
  refine ⟨X, t3, ?_, ⟨q3, by omega, by omega⟩, s3.up (by omega), m1.trans (m2.trans m3)⟩
  have pk : (eBin dIx (eLst (aCons (escf (eC (.str "and"))) (aCons (escf (eC (.str "or"))) (aCons (escf (eC (.str "if"))) (aCons (escf (eC (.str "if"))) aNil))))) (eBin dSub (eVar 5) (eC (.int 3))) : Sm MX S) (z9 ns deep m r (r % 11) none (some (.d (enc A))) t2) = .ok (.d (.str w)) (z9 ns deep m r (r % 11) none (some (.d (enc A))) t2) := pick rfl sb q2
  rw [q1]
  show fnM 9 (m__law_statement (mir (n + 4))) [.d (.scr ns), .d (.o 0), .d (.int deep), .d (.int m)] t = _
  exact fnM_d (M := MX) ((seq_nx b1).trans ((seq_nx b2).trans ((seq_nx (if_F c1)).trans ((seq_nx (if_F c4)).trans ((seq_nx b3).trans ((seq_nx (if_F c5)).trans (ret_d (etup3 pk (v7 t2) eb))))))))
 have h6 : r % 11 = 3 ∨ r % 11 = 4 ∨ r % 11 = 5 ∨ r % 11 = 6 := by omega
 rcases h6 with h6 | h6 | h6 | h6
 ·exact fin "and" (.and A B) (by rw [enc]) (by rw [h6]; kernel_rfl) ⟨g1, k1⟩ (by rw [depth]) (by rw [size])
 ·exact fin "or" (.or A B) (by rw [enc]) (by rw [h6]; kernel_rfl) ⟨g1, k1⟩ (by rw [depth]) (by rw [size])
 ·exact fin "if" (.imp A B) (by rw [enc]) (by rw [h6]; kernel_rfl) ⟨g1, k1⟩ (by rw [depth]) (by rw [size])
 ·exact fin "if" (.imp A B) (by rw [enc]) (by rw [h6]; kernel_rfl) ⟨g1, k1⟩ (by rw [depth]) (by rw [size])
theorem st_1 {n : Nat} {m deep : Int} (hL2 : ns.length < 1000) (h0 : 0 ≤ m) (h : m ≤ 38) (hd : deep ≤ 1) : St ns (n + 5) m deep 4 41 := st_step (D := 3) (C := 20) hL2 (by omega) (by omega) h0 (by omega) (fun q => absurd q (by omega))
theorem st_2 {n : Nat} {m deep : Int} (hL2 : ns.length < 1000) (h0 : 0 ≤ m) (h : m ≤ 37) (hd : deep ≤ 2) : St ns (n + 6) m deep 5 83 := st_step (D := 4) (C := 41) hL2 (by omega) (by omega) h0 (by omega) (fun _ m' a b => st_1 hL2 a (by omega) (by omega))
theorem st_3 {n : Nat} {m deep : Int} (hL2 : ns.length < 1000) (h0 : 0 ≤ m) (h : m ≤ 36) (hd : deep ≤ 3) : St ns (n + 7) m deep 6 167 := st_step (D := 5) (C := 83) hL2 (by omega) (by omega) h0 (by omega) (fun _ m' a b => st_2 hL2 a (by omega) (by omega))
theorem st_4 {n : Nat} {m deep : Int} (hL2 : ns.length < 1000) (h0 : 0 ≤ m) (h : m ≤ 35) (hd : deep ≤ 4) : St ns (n + 8) m deep 7 335 := st_step (D := 6) (C := 167) hL2 (by omega) (by omega) h0 (by omega) (fun _ m' a b => st_3 hL2 a (by omega) (by omega))
theorem st_5 {n : Nat} {m deep : Int} (hL2 : ns.length < 1000) (h0 : 0 ≤ m) (h : m ≤ 34) (hd : deep ≤ 5) : St ns (n + 9) m deep 8 671 := st_step (D := 7) (C := 335) hL2 (by omega) (by omega) h0 (by omega) (fun _ m' a b => st_4 hL2 a (by omega) (by omega))
theorem st_6 {n : Nat} {m deep : Int} (hL2 : ns.length < 1000) (h0 : 0 ≤ m) (h : m ≤ 33) (hd : deep ≤ 6) : St ns (n + 10) m deep 9 1343 := st_step (D := 8) (C := 671) hL2 (by omega) (by omega) h0 (by omega) (fun _ m' a b => st_5 hL2 a (by omega) (by omega))
end
theorem for_list {kk : D → Z (List MO) → Option (Z (List MO))} {b : Sm MX Out} (Inv : Z (List MO) → Prop) : ∀ (ds : List D) (z : Z (List MO)), (∀ d ∈ ds, ∀ z, Inv z → ∃ z1 z2, kk d z = some z1 ∧ b z1 = .ok .nx z2 ∧ Inv z2) → Inv z → ∃ z', forL (M := MX) kk b ds z = .ok .nx z' ∧ Inv z'
 | [], z, _, hi => ⟨z, rfl, hi⟩
 | d :: r, z, step, hi => by
  obtain ⟨z1, z2, e1, e2, i2⟩ := step d List.mem_cons_self z hi
  obtain ⟨z', e, i3⟩ := for_list Inv r z2 (fun x hx => step x (List.mem_cons_of_mem _ hx)) i2
  refine ⟨z', ?_, i3⟩
  conv => lhs; unfold forL
  simp only [e1]
  rw [e2]
  exact e
theorem sfor_ok {its : Sm MX (List D)} {kk : D → Z (List MO) → Option (Z (List MO))} {b : Sm MX Out} {z z1 : Z (List MO)} {ds : List D} (Inv : Z (List MO) → Prop) (h : its z = .ok ds z1) (hi : Inv z1) (step : ∀ d ∈ ds, ∀ z, Inv z → ∃ z1 z2, kk d z = some z1 ∧ b z1 = .ok .nx z2 ∧ Inv z2) : ∃ z', sFor its kk b z = .ok .nx z' ∧ Inv z' := by
 obtain ⟨z', e, i⟩ := for_list Inv ds z1 step hi
 refine ⟨z', ?_, i⟩
 unfold sFor
 rw [h, Rs.bind_ok]
 exact e
theorem dNe_self {x : Str} (h : PyData.strOk x = true) : dNe (.str x) (.str x) = some (.d (.bl false)) := by
 unfold dNe
 rw [if_pos (by simp [eqOk, lay, h, dep]), eqD_str]
 simp
theorem t_same {f g : Sm MX S} {z z1 z2 : Z (List MO)} {x : Str} (hf : f z = .ok (.d (.str x)) z1) (hg : g z1 = .ok (.d (.str x)) z2) (h : PyData.strOk x = true) : (tOf (eBin dNe f g) : Sm MX Bool) z = .ok false z2 := by
 unfold tOf; rw [ebin_ok hf hg (dNe_self h)]; rfl
theorem acons2 {f g : Sm MX S} {z z1 z2 : Z (List MO)} {a b : D} (hf : f z = .ok (.d a) z1) (hg : g z1 = .ok (.d b) z2) : (aCons (escf f) (aCons (escf g) aNil) : Sm MX (List S)) z = .ok [.d a, .d b] z2 := by
 have e : ∀ z, aCons (escf f) (aCons (escf g) aNil) z = (escf f z).bind (kA (aCons (escf g) aNil)) := fun z => rfl
 rw [e]
 unfold escf
 rw [hf]
 simp only [Rs.bind_ok, escS, kA]
 have e : ∀ z, aCons (escf g) aNil z = (escf g z).bind (kA aNil) := fun z => rfl
 have e := e z1
 unfold escf at e
 rw [hg] at e
 simp only [Rs.bind_ok, escS, kA, aNil] at e
 rw [e]
 rfl
theorem acons3 {f g h : Sm MX S} {z z1 z2 z3 : Z (List MO)} {a b c : D} (hf : f z = .ok (.d a) z1) (hg : g z1 = .ok (.d b) z2) (hh : h z2 = .ok (.d c) z3) : (aCons (escf f) (aCons (escf g) (aCons (escf h) aNil)) : Sm MX (List S)) z = .ok [.d a, .d b, .d c] z3 := by
 have e : ∀ z, aCons (escf f) (aCons (escf g) (aCons (escf h) aNil)) z = (escf f z).bind (kA (aCons (escf g) (aCons (escf h) aNil))) := fun z => rfl
 rw [e]
 unfold escf
 rw [hf]
 simp only [Rs.bind_ok, escS, kA]
 have e := acons2 hg hh
 unfold escf at e
 rw [e]
 rfl
noncomputable abbrev CL : Fn → List S → (List MO) → Rs S (List MO) := mir lawLevel
noncomputable def wz (ns : List Int) (m : Int) (T A : Th) (x2 x3 x7 x8 x9 : Option S) (t : List MO) : Z (List MO) := ⟨[some (.d (.scr ns)), some (.d (.o 0)), x2, x3, some (.d (.int m)), some (.d (enc T)), some (.d (enc A)), x7, x8, x9, none], t⟩
theorem Sb.mv {t t' : List MO} {q b : Nat} (h : Sb t b) (mv : Mv q t t') (hq : 0 < q) : Sb t' b := by
 obtain ⟨k, h1, h2⟩ := h
 refine ⟨k, ?_, h2⟩
 unfold Sp at h1 ⊢
 rw [mv.1 0 (by omega) (List.getElem?_eq_some_iff.mp h1).1]
 exact h1
theorem Sb.pos {t : List MO} {b : Nat} (h : Sb t b) : 0 < t.length := by
 obtain ⟨k, h1, h2⟩ := h
 exact (List.getElem?_eq_some_iff.mp h1).1
theorem Sb.app {t e : List MO} {b : Nat} (h : Sb t b) : Sb (t ++ e) b := by
 obtain ⟨k, h1, h2⟩ := h
 refine ⟨k, ?_, h2⟩
 unfold Sp at h1 ⊢
 rw [List.getElem?_append_left (List.getElem?_eq_some_iff.mp h1).1]
 exact h1
theorem Sb.fr {t t' : List MO} {b : Nat} (h : Sb t b) (f : Fr t.length t t') : Sb t' b := by
 have l := h.pos
 obtain ⟨k, h1, h2⟩ := h
 refine ⟨k, ?_, h2⟩
 unfold Sp at h1 ⊢
 rw [f.1 0 l]
 exact h1
theorem txt_ok {A : Th} {m : Int} {rs : List Int} (h : gS A m) : PyData.strOk (sc (cds (ltx A m rs).1)) = true := by
 have g := (ltx_ok A m rs h).g [] trivial rfl
 rw [List.append_nil] at g
 exact strOk_sc (good_lt g)
theorem txtT_ok {T : Th} {m : Int} (h : gT m T) : PyData.strOk (txT m T) = true := by
 have g := good_T (q := []) trivial rfl h
 rw [List.append_nil] at g
 exact strOk_sc (good_lt g)
section
variable {ns : List Int} {m : Int} {T A : Th} {x2 x3 x7 x8 x9 : Option S} {t : List MO} {b : Nat}
theorem c_tt (f : Fn) (h : f = .term_text ∨ f = ._law_term_text) (g : gT m T) (hd : depth T ≤ 40) (hs : size T ≤ 400) : (eCall (CL f) (aCons (escf (eVar 5)) (aCons (escf (eVar 4)) aNil)) : Sm MX S) (wz ns m T A x2 x3 x7 x8 x9 t) = .ok (.d (.str (txT m T))) (wz ns m T A x2 x3 x7 x8 x9 t) := by
 have e : CL f [.d (enc T), .d (.int m)] t = .ok (.d (.str (txT m T))) t := by
  rcases h with rfl | rfl
  ·exact term_text_ok m t 40 T hd g (by omega) 120
  ·exact _law_term_text_ok m t 40 T hd g (by omega) 120
 exact call_d (acons2 (f := eVar 5) (g := eVar 4) (z := wz ns m T A x2 x3 x7 x8 x9 t) rfl rfl) rfl e
theorem c_st (g : gS A m) (hd : depth A ≤ 40) (hs : size A ≤ 400) : (eCall (CL .statement_text) (aCons (escf (eVar 6)) (aCons (escf (eVar 4)) aNil)) : Sm MX S) (wz ns m T A x2 x3 x7 x8 x9 t) = .ok (.d (.str (sc (cds (ltx A m []).1)))) (wz ns m T A x2 x3 x7 x8 x9 t) :=
 call_d (acons2 (f := eVar 6) (g := eVar 4) (z := wz ns m T A x2 x3 x7 x8 x9 t) rfl rfl) rfl (statement_ok t 40 A m hd g (by omega) 116)
theorem c_lt {f : Sm MX S} {z1 : List MO} {q : Nat} {rs : List Int} (hf : f (wz ns m T A x2 x3 x7 x8 x9 t) = .ok (.d (.o q)) (wz ns m T A x2 x3 x7 x8 x9 z1)) (hr : Mr z1 q rs) (g : gS A m) (hd : depth A ≤ 40) (hs : size A ≤ 400) : ∃ t', (eCall (CL ._law_text) (aCons (escf (eVar 6)) (aCons (escf (eVar 4)) (aCons (escf f) aNil))) : Sm MX S) (wz ns m T A x2 x3 x7 x8 x9 t) = .ok (.d (.str (sc (cds (ltx A m rs).1)))) (wz ns m T A x2 x3 x7 x8 x9 t') ∧ Mv q z1 t' := by
 obtain ⟨t', e, _, mv⟩ := lt_ok 40 A m hd g (by omega) 116 z1 q rs hr
 exact ⟨t', call_d (acons3 (f := eVar 6) (g := eVar 4) (z := wz ns m T A x2 x3 x7 x8 x9 t) rfl rfl hf) rfl e, mv⟩
theorem two_ok (hT : gT m T) (dT : depth T ≤ 40) (sT : size T ≤ 400) (hA : gS A m) (dA : depth A ≤ 40) (sA : size A ≤ 400) (hs : Sb t b) : ∃ (x7' : Option S) (t' : List MO), (sFor (iRg1M (aCons (opd (eC (.int 2))) aNil)) (kName 7) (sSeq (sIf (tOf (eBin dNe (eCall (CL .term_text) (aCons (escf (eVar 5)) (aCons (escf (eVar 4)) aNil))) (eCall (CL ._law_term_text) (aCons (escf (eVar 5)) (aCons (escf (eVar 4)) aNil))))) (sRet (eC (.bl false))) sNil)
  (sIf (tOf (eBin dNe (eCall (CL .statement_text) (aCons (escf (eVar 6)) (aCons (escf (eVar 4)) aNil))) (eCall (CL ._law_text) (aCons (escf (eVar 6)) (aCons (escf (eVar 4)) (aCons (escf (eNewL aNil)) aNil)))))) (sRet (eC (.bl false))) sNil)) : Sm MX Out) (wz ns m T A x2 x3 x7 x8 x9 t) = .ok .nx (wz ns m T A x2 x3 x7' x8 x9 t') ∧ Sb t' b := by
 obtain ⟨z', e, y, t', rfl, s⟩ := sfor_ok (its := iRg1M (aCons (opd (eC (.int 2))) aNil)) (kk := kName (M := MX) 7) (b := sSeq (sIf (tOf (eBin dNe (eCall (CL .term_text) (aCons (escf (eVar 5)) (aCons (escf (eVar 4)) aNil))) (eCall (CL ._law_term_text) (aCons (escf (eVar 5)) (aCons (escf (eVar 4)) aNil))))) (sRet (eC (.bl false))) sNil)
  (sIf (tOf (eBin dNe (eCall (CL .statement_text) (aCons (escf (eVar 6)) (aCons (escf (eVar 4)) aNil))) (eCall (CL ._law_text) (aCons (escf (eVar 6)) (aCons (escf (eVar 4)) (aCons (escf (eNewL aNil)) aNil)))))) (sRet (eC (.bl false))) sNil)) (fun z => ∃ y t', z = wz ns m T A x2 x3 y x8 x9 t' ∧ Sb t' b) (rg_it (z := wz ns m T A x2 x3 x7 x8 x9 t) (k := 2) rfl (by omega) (by omega)) ⟨x7, t, rfl, hs⟩ (fun d _ z hz => by
  obtain ⟨y, t, rfl, hs⟩ := hz
  have q1 := t_same (c_tt (ns := ns) (A := A) (x2 := x2) (x3 := x3) (x7 := some (.d d)) (x8 := x8) (x9 := x9) (t := t) .term_text (.inl rfl) hT dT sT) (c_tt ._law_term_text (.inr rfl) hT dT sT) (txtT_ok hT)
  obtain ⟨t', e, mv⟩ := c_lt (ns := ns) (T := T) (x2 := x2) (x3 := x3) (x7 := some (.d d)) (x8 := x8) (x9 := x9) (t := t) (f := eNewL aNil) (z1 := t ++ [.lst []]) (q := t.length) (rs := []) rfl (by unfold Mr; exact getlast) hA dA sA
  have q2 := t_same (c_st hA dA sA) e (txt_ok hA)
  have p := hs.pos
  exact ⟨_, _, rfl, (seq_nx (if_F q1)).trans (if_f q2), some (.d d), t', rfl, (hs.app).mv mv p⟩)
 exact ⟨y, t', e, s⟩
end
theorem nx {f g : Sm MX Out} {z z1 : Z (List MO)} (h : f z = .ok .nx z1) : sSeq f g z = g z1 := seq_nx (M := MX) h
theorem escf_d {f : Sm MX S} {z z1 : Z (List MO)} {a : D} (h : f z = .ok (.d a) z1) : escf f z = .ok (.d a) z1 := by
 unfold escf; rw [h]; rfl
theorem seq_ct {f g : Sm MX Out} {z z1 : Z (List MO)} (h : f z = .ok .ct z1) : sSeq f g z = .ok .ct z1 := by
 unfold sSeq; rw [h]; rfl
section
variable {ns : List Int} {m : Int} {T A : Th} {x2 x3 x7 x8 x9 : Option S} {t : List MO} {b : Nat}
theorem sto_ok (hL2 : ns.length < 1000) (hs : Sb t b) (hb : b + 40 < 10000000000) : ∃ (q : Nat) (rs : List Int) (t' : List MO), (eSto (eLc (iRg1M (aCons (opd (eC (.int 40))) aNil)) (kName 10) (fun z => .ok true z) (eCall (CL ._law_cell) (aCons (escf (eVar 0)) (aCons (escf (eVar 1)) aNil))) [10]) : Sm MX S) (wz ns m T A x2 x3 x7 x8 x9 t) = .ok (.d (.o q)) (wz ns m T A x2 x3 x7 x8 x9 t') ∧ Mr t' q rs ∧ 0 < q ∧ Sb t' (b + 40) := by
 obtain ⟨xs, t', e, l, _, s, mv⟩ := draws (L := 40) (C := 1) (en := D.int) (P := fun _ => True) (i := 10) (e := eCall (CL ._law_cell) (aCons (escf (eVar 0)) (aCons (escf (eVar 1)) aNil))) (rg_it (f := eC (.int 40)) (z := wz ns m T A x2 x3 x7 x8 x9 t) (k := 40) rfl (by omega) (by omega)) rfl (by rw [rangeD_len]; decide) (by omega) hs hb (fun d t b hs hb => by
  obtain ⟨r, t', e, s, mv, _, _⟩ := cell_c (rho := (wz ns m T A x2 x3 x7 x8 x9 t).rho.set 10 (some (.d d))) hL2 199 rfl rfl hs (by omega)
  exact ⟨r, t', escf_d e, trivial, s, mv⟩)
 refine ⟨t'.length, xs.reverse, t' ++ [.lst (xs.map D.int)], ?_, ?_, s.pos, s.app⟩
 ·unfold eSto
  rw [e]
  rfl
 ·unfold Mr
  rw [List.reverse_reverse]
  exact getlast
theorem reads_ok (hA : gS A m) (dA : depth A ≤ 40) (sA : size A ≤ 400) (hs : Sb t b) {rs : List Int} (h8 : x8 = some (.d (.str (sc (cds (ltx A m rs).1))))) : ∃ (x9' : Option S) (t' : List MO), (sFor (iAnyM (eTup (aCons (escf (eCall (CL .statement_text) (aCons (escf (eVar 6)) (aCons (escf (eVar 4)) aNil)))) (aCons (escf (eVar 8)) aNil)))) (kName 9) (sIf (tOf (eBin dNe (eFn fReprE (aCons (opd (eCall (CL .read_statement) (aCons (escf (eVar 9)) (aCons (escf (eVar 4)) aNil)))) aNil)) (eFn fReprE (aCons (opd (eVar 6)) aNil)))) (sRet (eC (.bl false))) sNil) : Sm MX Out) (wz ns m T A x2 x3 x7 x8 x9 t) = .ok .nx (wz ns m T A x2 x3 x7 x8 x9' t') ∧ Sb t' b := by
 have it : (iAnyM (eTup (aCons (escf (eCall (CL .statement_text) (aCons (escf (eVar 6)) (aCons (escf (eVar 4)) aNil)))) (aCons (escf (eVar 8)) aNil))) : Sm MX (List D)) (wz ns m T A x2 x3 x7 x8 x9 t) = .ok [.str (sc (cds (ltx A m []).1)), .str (sc (cds (ltx A m rs).1))] (wz ns m T A x2 x3 x7 x8 x9 t) := by
  have v8 : (eVar 8 : Sm MX S) (wz ns m T A x2 x3 x7 x8 x9 t) = .ok (.d (.str (sc (cds (ltx A m rs).1)))) (wz ns m T A x2 x3 x7 x8 x9 t) := by
   rw [h8]; rfl
  have e := etup2 (c_st (ns := ns) (T := T) (x2 := x2) (x3 := x3) (x7 := x7) (x8 := x8) (x9 := x9) (t := t) hA dA sA) v8
  unfold iAnyM escf at *
  rw [e]
  rfl
 obtain ⟨z', e, y, t', rfl, s⟩ := sfor_ok (kk := kName (M := MX) 9) (b := sIf (tOf (eBin dNe (eFn fReprE (aCons (opd (eCall (CL .read_statement) (aCons (escf (eVar 9)) (aCons (escf (eVar 4)) aNil)))) aNil)) (eFn fReprE (aCons (opd (eVar 6)) aNil)))) (sRet (eC (.bl false))) sNil) (fun z => ∃ y t', z = wz ns m T A x2 x3 x7 x8 y t' ∧ Sb t' b) it ⟨x9, t, rfl, hs⟩ (fun d hd z hz => by
  obtain ⟨y, t, rfl, hs⟩ := hz
  obtain ⟨ks, rfl⟩ : ∃ ks, d = .str (sc (cds (ltx A m ks).1)) := by
   rcases List.mem_cons.mp hd with rfl | hd
   ·exact ⟨[], rfl⟩
   ·rcases List.mem_cons.mp hd with rfl | hd
    ·exact ⟨rs, rfl⟩
    ·cases hd
  obtain ⟨t', e, f⟩ := read_statement_ok 188 (t := t) (rs := ks) hA sA dA
  obtain ⟨r1, r2⟩ := rep_ok (gS_sm hA) sA dA
  have ec : (eCall (CL .read_statement) (aCons (escf (eVar 9)) (aCons (escf (eVar 4)) aNil)) : Sm MX S) (wz ns m T A x2 x3 x7 x8 (some (.d (.str (sc (cds (ltx A m ks).1))))) t) = .ok (.d (enc A)) (wz ns m T A x2 x3 x7 x8 (some (.d (.str (sc (cds (ltx A m ks).1))))) t') := call_d (acons2 (f := eVar 9) (g := eVar 4) (z := wz ns m T A x2 x3 x7 x8 (some (.d (.str (sc (cds (ltx A m ks).1))))) t) rfl rfl) rfl e
  have q := t_same (efn1 ec r1) (efn1 (rfl : (eVar 6 : Sm MX S) _ = .ok (.d (enc A)) _) r1) r2
  exact ⟨_, _, rfl, if_f q, _, t', rfl, hs.fr f⟩)
 exact ⟨y, t', e, s⟩
theorem readt_ok (hT : gT m T) (dT : depth T ≤ 40) (sT : size T ≤ 400) (hs : Sb t b) : ∃ (t' : List MO), (sIf (tOf (eBin dNe (eFn fReprE (aCons (opd (eCall (CL .read_term) (aCons (escf (eCall (CL .term_text) (aCons (escf (eVar 5)) (aCons (escf (eVar 4)) aNil)))) (aCons (escf (eVar 4)) aNil)))) aNil)) (eFn fReprE (aCons (opd (eVar 5)) aNil)))) (sRet (eC (.bl false))) sNil : Sm MX Out) (wz ns m T A x2 x3 x7 x8 x9 t) = .ok .nx (wz ns m T A x2 x3 x7 x8 x9 t') ∧ Sb t' b := by
 obtain ⟨t', e, f⟩ := read_term_ok 188 (t := t) hT sT dT
 obtain ⟨r1, r2⟩ := rep_ok (gT_sm hT) sT dT
 have ec : (eCall (CL .read_term) (aCons (escf (eCall (CL .term_text) (aCons (escf (eVar 5)) (aCons (escf (eVar 4)) aNil)))) (aCons (escf (eVar 4)) aNil)) : Sm MX S) (wz ns m T A x2 x3 x7 x8 x9 t) = .ok (.d (enc T)) (wz ns m T A x2 x3 x7 x8 x9 t') := call_d (acons2 (c_tt .term_text (.inl rfl) hT dT sT) (rfl : (eVar 4 : Sm MX S) _ = .ok (.d (.int m)) _)) rfl e
 have q := t_same (efn1 ec r1) (efn1 (rfl : (eVar 5 : Sm MX S) _ = .ok (.d (enc T)) _) r1) r2
 exact ⟨t', if_f q, hs.fr f⟩
end
noncomputable def lawB : Sm MX Out := (sSeq (sSet 3 (eCall (CL ._law_cell) (aCons (escf (eVar 0)) (aCons (escf (eVar 1)) aNil))))
  (sSeq (sSet 4 (eBin dMod (eVar 3) (eC (.int 4))))
  (sSeq (sSet 5 (eCall (CL ._law_term) (aCons (escf (eVar 0)) (aCons (escf (eVar 1)) (aCons (escf (eBin dAdd (eC (.int 1)) (eBin dMod (eBin dFdiv (eVar 3) (eC (.int 4))) (eC (.int 4))))) (aCons (escf (eVar 4)) aNil))))))
  (sSeq (sSet 6 (eCall (CL ._law_statement) (aCons (escf (eVar 0)) (aCons (escf (eVar 1)) (aCons (escf (eBin dAdd (eC (.int 1)) (eBin dMod (eBin dFdiv (eVar 3) (eC (.int 16))) (eC (.int 6))))) (aCons (escf (eVar 4)) aNil))))))
  (sSeq (sIf (tOrM (tOf (eBin dGt (eCall (CL ._law_size) (aCons (escf (eVar 6)) aNil)) (eC (.int 400)))) (tOf (eBin dGt (eCall (CL ._law_size) (aCons (escf (eVar 5)) aNil)) (eC (.int 400))))) (fun z => .ok .ct z) sNil)
  (sSeq (sFor (iRg1M (aCons (opd (eC (.int 2))) aNil)) (kName 7) (sSeq (sIf (tOf (eBin dNe (eCall (CL .term_text) (aCons (escf (eVar 5)) (aCons (escf (eVar 4)) aNil))) (eCall (CL ._law_term_text) (aCons (escf (eVar 5)) (aCons (escf (eVar 4)) aNil))))) (sRet (eC (.bl false))) sNil)
  (sIf (tOf (eBin dNe (eCall (CL .statement_text) (aCons (escf (eVar 6)) (aCons (escf (eVar 4)) aNil))) (eCall (CL ._law_text) (aCons (escf (eVar 6)) (aCons (escf (eVar 4)) (aCons (escf (eNewL aNil)) aNil)))))) (sRet (eC (.bl false))) sNil)))
  (sSeq (sSet 8 (eCall (CL ._law_text) (aCons (escf (eVar 6)) (aCons (escf (eVar 4)) (aCons (escf (eSto (eLc (iRg1M (aCons (opd (eC (.int 40))) aNil)) (kName 10) (fun z => .ok true z) (eCall (CL ._law_cell) (aCons (escf (eVar 0)) (aCons (escf (eVar 1)) aNil))) [10]))) aNil)))))
  (sSeq (sFor (iAnyM (eTup (aCons (escf (eCall (CL .statement_text) (aCons (escf (eVar 6)) (aCons (escf (eVar 4)) aNil)))) (aCons (escf (eVar 8)) aNil)))) (kName 9) (sIf (tOf (eBin dNe (eFn fReprE (aCons (opd (eCall (CL .read_statement) (aCons (escf (eVar 9)) (aCons (escf (eVar 4)) aNil)))) aNil)) (eFn fReprE (aCons (opd (eVar 6)) aNil)))) (sRet (eC (.bl false))) sNil))
  (sIf (tOf (eBin dNe (eFn fReprE (aCons (opd (eCall (CL .read_term) (aCons (escf (eCall (CL .term_text) (aCons (escf (eVar 5)) (aCons (escf (eVar 4)) aNil)))) (aCons (escf (eVar 4)) aNil)))) aNil)) (eFn fReprE (aCons (opd (eVar 5)) aNil)))) (sRet (eC (.bl false))) sNil)))))))))
theorem law_eq : m_law (mir lawLevel) = sSeq (sSet 1 (eNewL (aCons (escf (eC (.int 0))) aNil)))
  (sSeq (sFor (iRg1M (aCons (opd (eBin dAdd (eC (.int 2)) (eBin dFdiv (eFn fLen (aCons (opd (eVar 0)) aNil)) (eC (.int 6))))) aNil)) (kName 2) lawB)
  (sRet (eC (.bl true)))) := rfl
noncomputable def az (ns : List Int) (xs : List (Option S)) (t : List MO) : Z (List MO) := ⟨some (.d (.scr ns)) :: some (.d (.o 0)) :: (xs ++ [none]), t⟩
theorem turn_ok {ns : List Int} (hL2 : ns.length < 1000) {x2 x3 x4 x5 x6 x7 x8 x9 : Option S} {t : List MO} {b : Nat} (hs : Sb t b) (hb : b + 2000 < 10000000000) : ∃ (o : Out) (x3' x4' x5' x6' x7' x8' x9' : Option S) (t' : List MO), lawB (az ns [x2, x3, x4, x5, x6, x7, x8, x9] t) = .ok o (az ns [x2, x3', x4', x5', x6', x7', x8', x9'] t') ∧ (o = .nx ∨ o = .ct) ∧ Sb t' (b + 2000) := by
 obtain ⟨r, t1, e1, s1, m1, r0, r1⟩ := cell_c (rho := (az ns [x2, x3, x4, x5, x6, x7, x8, x9] t).rho) hL2 199 rfl rfl hs (by omega)
 have b1 : (sSet 3 (eCall (CL ._law_cell) (aCons (escf (eVar 0)) (aCons (escf (eVar 1)) aNil))) : Sm MX Out) (az ns [x2, x3, x4, x5, x6, x7, x8, x9] t) = .ok .nx (az ns [x2, some (.d (.int r)), x4, x5, x6, x7, x8, x9] t1) := set_d e1
 have b2 : (sSet 4 (eBin dMod (eVar 3) (eC (.int 4))) : Sm MX Out) (az ns [x2, some (.d (.int r)), x4, x5, x6, x7, x8, x9] t1) = .ok .nx (az ns [x2, some (.d (.int r)), some (.d (.int (r % 4))), x5, x6, x7, x8, x9] t1) := set_d (modK (i := r) (j := 4) rfl (by omega))
 obtain ⟨T, t2, e2, gT_, s2, m2⟩ := term_c (rho := (az ns [x2, some (.d (.int r)), some (.d (.int (r % 4))), x5, x6, x7, x8, x9] t1).rho) (t := t1) (f := eBin dAdd (eC (.int 1)) (eBin dMod (eBin dFdiv (eVar 3) (eC (.int 4))) (eC (.int 4)))) (g := eVar 4) (deep := 1 + r / 4 % 4) (m := r % 4) (tm_4 (n := 195) hL2 (by omega) (by omega) (by omega)) rfl rfl (ebin_ok rfl (modK (divK (i := r) (j := 4) rfl (by omega)) (by omega)) (dAdd_i _ _)) rfl s1 (by omega)
 have b3 : (sSet 5 (eCall (CL ._law_term) (aCons (escf (eVar 0)) (aCons (escf (eVar 1)) (aCons (escf (eBin dAdd (eC (.int 1)) (eBin dMod (eBin dFdiv (eVar 3) (eC (.int 4))) (eC (.int 4))))) (aCons (escf (eVar 4)) aNil))))) : Sm MX Out) (az ns [x2, some (.d (.int r)), some (.d (.int (r % 4))), x5, x6, x7, x8, x9] t1) = .ok .nx (az ns [x2, some (.d (.int r)), some (.d (.int (r % 4))), some (.d (enc T)), x6, x7, x8, x9] t2) := set_d e2
 obtain ⟨A, t3, e3, ⟨gA, dA, sA⟩, s3, m3⟩ := stat_c (rho := (az ns [x2, some (.d (.int r)), some (.d (.int (r % 4))), some (.d (enc T)), x6, x7, x8, x9] t2).rho) (t := t2) (f := eBin dAdd (eC (.int 1)) (eBin dMod (eBin dFdiv (eVar 3) (eC (.int 16))) (eC (.int 6)))) (g := eVar 4) (deep := 1 + r / 16 % 6) (m := r % 4) (st_6 (n := 190) hL2 (by omega) (by omega) (by omega)) rfl rfl (ebin_ok rfl (modK (divK (i := r) (j := 16) rfl (by omega)) (by omega)) (dAdd_i _ _)) rfl s2 (by omega)
 have b4 : (sSet 6 (eCall (CL ._law_statement) (aCons (escf (eVar 0)) (aCons (escf (eVar 1)) (aCons (escf (eBin dAdd (eC (.int 1)) (eBin dMod (eBin dFdiv (eVar 3) (eC (.int 16))) (eC (.int 6))))) (aCons (escf (eVar 4)) aNil))))) : Sm MX Out) (az ns [x2, some (.d (.int r)), some (.d (.int (r % 4))), some (.d (enc T)), x6, x7, x8, x9] t2) = .ok .nx (wz ns (r % 4) T A x2 (some (.d (.int r))) x7 x8 x9 t3) := set_d e3
 have dT := gT_.d
 have sT := gT_.s
 have z1 : (eCall (CL ._law_size) (aCons (escf (eVar 6)) aNil) : Sm MX S) (wz ns (r % 4) T A x2 (some (.d (.int r))) x7 x8 x9 t3) = .ok (.d (.int (size A : Nat))) (wz ns (r % 4) T A x2 (some (.d (.int r))) x7 x8 x9 t3) := call_d (ss := [.d (enc A)]) (t1 := t3) rfl rfl (size_ok t3 40 A (by omega) (by omega) 119)
 have z2 : (eCall (CL ._law_size) (aCons (escf (eVar 5)) aNil) : Sm MX S) (wz ns (r % 4) T A x2 (some (.d (.int r))) x7 x8 x9 t3) = .ok (.d (.int (size T : Nat))) (wz ns (r % 4) T A x2 (some (.d (.int r))) x7 x8 x9 t3) := call_d (ss := [.d (enc T)]) (t1 := t3) rfl rfl (size_ok t3 40 T (by omega) (by omega) 119)
 have c := tor (t_gt z1 (rfl : (eC (.int 400) : Sm MX S) _ = .ok (.d (.int 400)) _)) (t_gt z2 (rfl : (eC (.int 400) : Sm MX S) _ = .ok (.d (.int 400)) _))
 rw [decide_eq_false (show ¬ (400 : Int) < (size T : Nat) by omega), Bool.or_false] at c
 by_cases hA : (400 : Int) < (size A : Nat)
 ·rw [decide_eq_true hA] at c
  refine ⟨.ct, some (.d (.int r)), some (.d (.int (r % 4))), some (.d (enc T)), some (.d (enc A)), x7, x8, x9, t3, ?_, .inr rfl, s3.up (by omega)⟩
  unfold lawB
  refine (nx b1).trans ((nx b2).trans ((nx b3).trans ((nx b4).trans ?_)))
  exact seq_ct (if_T c)
 rw [decide_eq_false hA] at c
 obtain ⟨y7, t4, e5, s4⟩ := two_ok (x2 := x2) (x3 := some (.d (.int r))) (x7 := x7) (x8 := x8) (x9 := x9) (ns := ns) gT_.g (by omega) (by omega) gA (by omega) (by omega) s3
 obtain ⟨q, rs, t5, e6, r6, q6, s5⟩ := sto_ok (m := r % 4) (T := T) (A := A) (x2 := x2) (x3 := some (.d (.int r))) (x7 := y7) (x8 := x8) (x9 := x9) hL2 s4 (by omega)
 obtain ⟨t6, e7, m7⟩ := c_lt (ns := ns) (T := T) (x2 := x2) (x3 := some (.d (.int r))) (x7 := y7) (x8 := x8) (x9 := x9) (t := t4) e6 r6 gA (by omega) (by omega)
 have s6 := s5.mv m7 q6
 have b8 : (sSet 8 (eCall (CL ._law_text) (aCons (escf (eVar 6)) (aCons (escf (eVar 4)) (aCons (escf (eSto (eLc (iRg1M (aCons (opd (eC (.int 40))) aNil)) (kName 10) (fun z => .ok true z) (eCall (CL ._law_cell) (aCons (escf (eVar 0)) (aCons (escf (eVar 1)) aNil))) [10]))) aNil)))) : Sm MX Out) (wz ns (r % 4) T A x2 (some (.d (.int r))) y7 x8 x9 t4) = .ok .nx (wz ns (r % 4) T A x2 (some (.d (.int r))) y7 (some (.d (.str (sc (cds (ltx A (r % 4) rs).1))))) x9 t6) := set_d e7
 obtain ⟨y9, t7, e9, s7⟩ := reads_ok (ns := ns) (T := T) (x2 := x2) (x3 := some (.d (.int r))) (x7 := y7) (x9 := x9) gA (by omega) (by omega) s6 (rs := rs) rfl
 obtain ⟨t8, e10, s8⟩ := readt_ok (ns := ns) (A := A) (x2 := x2) (x3 := some (.d (.int r))) (x7 := y7) (x8 := some (.d (.str (sc (cds (ltx A (r % 4) rs).1))))) (x9 := y9) gT_.g (by omega) (by omega) s7
 refine ⟨.nx, some (.d (.int r)), some (.d (.int (r % 4))), some (.d (enc T)), some (.d (enc A)), y7, some (.d (.str (sc (cds (ltx A (r % 4) rs).1)))), y9, t8, ?_, .inl rfl, s8.up (by omega)⟩
 unfold lawB
 exact (nx b1).trans ((nx b2).trans ((nx b3).trans ((nx b4).trans ((nx (if_F c)).trans ((nx e5).trans ((nx b8).trans ((nx e9).trans e10)))))))
theorem turns_ok {ns : List Int} (hL2 : ns.length < 1000) : ∀ (ds : List D) (x2 x3 x4 x5 x6 x7 x8 x9 : Option S) (t : List MO) (b : Nat), Sb t b → b + ds.length * 2000 < 10000000000 → ∃ z', forL (M := MX) (kName 2) lawB ds (az ns [x2, x3, x4, x5, x6, x7, x8, x9] t) = .ok .nx z'
 | [], _, _, _, _, _, _, _, _, _, _, _, _ => ⟨_, rfl⟩
 | d :: r, x2, x3, x4, x5, x6, x7, x8, x9, t, b, hs, hb => by
  rw [List.length_cons] at hb
  obtain ⟨o, y3, y4, y5, y6, y7, y8, y9, t', e, ho, s⟩ := turn_ok (x2 := some (.d d)) (x3 := x3) (x4 := x4) (x5 := x5) (x6 := x6) (x7 := x7) (x8 := x8) (x9 := x9) hL2 hs (by omega)
  obtain ⟨z', e2⟩ := turns_ok hL2 r (some (.d d)) y3 y4 y5 y6 y7 y8 y9 t' (b + 2000) s (by omega)
  refine ⟨z', ?_⟩
  conv => lhs; unfold forL
  have k : kName (M := MX) 2 d (az ns [x2, x3, x4, x5, x6, x7, x8, x9] t) = some (az ns [some (.d d), x3, x4, x5, x6, x7, x8, x9] t) := rfl
  simp only [k]
  rw [e, Rs.bind_ok]
  rcases ho with rfl | rfl
  ·exact e2
  ·exact e2
theorem law_true : ∀ ns : List Int, ns.length ≤ 63 → (∀ z ∈ ns, Builtin.Int.intBits z ≤ 1048576) → ∃ z', m_law (mir lawLevel) (zX 10 ns) = .ok (.rt (.d (.bl true))) z' := by
 intro ns hl _
 have a1 : (sSet 1 (eNewL (aCons (escf (eC (.int 0))) aNil)) : Sm MX Out) (zX 10 ns) = .ok .nx (az ns [none, none, none, none, none, none, none, none] [.lst [.int 0]]) := rfl
 have s0 : Sb [.lst [.int 0]] 0 := ⟨0, rfl, Nat.le_refl _⟩
 have ln : (eFn fLen (aCons (opd (eVar 0)) aNil) : Sm MX S) (az ns [none, none, none, none, none, none, none, none] [.lst [.int 0]]) = .ok (.d (.int (ns.length : Nat))) (az ns [none, none, none, none, none, none, none, none] [.lst [.int 0]]) := rfl
 have it := rg_it (ebin_ok (rfl : (eC (.int 2) : Sm MX S) _ = .ok (.d (.int 2)) _) (divK ln (j := 6) (by omega)) (dAdd_i _ _)) (by omega) (by omega)
 obtain ⟨z', e⟩ := turns_ok (ns := ns) (by omega) (rangeD 0 ((2 : Int) + (ns.length : Nat) / 6).toNat) none none none none none none none none [.lst [.int 0]] 0 s0 (by rw [rangeD_len]; omega)
 have b2 : (sFor (iRg1M (aCons (opd (eBin dAdd (eC (.int 2)) (eBin dFdiv (eFn fLen (aCons (opd (eVar 0)) aNil)) (eC (.int 6))))) aNil)) (kName 2) lawB : Sm MX Out) (az ns [none, none, none, none, none, none, none, none] [.lst [.int 0]]) = .ok .nx z' := by
  unfold sFor
  rw [it, Rs.bind_ok]
  exact e
 rw [law_eq]
 exact ⟨z', (nx a1).trans ((nx b2).trans rfl)⟩
end L
open PySem PySem.W PyProof.Rows
set_option maxRecDepth 100000 in
set_option maxHeartbeats 0 in
theorem PySem.Challenge.cw_groundroom_k27_statements_told_holds : PySem.Challenge.rw_groundroom_k27_statements_told.Holds := by
 w_on; o_law; k_head; (case hw => w_witness2)
 k_fill
 refine G.walkGS (by kernel_rfl) (l := PySem.Challenge.rw_groundroom_k27_statements_told) (m := 63) (n := L.lawLevel + 9) (x := "_law_script") (CX := fun w => L2.CX PySem.Challenge.rw_groundroom_k27_statements_told.prog w) (sp := fun w => G.spLaw _) rfl (by decide) rfl ⟨rfl, by decide, by decide⟩ (fun w h Y => PySem.W.kIn_of Y) ?F (fun _ _ a ns hl hb _ hS => ⟨a, ns, rfl, hS, hl, hb, fun _ => rfl⟩) (fun w H s e s' h => by
  obtain ⟨_, _, _, _, _, _, _, _, _, _, _, _, z⟩ := h
  exact z)
 case F =>
  intro w mg fa h KX G hmg
  refine' L.all_mk KX G hmg ?ca_Reader ?cb1_Reader ?cb2_Reader ?cb3_Reader ?cb4_Reader ?cm1_Reader ?cm2_Reader ?na_Reader_at ?na_Reader_length ?na_Reader_made ?na_Reader_many ?na_Reader_todo ?na_Reader_words ?a0 ?l0 ?c0 ?k0 ?a1 ?l1 ?c1 ?k1 ?a2 ?l2 ?c2 ?k2 ?a3 ?l3 ?c3 ?k3 ?a4 ?l4 ?c4 ?k4 ?a5 ?l5 ?c5 ?k5 ?a6 ?l6 ?c6 ?k6 ?a7 ?l7 ?c7 ?k7 ?a8 ?l8 ?c8 ?k8 ?a9 ?l9 ?c9 ?k9 ?a10 ?l10 ?c10 ?k10 ?a11 ?l11 ?c11 ?k11 ?a12 ?l12 ?c12 ?k12 ?a13 ?l13 ?c13 ?k13 ?a14 ?l14 ?c14 ?k14 ?a15 ?l15 ?c15 ?k15 ?a16 ?l16 ?c16 ?k16 ?a17 ?l17 ?c17 ?k17 ?a18 ?l18 ?c18 ?k18 ?a19 ?l19 ?c19 ?k19 ?a20 ?l20 ?c20 ?k20 ?a21 ?l21 ?c21 ?k21 ?a22 ?l22 ?c22 ?k22 ?a23 ?l23 ?c23 ?k23 ?a24 ?l24 ?c24 ?k24 ?a25 ?l25 ?c25 ?k25 ?a26 ?n26 ?l26 ?c26 ?k26 ?a27 ?n27 ?l27 ?c27 ?k27 ?a28 ?n28 ?l28 ?c28 ?k28 ?a29 ?n29 ?l29 ?c29 ?k29 ?a30 ?n30 ?l30 ?c30 ?k30 ?a31 ?n31 ?l31 ?c31 ?k31 ?a32 ?n32 ?l32 ?c32 ?k32 ?a33 ?n33 ?l33 ?c33 ?k33 ?a34 ?n34 ?l34 ?c34 ?k34 ?a35 ?n35 ?l35 ?c35 ?k35 ?a36 ?n36 ?l36 ?c36 ?k36 ?a37 ?n37 ?l37 ?c37 ?k37 ?a38 ?n38 ?l38 ?c38 ?k38 ?a39 ?n39 ?l39 ?c39 ?k39 ?a40 ?n40 ?l40 ?c40 ?k40 ?a41 ?n41 ?l41 ?c41 ?k41 ?a42 ?n42 ?l42 ?c42 ?k42 ?a43 ?n43 ?l43 ?c43 ?k43 ?a44 ?n44 ?l44 ?c44 ?k44 ?a45 ?n45 ?l45 ?c45 ?k45 ?a46 ?n46 ?l46 ?c46 ?k46 ?a47 ?n47 ?l47 ?c47 ?k47 ?a48 ?n48 ?l48 ?c48 ?k48 ?a49 ?n49 ?l49 ?c49 ?k49 ?a50 ?n50 ?l50 ?c50 ?k50 ?a51 ?n51 ?l51 ?c51 ?k51 ?a52 ?n52 ?l52 ?c52 ?k52 ?a53 ?n53 ?l53 ?c53 ?k53 ?a54 ?n54 ?l54 ?c54 ?k54 ?a55 ?l55 ?c55 ?k55 ?z_all ?z_int ?z_isinstance ?z_len ?z_max ?z_range ?z_repr ?z_str ?z_sum ?z_tuple ?g_MARKS_writing ?gl_MARKS_writing ?gs_MARKS_writing ?g_RANKS ?gl_RANKS ?gs_RANKS ?g_FIGURES ?g_FORMS ?gl_FORMS ?g_KINDS ?gl_KINDS ?g_MARKS_words ?g_MOST_DEEP ?g_MOST_FIGURES ?g_MOST_LETTERS ?g_MOST_PARTS ?g_MOST_RANK ?g_MOST_SIGNS ?g_NOT_LEVEL ?g_NOT_RANK ?g_NO_stack ?gl_NO_stack ?g_NO_writing ?gl_NO_writing ?g_SIGNS ?gl_SIGNS ?g_SMALL ?g_TOLD ?gl_TOLD L.law_true
  (case ca_Reader => k_is)
  (case cb1_Reader => k_is)
  (case cb2_Reader => k_is)
  (case cb3_Reader => k_is)
  (case cb4_Reader => k_is)
  (case cm1_Reader => k_is)
  (case cm2_Reader => k_is)
  (case na_Reader_at => k_is)
  (case na_Reader_length => k_is)
  (case na_Reader_made => k_is)
  (case na_Reader_many => k_is)
  (case na_Reader_todo => k_is)
  (case na_Reader_words => k_is)
  (case a0 => k_is)
  (case l0 => k_is)
  (case c0 => k_is)
  (case k0 => k_is)
  (case a1 => k_is)
  (case l1 => k_is)
  (case c1 => k_is)
  (case k1 => k_is)
  (case a2 => k_is)
  (case l2 => k_is)
  (case c2 => k_is)
  (case k2 => k_is)
  (case a3 => k_is)
  (case l3 => k_is)
  (case c3 => k_is)
  (case k3 => k_is)
  (case a4 => k_is)
  (case l4 => k_is)
  (case c4 => k_is)
  (case k4 => k_is)
  (case a5 => k_is)
  (case l5 => k_is)
  (case c5 => k_is)
  (case k5 => k_is)
  (case a6 => k_is)
  (case l6 => k_is)
  (case c6 => k_is)
  (case k6 => k_is)
  (case a7 => k_is)
  (case l7 => k_is)
  (case c7 => k_is)
  (case k7 => k_is)
  (case a8 => k_is)
  (case l8 => k_is)
  (case c8 => k_is)
  (case k8 => k_is)
  (case a9 => k_is)
  (case l9 => k_is)
  (case c9 => k_is)
  (case k9 => k_is)
  (case a10 => k_is)
  (case l10 => k_is)
  (case c10 => k_is)
  (case k10 => k_is)
  (case a11 => k_is)
  (case l11 => k_is)
  (case c11 => k_is)
  (case k11 => k_is)
  (case a12 => k_is)
  (case l12 => k_is)
  (case c12 => k_is)
  (case k12 => k_is)
  (case a13 => k_is)
  (case l13 => k_is)
  (case c13 => k_is)
  (case k13 => k_is)
  (case a14 => k_is)
  (case l14 => k_is)
  (case c14 => k_is)
  (case k14 => k_is)
  (case a15 => k_is)
  (case l15 => k_is)
  (case c15 => k_is)
  (case k15 => k_is)
  (case a16 => k_is)
  (case l16 => k_is)
  (case c16 => k_is)
  (case k16 => k_is)
  (case a17 => k_is)
  (case l17 => k_is)
  (case c17 => k_is)
  (case k17 => k_is)
  (case a18 => k_is)
  (case l18 => k_is)
  (case c18 => k_is)
  (case k18 => k_is)
  (case a19 => k_is)
  (case l19 => k_is)
  (case c19 => k_is)
  (case k19 => k_is)
  (case a20 => k_is)
  (case l20 => k_is)
  (case c20 => k_is)
  (case k20 => k_is)
  (case a21 => k_is)
  (case l21 => k_is)
  (case c21 => k_is)
  (case k21 => k_is)
  (case a22 => k_is)
  (case l22 => k_is)
  (case c22 => k_is)
  (case k22 => k_is)
  (case a23 => k_is)
  (case l23 => k_is)
  (case c23 => k_is)
  (case k23 => k_is)
  (case a24 => k_is)
  (case l24 => k_is)
  (case c24 => k_is)
  (case k24 => k_is)
  (case a25 => k_is)
  (case l25 => k_is)
  (case c25 => k_is)
  (case k25 => k_is)
  (case a26 => k_is)
  (case n26 => k_is)
  (case l26 => k_is)
  (case c26 => k_is)
  (case k26 => k_is)
  (case a27 => k_is)
  (case n27 => k_is)
  (case l27 => k_is)
  (case c27 => k_is)
  (case k27 => k_is)
  (case a28 => k_is)
  (case n28 => k_is)
  (case l28 => k_is)
  (case c28 => k_is)
  (case k28 => k_is)
  (case a29 => k_is)
  (case n29 => k_is)
  (case l29 => k_is)
  (case c29 => k_is)
  (case k29 => k_is)
  (case a30 => k_is)
  (case n30 => k_is)
  (case l30 => k_is)
  (case c30 => k_is)
  (case k30 => k_is)
  (case a31 => k_is)
  (case n31 => k_is)
  (case l31 => k_is)
  (case c31 => k_is)
  (case k31 => k_is)
  (case a32 => k_is)
  (case n32 => k_is)
  (case l32 => k_is)
  (case c32 => k_is)
  (case k32 => k_is)
  (case a33 => k_is)
  (case n33 => k_is)
  (case l33 => k_is)
  (case c33 => k_is)
  (case k33 => k_is)
  (case a34 => k_is)
  (case n34 => k_is)
  (case l34 => k_is)
  (case c34 => k_is)
  (case k34 => k_is)
  (case a35 => k_is)
  (case n35 => k_is)
  (case l35 => k_is)
  (case c35 => k_is)
  (case k35 => k_is)
  (case a36 => k_is)
  (case n36 => k_is)
  (case l36 => k_is)
  (case c36 => k_is)
  (case k36 => k_is)
  (case a37 => k_is)
  (case n37 => k_is)
  (case l37 => k_is)
  (case c37 => k_is)
  (case k37 => k_is)
  (case a38 => k_is)
  (case n38 => k_is)
  (case l38 => k_is)
  (case c38 => k_is)
  (case k38 => k_is)
  (case a39 => k_is)
  (case n39 => k_is)
  (case l39 => k_is)
  (case c39 => k_is)
  (case k39 => k_is)
  (case a40 => k_is)
  (case n40 => k_is)
  (case l40 => k_is)
  (case c40 => k_is)
  (case k40 => k_is)
  (case a41 => k_is)
  (case n41 => k_is)
  (case l41 => k_is)
  (case c41 => k_is)
  (case k41 => k_is)
  (case a42 => k_is)
  (case n42 => k_is)
  (case l42 => k_is)
  (case c42 => k_is)
  (case k42 => k_is)
  (case a43 => k_is)
  (case n43 => k_is)
  (case l43 => k_is)
  (case c43 => k_is)
  (case k43 => k_is)
  (case a44 => k_is)
  (case n44 => k_is)
  (case l44 => k_is)
  (case c44 => k_is)
  (case k44 => k_is)
  (case a45 => k_is)
  (case n45 => k_is)
  (case l45 => k_is)
  (case c45 => k_is)
  (case k45 => k_is)
  (case a46 => k_is)
  (case n46 => k_is)
  (case l46 => k_is)
  (case c46 => k_is)
  (case k46 => k_is)
  (case a47 => k_is)
  (case n47 => k_is)
  (case l47 => k_is)
  (case c47 => k_is)
  (case k47 => k_is)
  (case a48 => k_is)
  (case n48 => k_is)
  (case l48 => k_is)
  (case c48 => k_is)
  (case k48 => k_is)
  (case a49 => k_is)
  (case n49 => k_is)
  (case l49 => k_is)
  (case c49 => k_is)
  (case k49 => k_is)
  (case a50 => k_is)
  (case n50 => k_is)
  (case l50 => k_is)
  (case c50 => k_is)
  (case k50 => k_is)
  (case a51 => k_is)
  (case n51 => k_is)
  (case l51 => k_is)
  (case c51 => k_is)
  (case k51 => k_is)
  (case a52 => k_is)
  (case n52 => k_is)
  (case l52 => k_is)
  (case c52 => k_is)
  (case k52 => k_is)
  (case a53 => k_is)
  (case n53 => k_is)
  (case l53 => k_is)
  (case c53 => k_is)
  (case k53 => k_is)
  (case a54 => k_is)
  (case n54 => k_is)
  (case l54 => k_is)
  (case c54 => k_is)
  (case k54 => k_is)
  (case a55 => k_is)
  (case l55 => k_is)
  (case c55 => k_is)
  (case k55 => k_is)
  (case z_all => k_is)
  (case z_int => k_is)
  (case z_isinstance => k_is)
  (case z_len => k_is)
  (case z_max => k_is)
  (case z_range => k_is)
  (case z_repr => k_is)
  (case z_str => k_is)
  (case z_sum => k_is)
  (case z_tuple => k_is)
  (case g_MARKS_writing => k_is)
  (case gl_MARKS_writing => k_is)
  (case gs_MARKS_writing => rfl)
  (case g_RANKS => k_is)
  (case gl_RANKS => k_is)
  (case gs_RANKS => rfl)
  (case g_FIGURES => k_is)
  (case g_FORMS => k_is)
  (case gl_FORMS => k_is)
  (case g_KINDS => k_is)
  (case gl_KINDS => k_is)
  (case g_MARKS_words => k_is)
  (case g_MOST_DEEP => k_is)
  (case g_MOST_FIGURES => k_is)
  (case g_MOST_LETTERS => k_is)
  (case g_MOST_PARTS => k_is)
  (case g_MOST_RANK => k_is)
  (case g_MOST_SIGNS => k_is)
  (case g_NOT_LEVEL => k_is)
  (case g_NOT_RANK => k_is)
  (case g_NO_stack => k_is)
  (case gl_NO_stack => k_is)
  (case g_NO_writing => k_is)
  (case gl_NO_writing => k_is)
  (case g_SIGNS => k_is)
  (case gl_SIGNS => k_is)
  (case g_SMALL => k_is)
  (case g_TOLD => k_is)
  (case gl_TOLD => k_is)
