import PyProof.Rows.All
import Wide.All
import OpenK.AllK
import Wide.FinOn
import KE.KStateDown
import HandS.ForMost
import HandS.ForExc
import HandS.CallSlots
import HandS.Defaults
import HandS.Lambda
import HandS.HeadHook4
import HandS.IsInst
import HandS.TupAny
import HandS.Zip
import HandS.Deep
import HandS.TupMul
import KE.GoesEnum
import KE.GoesNew
import HandS.Iter
import HandS.Style
import HandS.Comp
import HandS.List
import HandS.Wide
import HandS.Words
import HandS.WordsExc
import HandS.Head0
import HandS.Head1
import HandS.Head2
import HandS.HeadEnd
import HandS.HeadHook1
import HandS.HeadHook2
import HandS.ExcInit
import KE.KExcSuper
import KE.KExcInit
import HandS.ExcField
import HandS.ExcValue
import HandS.TryMany
import HandS.Sort
import HandS.HeadWalk
import KE.KExcIs
import PySem.Challenge.RW_mendcalls_k01_errors_by_themselves
set_option Elab.async false
set_option linter.all false
set_option maxRecDepth 100000
set_option maxHeartbeats 0
/-! DvA: deep values, the store, the relation of a run's state to them, the readings as plain functions. -/
namespace Dv
open PySem PySem.Spec PyProof.Rows L2

/-! ### deep values -/
inductive D where
  | non | bl (b : Bool) | int (i : Int) | str (x : Str) | ty (n : String)
  | tup (l : List D) | lst (l : List D) | scr (l : List D)
  | new (l : List D) | bor (l : List D)
  | ins (c : Str) (fs : List (Str × D)) | exn (c : Str) (fs : List (Str × D))
  | obj (k : Nat) | glo (x : Str) | fn (a : Addr) | rng (lo hi : Int)
/-- what a slot holds: nothing known, a frozen value, a list of its own -/
inductive SV where
  | no | v (d : D) | own (l : List D)
structure Src where
  cells : List Int
  at_ : Int
  big : Int
  seed : Int
  cnt : Int
inductive MObj where
  | src (s : Src)
  | tab (p : Str × Option Str) (q : Str)
abbrev DEnv := List SV
abbrev Mu := List MObj
structure Exn where
  cls : Str
  fs : List (Str × D)
inductive Out (α : Type) where
  | val (a : α) | exc (x : Exn)
abbrev Res (α : Type) := Option (Out α × Mu)
abbrev DEx := DEnv → Mu → Res D
@[reducible] def bindR {α β : Type} (r : Res α) (f : α → Mu → Res β) : Res β := match r with
  | some (.val a, μ) => f a μ
  | some (.exc x, μ) => some (.exc x, μ)
  | none => none
@[reducible] def ret {α : Type} (a : α) (μ : Mu) : Res α := some (.val a, μ)

/-! ### values and deep values -/
structure Tx where
  K : PySem.W.Frag
  mg : Str → Option Value
abbrev szl (n : Nat) : Prop := n ≤ 16777216
/-- a tuple that stands: frozen, or the module's own -/
def SqG (K : PySem.W.Frag) (G : Hp) (a : Addr) (xs : List V) : Prop :=
  G a = some (.tup xs) ∨ ∃ (o : Obj) (its : Array Value) (n : Nat), K.lookup a = some o ∧ o.cls = .type "tuple" ∧ o.data = .seq its n ∧ its.size ≤ sizeLine ∧ Vals xs its.toList
theorem SqG.sq {K : PySem.W.Frag} {G : Hp} {a : Addr} {xs : List V} (h : SqG K G a xs) : SqT K G a xs := by
  rcases h with h | h
  · exact .inl (.inl h)
  · exact .inr h
theorem sqG_mono {K : PySem.W.Frag} {G G' : Hp} (s : Same G G') {a : Addr} {vs : List V} (h : SqG K G a vs) : SqG K G' a vs := by
  rcases h with h | h
  · exact .inl (s _ _ h)
  · exact .inr h
/-- at a: an error of the class at C, its dict at d -/
def exv (a C d : Addr) : HO := .ext fun h => ∃ oe vs, h.get? a = some oe ∧ oe.cls = .ref C ∧ oe.dict = some d ∧ oe.data = Data.fields vs
section
variable (T : Tx) (ρ : List Addr) (G : Hp)
mutual
def Rep : V → D → Prop
  | v, .non => v = .non
  | v, .bl b => v = .bl b
  | v, .int i => v = .int i
  | v, .str x => v = .str x
  | v, .ty n => v = .ty n
  | v, .tup l => ∃ a vs, v = .ref a ∧ SqG T.K G a vs ∧ szl l.length ∧ Reps vs l
  | v, .lst l => ∃ a vs, v = .ref a ∧ G a = some (.lst vs) ∧ szl l.length ∧ Reps vs l
  | v, .scr l => ∃ a vs, v = .ref a ∧ SqL T.K G a vs ∧ szl l.length ∧ Reps vs l
  | _, .new _ => False
  | _, .bor _ => False
  | v, .ins c fs => ∃ a C dx vf, v = .ref a ∧ T.mg c = some (.ref C) ∧ G a = some (.ins C dx vf) ∧ RepF vf fs
  | v, .exn c fs => ∃ a C d vf, v = .ref a ∧ T.mg c = some (.ref C) ∧ G a = some (exv a C d) ∧ G d = some (.xd vf) ∧ RepF vf fs
  | v, .obj k => ∃ a, v = .ref a ∧ ρ[k]? = some a
  | v, .glo x => ∃ a, v = .ref a ∧ T.mg x = some (.ref a)
  | v, .fn a => v = .ref a
  | v, .rng lo hi => ∃ a, v = .ref a ∧ G a = some (.rng lo hi)
def Reps : List V → List D → Prop
  | vs, [] => vs = []
  | vs, d :: ds => ∃ v r, vs = v :: r ∧ Rep v d ∧ Reps r ds
def RepF : List (Str × V) → List (Str × D) → Prop
  | vs, [] => vs = []
  | vs, (f, d) :: ds => ∃ v r, vs = (f, v) :: r ∧ Rep v d ∧ RepF r ds
end
end
def Pre (ρ ρ' : List Addr) : Prop := ∀ (k : Nat) a, ρ[k]? = some a → ρ'[k]? = some a
theorem Pre.refl (ρ : List Addr) : Pre ρ ρ := fun _ _ h => h
theorem Pre.trans {a b c : List Addr} (h : Pre a b) (g : Pre b c) : Pre a c := fun k x e => g k x (h k x e)
section
variable {T : Tx} {ρ ρ' : List Addr} {G G' H : Hp}
theorem sqT_mono (s : Same G G') {a : Addr} {vs : List V} (h : SqT T.K G a vs) : SqT T.K G' a vs := by
  rcases h with (h | ⟨o, h⟩) | h
  · exact .inl (.inl (s _ _ h))
  · exact .inl (.inr ⟨o, s _ _ h⟩)
  · exact .inr h
theorem sqL_mono (s : Same G G') {a : Addr} {vs : List V} (h : SqL T.K G a vs) : SqL T.K G' a vs := by
  rcases h with (h | ⟨o, h⟩) | h
  · exact .inl (.inl (s _ _ h))
  · exact .inl (.inr ⟨o, s _ _ h⟩)
  · exact .inr h
mutual
theorem Rep.mono (s : Same G G') (p : Pre ρ ρ') : ∀ {d : D} {v : V}, Rep T ρ G v d → Rep T ρ' G' v d
  | .non, _, h => h
  | .bl _, _, h => h
  | .int _, _, h => h
  | .str _, _, h => h
  | .ty _, _, h => h
  | .tup l, v, h => by
    unfold Rep at h ⊢
    obtain ⟨a, vs, e, q, z, r⟩ := h
    exact ⟨a, vs, e, sqG_mono s q, z, Reps.mono s p r⟩
  | .lst l, v, h => by
    unfold Rep at h ⊢
    obtain ⟨a, vs, e, q, z, r⟩ := h
    exact ⟨a, vs, e, s _ _ q, z, Reps.mono s p r⟩
  | .scr l, v, h => by
    unfold Rep at h ⊢
    obtain ⟨a, vs, e, q, z, r⟩ := h
    exact ⟨a, vs, e, sqL_mono s q, z, Reps.mono s p r⟩
  | .new _, _, h => by unfold Rep at h; exact h.elim
  | .bor _, _, h => by unfold Rep at h; exact h.elim
  | .ins c fs, v, h => by
    unfold Rep at h ⊢
    obtain ⟨a, C, dx, vf, e, m, q, r⟩ := h
    exact ⟨a, C, dx, vf, e, m, s _ _ q, RepF.mono s p r⟩
  | .exn c fs, v, h => by
    unfold Rep at h ⊢
    obtain ⟨a, C, d, vf, e, m, q, q2, r⟩ := h
    exact ⟨a, C, d, vf, e, m, s _ _ q, s _ _ q2, RepF.mono s p r⟩
  | .obj k, v, h => by
    unfold Rep at h ⊢
    obtain ⟨a, e, q⟩ := h
    exact ⟨a, e, p _ _ q⟩
  | .glo x, v, h => by unfold Rep at h ⊢; exact h
  | .fn a, v, h => by unfold Rep at h ⊢; exact h
  | .rng _ _, v, h => by unfold Rep at h ⊢; obtain ⟨a, e, q⟩ := h; exact ⟨a, e, s _ _ q⟩
theorem Reps.mono (s : Same G G') (p : Pre ρ ρ') : ∀ {l : List D} {vs : List V}, Reps T ρ G vs l → Reps T ρ' G' vs l
  | [], _, h => by unfold Reps at h ⊢; exact h
  | d :: ds, vs, h => by
    unfold Reps at h ⊢
    obtain ⟨v, r, e, q, t⟩ := h
    exact ⟨v, r, e, Rep.mono s p q, Reps.mono s p t⟩
theorem RepF.mono (s : Same G G') (p : Pre ρ ρ') : ∀ {l : List (Str × D)} {vs : List (Str × V)}, RepF T ρ G vs l → RepF T ρ' G' vs l
  | [], _, h => by unfold RepF at h ⊢; exact h
  | (f, d) :: ds, vs, h => by
    unfold RepF at h ⊢
    obtain ⟨v, r, e, q, t⟩ := h
    exact ⟨v, r, e, Rep.mono s p q, RepF.mono s p t⟩
end
theorem Reps.nil : Reps T ρ G [] [] := by unfold Reps; rfl
theorem Reps.cons {v : V} {d : D} {vs : List V} {l : List D} (h : Rep T ρ G v d) (t : Reps T ρ G vs l) : Reps T ρ G (v :: vs) (d :: l) := by
  unfold Reps; exact ⟨v, vs, rfl, h, t⟩
theorem Reps.length : ∀ {l : List D} {vs : List V}, Reps T ρ G vs l → vs.length = l.length
  | [], vs, h => by unfold Reps at h; subst h; rfl
  | d :: ds, vs, h => by
    unfold Reps at h
    obtain ⟨v, r, rfl, _, t⟩ := h
    simp [Reps.length t]
theorem Reps.get : ∀ {l : List D} {vs : List V} {i : Nat} {d : D}, Reps T ρ G vs l → l[i]? = some d → ∃ v, vs[i]? = some v ∧ Rep T ρ G v d
  | [], _, _, _, _, e => by simp at e
  | x :: ds, vs, 0, d, h, e => by
    unfold Reps at h
    obtain ⟨v, r, rfl, q, t⟩ := h
    simp at e; subst e
    exact ⟨v, rfl, q⟩
  | x :: ds, vs, i + 1, d, h, e => by
    unfold Reps at h
    obtain ⟨v, r, rfl, q, t⟩ := h
    obtain ⟨w, e1, e2⟩ := Reps.get (i := i) t (by simpa using e)
    exact ⟨w, by simpa using e1, e2⟩
theorem Reps.append : ∀ {l m : List D} {vs us : List V}, Reps T ρ G vs l → Reps T ρ G us m → Reps T ρ G (vs ++ us) (l ++ m)
  | [], m, vs, us, h, g => by unfold Reps at h; subst h; exact g
  | d :: ds, m, vs, us, h, g => by
    unfold Reps at h
    obtain ⟨v, r, rfl, q, t⟩ := h
    exact .cons q (Reps.append t g)
theorem Reps.drop : ∀ {l : List D} {vs : List V} (n : Nat), Reps T ρ G vs l → Reps T ρ G (vs.drop n) (l.drop n)
  | _, _, 0, h => h
  | [], vs, n + 1, h => by unfold Reps at h; subst h; simp [Reps]
  | d :: ds, vs, n + 1, h => by
    unfold Reps at h
    obtain ⟨v, r, rfl, q, t⟩ := h
    exact Reps.drop n t
theorem Reps.take : ∀ {l : List D} {vs : List V} (n : Nat), Reps T ρ G vs l → Reps T ρ G (vs.take n) (l.take n)
  | _, _, 0, h => by simp [Reps]
  | [], vs, n + 1, h => by unfold Reps at h; subst h; simp [Reps]
  | d :: ds, vs, n + 1, h => by
    unfold Reps at h
    obtain ⟨v, r, rfl, q, t⟩ := h
    exact .cons q (Reps.take n t)
theorem Reps.one {v : V} {d : D} (h : Rep T ρ G v d) : Reps T ρ G [v] [d] := .cons h .nil
theorem Reps.inv1 {vs : List V} {d : D} (h : Reps T ρ G vs [d]) : ∃ v, vs = [v] ∧ Rep T ρ G v d := by
  unfold Reps at h
  obtain ⟨v, r, rfl, q, t⟩ := h
  unfold Reps at t; subst t
  exact ⟨v, rfl, q⟩
theorem Reps.inv {vs : List V} {d : D} {l : List D} (h : Reps T ρ G vs (d :: l)) : ∃ v r, vs = v :: r ∧ Rep T ρ G v d ∧ Reps T ρ G r l := by
  unfold Reps at h; exact h
theorem Reps.inv0 {vs : List V} (h : Reps T ρ G vs []) : vs = [] := by unfold Reps at h; exact h
end

/-! ### the store -/
def srcV (l : Addr) (s : Src) : List V := [.ref l, .int s.at_, .int s.big, .int s.seed, .int s.cnt]
def MR (T : Tx) (ρ : List Addr) (G H : Hp) (a : Addr) : MObj → Prop
  | .src s => ∃ l, H a = some (.lst (srcV l s)) ∧ G l = some (.lst (s.cells.map V.int))
  | .tab p q => a = (He.cT T.K p).2 ∧ ∃ ps : Array Value, H a = some (.tbl ps) ∧ TriplesOk ps.toList ∧ ∀ (pos : Pos) (u : Value), codeAmong pos ps.toList = some u → ∃ c, u = .ref c ∧ G c = some (LamX.CodeO c q)
theorem MR.to {T : Tx} {ρ ρ' : List Addr} {G G' H H' : Hp} {a : Addr} {m : MObj} (r : MR T ρ G H a m) (g : Same G G') (h : ∀ o, H a = some o → H' a = some o) : MR T ρ' G' H' a m := by
  cases m with
  | src s => obtain ⟨l, e1, e2⟩ := r; exact ⟨l, h _ e1, g _ _ e2⟩
  | tab p q => obtain ⟨e0, ps, e1, e2, e3⟩ := r; exact ⟨e0, ps, h _ e1, e2, fun pos u hu => (let ⟨c, x, y⟩ := e3 pos u hu; ⟨c, x, g _ _ y⟩)⟩
theorem MR.some {T : Tx} {ρ : List Addr} {G H : Hp} {a : Addr} {m : MObj} (r : MR T ρ G H a m) : ∃ o, H a = some o := by
  cases m with
  | src s => obtain ⟨l, e1, _⟩ := r; exact ⟨_, e1⟩
  | tab p q => obtain ⟨_, ps, e1, _⟩ := r; exact ⟨_, e1⟩
structure StR (T : Tx) (ρ : List Addr) (G H : Hp) (μ : Mu) : Prop where
  len : ρ.length = μ.length
  nd : ρ.Nodup
  off : ∀ a ∈ ρ, G a = none
  at_ : ∀ (k : Nat) m, μ[k]? = some m → ∃ a, ρ[k]? = some a ∧ MR T ρ G H a m
/-- all objects but the store's stand; what is new is new -/
structure Ext (ρ : List Addr) (G H : Hp) (ρ' : List Addr) (G' H' : Hp) : Prop where
  gg : Same G G'
  pre : Pre ρ ρ'
  keep : ∀ a o, H a = some o → ∃ o', H' a = some o' ∧ (a ∉ ρ → o' = o)
  fg : ∀ a o, G' a = some o → G a = none → H a = none
  fr : ∀ a, a ∈ ρ' → a ∉ ρ → H a = none
section
variable {ρ ρ' ρ'' : List Addr} {G G' G'' H H' H'' : Hp}
theorem Ext.refl (ρ : List Addr) (G H : Hp) : Ext ρ G H ρ G H :=
  ⟨fun _ _ h => h, .refl _, fun _ o h => ⟨o, h, fun _ => rfl⟩, fun _ _ h n => (by rw [n] at h; cases h), fun _ h n => absurd h n⟩
theorem mem_of_pre (p : Pre ρ ρ') {a : Addr} (h : a ∈ ρ) : a ∈ ρ' := by
  obtain ⟨k, hk⟩ := List.mem_iff_getElem?.mp h
  exact List.mem_iff_getElem?.mpr ⟨k, p k a hk⟩
theorem Ext.old (a : Ext ρ G H ρ' G' H') {x : Addr} {o : HO} (h : H x = some o) (n : x ∉ ρ) : H' x = some o := by
  obtain ⟨o', e, k⟩ := a.keep x o h
  rw [e, k n]
theorem Ext.none (a : Ext ρ G H ρ' G' H') {x : Addr} (h : H' x = Option.none) : H x = Option.none := by
  cases e : H x with
  | none => rfl
  | some o =>
    obtain ⟨o', e', _⟩ := a.keep x o e
    rw [e'] at h; cases h
theorem Ext.trans (a : Ext ρ G H ρ' G' H') (b : Ext ρ' G' H' ρ'' G'' H'') : Ext ρ G H ρ'' G'' H'' where
  gg := a.gg.trans b.gg
  pre := a.pre.trans b.pre
  keep := fun x o h => by
    obtain ⟨o1, e1, k1⟩ := a.keep x o h
    obtain ⟨o2, e2, k2⟩ := b.keep x o1 e1
    refine ⟨o2, e2, fun n => ?_⟩
    rw [k2 fun m => ?_, k1 n]
    rw [a.fr x m n] at h; cases h
  fg := fun x o h n => by
    cases e : G' x with
    | some o' => exact a.fg x o' e n
    | none => exact a.none (b.fg x o h e)
  fr := fun x h n => by
    by_cases m : x ∈ ρ'
    · exact a.fr x m n
    · exact a.none (b.fr x h m)
end

/-! ### a body's state -/
structure Bs where
  H0 : Hp
  G0 : Hp
  ρ0 : List Addr
  xo : List (Addr × List V)
section
variable (T : Tx) (B : Bs) (ρ : List Addr) (G H : Hp) (σ : L2.St) (env : DEnv)
def SlR (i : Nat) : SV → Prop
  | .no => True
  | .v d => ∃ v : V, σ[i]? = some (some v) ∧ Rep T ρ G v d
  | .own l => ∃ (p : Addr) (vs : List V), σ[i]? = some (some (.ref p)) ∧ H p = some (.lst vs) ∧ Reps T ρ G vs l ∧ szl l.length ∧ G p = none ∧ p ∉ ρ ∧ B.H0 p = none
structure RD (μ : Mu) : Prop where
  gh : Same G H
  ext : Ext B.ρ0 B.G0 B.H0 ρ G H
  len : env.length = σ.length
  slot : ∀ (i : Nat) (s : SV), env[i]? = some s → SlR T B ρ G H σ i s
  own : ∀ (i j : Nat) (l l' : List D) (p : Addr), env[i]? = some (.own l) → env[j]? = some (.own l') → σ[i]? = some (some (.ref p)) → σ[j]? = some (some (.ref p)) → i = j
  st : StR T ρ G H μ
  xo : ∀ q ∈ B.xo, H q.1 = some (.lst q.2) ∧ G q.1 = none ∧ q.1 ∉ ρ ∧ B.H0 q.1 = none ∧ ∀ (i : Nat) (l' : List D), env[i]? = some (.own l') → σ[i]? ≠ some (some (.ref q.1))
  xn : (B.xo.map (·.1)).Nodup
/-- a value that is held on -/
def HeldR (v : V) : D → Prop
  | .bor l => ∃ (i : Nat) (p : Addr), env[i]? = some (.own l) ∧ σ[i]? = some (some (.ref p)) ∧ v = .ref p
  | d => Rep T ρ G v d
/-- a value that has just come -/
def RepX (v : V) : D → Prop
  | .new l => ∃ (p : Addr) (vs : List V), v = .ref p ∧ H p = some (.lst vs) ∧ Reps T ρ G vs l ∧ szl l.length ∧ G p = none ∧ p ∉ ρ ∧ B.H0 p = none ∧ (∀ (i : Nat) (l' : List D), env[i]? = some (.own l') → σ[i]? ≠ some (some (.ref p))) ∧ ∀ q ∈ B.xo, q.1 ≠ p
  | d => HeldR T ρ G σ env v d
end
section
variable {T : Tx} {B : Bs} {ρ ρ' : List Addr} {G G' H H' : Hp} {σ : L2.St} {env : DEnv} {μ : Mu}
theorem HeldR.mono (s : Same G G') (p : Pre ρ ρ') {v : V} {d : D} (h : HeldR T ρ G σ env v d) : HeldR T ρ' G' σ env v d := by
  cases d with
  | bor l => exact h
  | _ => exact Rep.mono s p (show Rep _ _ _ _ _ from h)
theorem HeldR.of {v : V} {d : D} (h : Rep T ρ G v d) : HeldR T ρ G σ env v d := by
  cases d with
  | bor l => unfold Rep at h; exact h.elim
  | _ => exact h
theorem RepX.of {v : V} {d : D} (h : HeldR T ρ G σ env v d) : RepX T B ρ G H σ env v d := by
  cases d with
  | new l => unfold HeldR Rep at h; exact h.elim
  | _ => exact h
theorem RepX.ofR {v : V} {d : D} (h : Rep T ρ G v d) : RepX T B ρ G H σ env v d := .of (.of h)
/-- an object is added to what is frozen -/
theorem StR.alloc {p : Addr} {o : HO} (h : StR T ρ G H μ) (hp : p ∉ ρ) (gn : G p = none ) (hH : ∀ a o', H a = some o' → a ≠ p → H' a = some o') (hne : ∀ a ∈ ρ, a ≠ p) : StR T ρ (upd G p o) H' μ where
  len := h.len
  nd := h.nd
  off := fun a ha => by rw [upd_ne (hne a ha)]; exact h.off a ha
  at_ := fun k m hm => by
    obtain ⟨a, ea, r⟩ := h.at_ k m hm
    exact ⟨a, ea, r.to (fun b u e => by rw [upd_ne (fun q => (by rw [q, gn] at e; cases e))]; exact e) fun o e => hH _ _ e (hne a (List.mem_of_getElem? ea))⟩
theorem RD.fresh_ (R : RD T B ρ G H σ env μ) {p : Addr} (n : H p = Option.none) : G p = Option.none ∧ p ∉ ρ ∧ B.H0 p = Option.none := by
  refine ⟨?_, fun m => ?_, R.ext.none n⟩
  · cases e : G p with
    | none => rfl
    | some o => rw [R.gh p o e] at n; cases n
  · obtain ⟨k, hk⟩ := List.mem_iff_getElem?.mp m
    have hlt : k < μ.length := by rw [← R.st.len]; exact (List.getElem?_eq_some_iff.mp hk).1
    obtain ⟨a, ea, r⟩ := R.st.at_ k (μ[k]) (by simp [hlt])
    rw [hk] at ea; cases ea
    obtain ⟨o, e1⟩ := r.some
    rw [e1] at n; cases n
theorem same_upd (n : G p = none) : Same G (upd G p o) := fun b u e => by
  rw [upd_ne (fun q => (by rw [q, n] at e; cases e))]; exact e
/-- a new object that is frozen at once -/
theorem RD.alloc (R : RD T B ρ G H σ env μ) {p : Addr} {o : HO} (n : H p = Option.none) : RD T B ρ (upd G p o) (upd H p o) σ env μ := by
  obtain ⟨gn, pn, bn⟩ := R.fresh_ n
  have hne : ∀ a o', H a = some o' → a ≠ p := fun a o' e q => by rw [q, n] at e; cases e
  refine ⟨fun b u e => ?_, ⟨R.ext.gg.trans (same_upd gn), R.ext.pre, fun a u e => ?_, fun a u e e0 => ?_, R.ext.fr⟩, R.len, fun i s hs => ?_, R.own, R.st.alloc pn gn (fun a o' e q => by rw [upd_ne q]; exact e) fun a ha q => pn (q ▸ ha), fun q hq => ?_, R.xn⟩
  rotate_left 4
  · obtain ⟨e1, e2, e3⟩ := R.xo q hq
    have z := hne q.1 _ e1
    exact ⟨by rw [upd_ne z]; exact e1, by rw [upd_ne z]; exact e2, e3⟩
  · by_cases q : b = p
    · subst q; rw [upd_same] at e ⊢; exact e
    · rw [upd_ne q] at e ⊢; exact R.gh b u e
  · obtain ⟨o', e1, k⟩ := R.ext.keep a u e
    exact ⟨o', by rw [upd_ne (hne a o' e1)]; exact e1, k⟩
  · by_cases q : a = p
    · subst q; exact bn
    · rw [upd_ne q] at e; exact R.ext.fg a u e e0
  · have h := R.slot i s hs
    cases s with
    | no => trivial
    | v d =>
      obtain ⟨v, e, r⟩ := h
      exact ⟨v, e, r.mono (same_upd gn) (.refl _)⟩
    | own l =>
      obtain ⟨q, vs, e1, e2, e3, e4, e5, e6, e7⟩ := h
      have z := hne q _ e2
      exact ⟨q, vs, e1, by rw [upd_ne z]; exact e2, e3.mono (same_upd gn) (.refl _), e4, by rw [upd_ne z]; exact e5, e6, e7⟩
/-- a new object that is not frozen -/
theorem RD.allocN (R : RD T B ρ G H σ env μ) {p : Addr} {o : HO} (n : H p = Option.none) : RD T B ρ G (upd H p o) σ env μ := by
  obtain ⟨gn, pn, bn⟩ := R.fresh_ n
  have hne : ∀ a o', H a = some o' → a ≠ p := fun a o' e q => by rw [q, n] at e; cases e
  refine ⟨fun b u e => ?_, ⟨R.ext.gg, R.ext.pre, fun a u e => ?_, R.ext.fg, R.ext.fr⟩, R.len, fun i s hs => ?_, R.own, ⟨R.st.len, R.st.nd, R.st.off, fun k m hm => ?_⟩, fun q hq => ?_, R.xn⟩
  rotate_left 4
  · obtain ⟨e1, e2⟩ := R.xo q hq
    exact ⟨by rw [upd_ne (hne q.1 _ e1)]; exact e1, e2⟩
  · rw [upd_ne (hne b u (R.gh b u e))]; exact R.gh b u e
  · obtain ⟨o', e1, k⟩ := R.ext.keep a u e
    exact ⟨o', by rw [upd_ne (hne a o' e1)]; exact e1, k⟩
  · have h := R.slot i s hs
    cases s with
    | no => trivial
    | v d => exact h
    | own l =>
      obtain ⟨q, vs, e1, e2, r⟩ := h
      exact ⟨q, vs, e1, by rw [upd_ne (hne q _ e2)]; exact e2, r⟩
  · obtain ⟨a, ea, r⟩ := R.st.at_ k m hm
    exact ⟨a, ea, r.to (fun _ _ e => e) fun o e1 => by rw [upd_ne (hne a _ e1)]; exact e1⟩
/-- a list of nobody's is frozen -/
theorem RD.freeze (R : RD T B ρ G H σ env μ) {p : Addr} {vs : List V} (hp : H p = some (.lst vs)) (pn : p ∉ ρ) (bn : B.H0 p = Option.none) (no : ∀ (i : Nat) (l' : List D), env[i]? = some (.own l') → σ[i]? ≠ some (some (.ref p))) (nx : ∀ q ∈ B.xo, q.1 ≠ p) :
    ∃ G', Same G G' ∧ G' p = some (.lst vs) ∧ RD T B ρ G' H σ env μ := by
  cases gn : G p with
  | some o =>
    have e := R.gh p o gn
    rw [hp] at e; cases e
    exact ⟨G, fun _ _ h => h, gn, R⟩
  | none =>
    refine ⟨upd G p (.lst vs), same_upd gn, upd_same, fun b u e => ?_, ⟨R.ext.gg.trans (same_upd gn), R.ext.pre, R.ext.keep, fun a u e e0 => ?_, R.ext.fr⟩, R.len, fun i s hs => ?_, R.own, R.st.alloc pn gn (fun a o' e _ => e) fun a ha q => pn (q ▸ ha), fun q hq => ?_, R.xn⟩
    rotate_left 3
    · obtain ⟨e1, e2, e3⟩ := R.xo q hq
      exact ⟨e1, by rw [upd_ne (nx q hq)]; exact e2, e3⟩
    · by_cases q : b = p
      · subst q; rw [upd_same] at e; cases e; exact hp
      · rw [upd_ne q] at e; exact R.gh b u e
    · by_cases q : a = p
      · subst q; exact bn
      · rw [upd_ne q] at e; exact R.ext.fg a u e e0
    · have h := R.slot i s hs
      cases s with
      | no => trivial
      | v d =>
        obtain ⟨v, e, r⟩ := h
        exact ⟨v, e, r.mono (same_upd gn) (.refl _)⟩
      | own l =>
        obtain ⟨q, us, e1, e2, e3, e4, e5, e6, e7⟩ := h
        have z : q ≠ p := fun z => no i l hs (z ▸ e1)
        exact ⟨q, us, e1, e2, e3.mono (same_upd gn) (.refl _), e4, by rw [upd_ne z]; exact e5, e6, e7⟩
end

/-! ### what is wanted behind an evaluation -/
def ExR (T : Tx) (ρ : List Addr) (G H : Hp) (cls : Value) (dd : Option Addr) (x : Exn) : Prop :=
  ∃ (C d : Addr) (vf : List (Str × V)), cls = .ref C ∧ T.mg x.cls = some (.ref C) ∧ dd = some d ∧ G d = some (.xd vf) ∧ RepF T ρ G vf x.fs
def KE {α : Type} (T : Tx) (B : Bs) (σ : L2.St) (env : DEnv) (W : WX) (P : List Addr → Hp → Hp → Mu → α → Prop) (ρ : List Addr) (G : Hp) : Res α → Prop
  | some (.val a, μ') => ∀ ρ' G' H', Same G G' → Pre ρ ρ' → RD T B ρ' G' H' σ env μ' → P ρ' G' H' μ' a
  | some (.exc x, μ') => ∀ ρ' G' H' cls dd, Same G G' → Pre ρ ρ' → RD T B ρ' G' H' σ env μ' → ExR T ρ' G' H' cls dd x → W cls dd σ H'
  | none => False
section
variable {α β : Type} {T : Tx} {B : Bs} {σ : L2.St} {env : DEnv} {W : WX} {P P' : List Addr → Hp → Hp → Mu → α → Prop} {Pb : List Addr → Hp → Hp → Mu → β → Prop} {ρ ρ' : List Addr} {G G' : Hp} {r : Res α} {f : α → Mu → Res β}
theorem KE.weak (h : KE T B σ env W P ρ G r) (s : Same G G') (p : Pre ρ ρ') : KE T B σ env W P ρ' G' r := by
  match r, h with
  | some (.val a, μ), h => exact fun ρ2 G2 H2 s2 p2 R => h ρ2 G2 H2 (s.trans s2) (p.trans p2) R
  | some (.exc x, μ), h => exact fun ρ2 G2 H2 c d s2 p2 R e => h ρ2 G2 H2 c d (s.trans s2) (p.trans p2) R e
theorem KE.imp (h : KE T B σ env W P ρ G r) (i : ∀ ρ' G' H' μ' a, Same G G' → Pre ρ ρ' → RD T B ρ' G' H' σ env μ' → P ρ' G' H' μ' a → P' ρ' G' H' μ' a) : KE T B σ env W P' ρ G r := by
  match r, h with
  | some (.val a, μ), h => exact fun ρ2 G2 H2 s2 p2 R => i _ _ _ _ _ s2 p2 R (h ρ2 G2 H2 s2 p2 R)
  | some (.exc x, μ), h => exact h
theorem KE.bind (h : KE T B σ env W Pb ρ G (bindR r f)) : KE T B σ env W (fun ρ1 G1 _ μ1 a => KE T B σ env W Pb ρ1 G1 (f a μ1)) ρ G r := by
  match r, h with
  | some (.val a, μ), h => exact fun ρ2 G2 H2 s2 p2 R => KE.weak (r := f a μ) h s2 p2
  | some (.exc x, μ), h => exact h
end

/-! ### holding and freezing -/
def hold : D → D
  | .new l => .lst l
  | d => d
def nobor : D → Bool
  | .bor _ => false
  | _ => true
section
variable {T : Tx} {B : Bs} {ρ ρ' : List Addr} {G G' H H' : Hp} {σ : L2.St} {env : DEnv} {μ : Mu}
theorem RepX.hold {v : V} {d : D} (h : RepX T B ρ G H σ env v d) (R : RD T B ρ G H σ env μ) : ∃ G', Same G G' ∧ RD T B ρ G' H σ env μ ∧ HeldR T ρ G' σ env v (hold d) := by
  cases d with
  | new l =>
    obtain ⟨p, vs, rfl, hp, r, z, gn, pn, bn, no, nx⟩ := h
    obtain ⟨G', s, g, R'⟩ := R.freeze hp pn bn no nx
    refine ⟨G', s, R', ?_⟩
    show Rep T ρ G' _ (.lst l)
    unfold Rep
    exact ⟨p, vs, rfl, g, z, r.mono s (.refl _)⟩
  | _ => exact ⟨G, fun _ _ h => h, R, h⟩
theorem HeldR.rep {v : V} {d : D} (h : HeldR T ρ G σ env v d) (n : nobor d = true) : Rep T ρ G v d := by
  cases d with
  | bor l => cases n
  | _ => exact h
/-- arguments that are held -/
inductive HReps (T : Tx) (ρ : List Addr) (G : Hp) (σ : L2.St) (env : DEnv) : List V → List D → Prop where
  | nil : HReps T ρ G σ env [] []
  | cons {v : V} {d : D} {vs : List V} {ds : List D} : HeldR T ρ G σ env v d → HReps T ρ G σ env vs ds → HReps T ρ G σ env (v :: vs) (d :: ds)
theorem HReps.mono (s : Same G G') (p : Pre ρ ρ') {vs : List V} {ds : List D} (h : HReps T ρ G σ env vs ds) : HReps T ρ' G' σ env vs ds := by
  induction h with
  | nil => exact .nil
  | cons a _ ih => exact .cons (a.mono s p) ih
theorem HReps.reps {vs : List V} {ds : List D} (h : HReps T ρ G σ env vs ds) (n : ds.all nobor = true) : Reps T ρ G vs ds := by
  induction h with
  | nil => exact .nil
  | cons a _ ih =>
    simp only [List.all_cons, Bool.and_eq_true] at n
    exact .cons (a.rep n.1) (ih n.2)
theorem HReps.length {vs : List V} {ds : List D} (h : HReps T ρ G σ env vs ds) : vs.length = ds.length := by
  induction h with
  | nil => rfl
  | cons _ _ ih => simp [ih]
end

/-! ### the judgements -/
abbrev tx (X : Cx) : Tx := ⟨X.K, X.mg⟩
def PX (T : Tx) (B : Bs) (σ : L2.St) (env : DEnv) (Q : VK) : List Addr → Hp → Hp → Mu → D → Prop := fun ρ' G' H' _ d => ∀ v, RepX T B ρ' G' H' σ env v d → Q v H'
def rdE (T : Tx) (B : Bs) (W : WX) (m : DEx) : TE := fun σ H Q => ∃ ρ G env μ, RD T B ρ G H σ env μ ∧ KE T B σ env W (PX T B σ env Q) ρ G (m env μ)
structure DE (X : Cx) (B : Bs) (W : WX) (e : Expr) (m : DEx) : Prop where
  run : PE X e (rdE (tx X) B W m)
def rdT (T : Tx) (B : Bs) (W : WX) (m : DEnv → Mu → Res Bool) : TT := fun σ H Q => ∃ ρ G env μ, RD T B ρ G H σ env μ ∧ KE T B σ env W (fun _ _ H' _ b => Q b H') ρ G (m env μ)
structure DT (X : Cx) (B : Bs) (W : WX) (e : Expr) (m : DEnv → Mu → Res Bool) : Prop where
  run : PT X e (rdT (tx X) B W m)
structure DW (X : Cx) (B : Bs) (W : WX) (e : Expr) (m : DEnv → Mu → Res Bool) : Prop where
  run : PW X e (rdT (tx X) B W m)
def rdA (T : Tx) (B : Bs) (W : WX) (m : DEnv → Mu → Res (List D)) : TA := fun σ H Q => ∃ ρ G env μ, RD T B ρ G H σ env μ ∧ KE T B σ env W (fun ρ' G' H' _ ds => ∀ vs, HReps T ρ' G' σ env vs ds → Q vs H') ρ G (m env μ)
structure DA (X : Cx) (B : Bs) (W : WX) (es : List Expr) (m : DEnv → Mu → Res (List D)) : Prop where
  run : PA X es (rdA (tx X) B W m)
section
variable {X : Cx} {e : Expr} {es : List Expr}
theorem peImp {t t' : TE} (h : PE X e t) (i : ∀ σ H Q, t' σ H Q → t σ H Q) : PE X e t' := ⟨fun pins s σ H Q I q => h.run pins s σ H Q I (i σ H Q q)⟩
theorem ptImp {t t' : TT} (h : PT X e t) (i : ∀ σ H Q, t' σ H Q → t σ H Q) : PT X e t' := ⟨fun pins s σ H Q I q => h.run pins s σ H Q I (i σ H Q q)⟩
theorem pwImp {t t' : TT} (h : PW X e t) (i : ∀ σ H Q, t' σ H Q → t σ H Q) : PW X e t' := ⟨fun wh pins s σ H Q I q => h.run wh pins s σ H Q I (i σ H Q q)⟩
theorem paImp {t t' : TA} (h : PA X es t) (i : ∀ σ H Q, t' σ H Q → t σ H Q) : PA X es t' := ⟨fun pos pins s σ H Q I q => h.run pos pins s σ H Q I (i σ H Q q)⟩
end
/-- one evaluation, then the next -/
theorem rd_then {T : Tx} {B : Bs} {W : WX} {σ : L2.St} {env : DEnv} {β : Type} {Pb : List Addr → Hp → Hp → Mu → β → Prop} {ρ : List Addr} {G H : Hp} {μ : Mu} {m : DEx} {f : D → Mu → Res β} {Q : VK}
    (R : RD T B ρ G H σ env μ) (k : KE T B σ env W Pb ρ G (bindR (m env μ) f))
    (h : ∀ ρ1 G1 H1 μ1 x d, Same G G1 → Pre ρ ρ1 → RD T B ρ1 G1 H1 σ env μ1 → HeldR T ρ1 G1 σ env x (hold d) → KE T B σ env W Pb ρ1 G1 (f d μ1) → Q x H1) : rdE T B W m σ H Q := by
  refine ⟨ρ, G, env, μ, R, k.bind.imp fun ρ1 G1 H1 μ1 d s p R1 k1 x hx => ?_⟩
  obtain ⟨G2, s2, R2, h2⟩ := hx.hold R1
  exact h ρ1 G2 H1 μ1 x d (s.trans s2) p R2 h2 (k1.weak s2 (.refl _))
end Dv

/-! DvB: the rules of expressions. -/
namespace Dv
open PySem PySem.Spec PyProof.Rows L2
section
variable {X : Cx} {B : Bs} {W : WX} {e a b : Expr} {es : List Expr} {m ma mb : DEx} {ms : DEnv → Mu → Res (List D)} {pos : Pos}
/-! ### names and constants -/
def dVar (i : Nat) : DEx := fun env μ => match env[i]? with
  | some (.v d) => ret d μ
  | some (.own l) => ret (.bor l) μ
  | _ => none
def dC (d : D) : DEx := fun _ μ => ret d μ
theorem de_var {i : Nat} (h : PE X e (tVar i)) : DE X B W e (dVar i) := by
  refine ⟨peImp h fun σ H Q ⟨ρ, G, env, μ, R, k⟩ => ?_⟩
  unfold dVar at k
  cases hs : env[i]? with
  | none => rw [hs] at k; exact k.elim
  | some s =>
    rw [hs] at k
    have q := R.slot i s hs
    cases s with
    | no => exact k.elim
    | v d =>
      obtain ⟨v, hv, r⟩ := q
      exact ⟨v, hv, k ρ G H (fun _ _ h => h) (.refl _) R v (.ofR r)⟩
    | own l =>
      obtain ⟨p, vs, hv, _⟩ := q
      exact ⟨_, hv, k ρ G H (fun _ _ h => h) (.refl _) R (.ref p) ⟨i, p, hs, hv, rfl⟩⟩
theorem de_c {v : V} {d : D} (h : PE X e (tC v)) (r : ∀ ρ G, Rep (tx X) ρ G v d) : DE X B W e (dC d) := by
  refine ⟨peImp h fun σ H Q ⟨ρ, G, env, μ, R, k⟩ => ?_⟩
  exact k ρ G H (fun _ _ h => h) (.refl _) R v (.ofR (r ρ G))
theorem rep_int {T : Tx} {ρ : List Addr} {G : Hp} {i : Int} : Rep T ρ G (.int i) (.int i) := by unfold Rep; rfl
theorem rep_bl {T : Tx} {ρ : List Addr} {G : Hp} {i : Bool} : Rep T ρ G (.bl i) (.bl i) := by unfold Rep; rfl
theorem rep_str {T : Tx} {ρ : List Addr} {G : Hp} {i : Str} : Rep T ρ G (.str i) (.str i) := by unfold Rep; rfl
theorem rep_non {T : Tx} {ρ : List Addr} {G : Hp} : Rep T ρ G .non .non := by unfold Rep; rfl
theorem rep_ty {T : Tx} {ρ : List Addr} {G : Hp} {i : String} : Rep T ρ G (.ty i) (.ty i) := by unfold Rep; rfl
theorem de_int {i j pos} : DE X B W (.Constant (.int i) j pos) (dC (.int i)) := de_c pe_int fun _ _ => rep_int
theorem de_bl {i j pos} : DE X B W (.Constant (.bool i) j pos) (dC (.bl i)) := de_c pe_bl fun _ _ => rep_bl
theorem de_str {i j pos} : DE X B W (.Constant (.str i) j pos) (dC (.str i)) := de_c pe_str fun _ _ => rep_str
theorem de_non {j pos} : DE X B W (.Constant .none j pos) (dC .non) := de_c pe_non fun _ _ => rep_non

/-! ### operators -/
abbrev F2 := D → D → Mu → Res D
def dBin (f : F2) (ma mb : DEx) : DEx := fun env μ => bindR (ma env μ) fun d μ => bindR (mb env μ) fun d' μ => f (hold d) (hold d') μ
/-- an operation by values -/
def OpD (T : Tx) (r : R2) (f : F2) : Prop := ∀ (B : Bs) (W : WX) (σ : L2.St) (env : DEnv) (ρ : List Addr) (G H : Hp) (μ : Mu) (x y : V) (d d' : D) (Q : VK),
  RD T B ρ G H σ env μ → HeldR T ρ G σ env x d → HeldR T ρ G σ env y d' → KE T B σ env W (PX T B σ env Q) ρ G (f d d' μ) → r x y H Q
theorem rd_bin {T : Tx} {r : R2} {f : F2} (hf : OpD T r f) {σ : L2.St} {H : Hp} {Q : VK} (h : rdE T B W (dBin f ma mb) σ H Q) : tOp r (rdE T B W ma) (rdE T B W mb) σ H Q := by
  obtain ⟨ρ, G, env, μ, R, k⟩ := h
  refine rd_then (f := fun d μ => bindR (mb env μ) fun d' μ => f (hold d) (hold d') μ) R k fun ρ1 G1 H1 μ1 x d s p R1 hx k1 => ?_
  refine rd_then (f := fun d' μ => f (hold d) (hold d') μ) R1 k1 fun ρ2 G2 H2 μ2 y d' s2 p2 R2 hy k2 => ?_
  exact hf B W σ env ρ2 G2 H2 μ2 x y _ _ Q R2 (hx.mono s2 p2) hy k2
theorem de_op {op : Operator} {r : R2} {f : F2} (ho : OpR X (binaryOp op) r) (hf : OpD (tx X) r f) (ha : DE X B W a ma) (hb : DE X B W b mb) : DE X B W (.BinOp a op b pos) (dBin f ma mb) :=
  ⟨peImp (pe_op ho ha.run hb.run) fun _ _ _ h => rd_bin hf h⟩
theorem de_cmp {op : CmpOp} {r : R2} {f : F2} (ho : OpR X (compareOp op) r) (hf : OpD (tx X) r f) (ha : DE X B W a ma) (hb : DE X B W b mb) (hm : behindInMarks op b = false) : DE X B W (.Compare a [op] [b] pos) (dBin f ma mb) :=
  ⟨peImp (pe_cmpR ho ha.run hb.run hm) fun _ _ _ h => rd_bin hf h⟩
theorem de_ix {r : R2} {f : F2} (ho : IxR X r) (hf : OpD (tx X) r f) (ha : DE X B W a ma) (hb : DE X B W b mb) (hs : PlainIx b) : DE X B W (.Subscript a b pos) (dBin f ma mb) :=
  ⟨peImp (pe_ix ho ha.run hb.run hs) fun _ _ _ h => rd_bin hf h⟩
/-! ### arithmetic -/
theorem int_inv {T : Tx} {ρ : List Addr} {G : Hp} {σ : L2.St} {env : DEnv} {x : V} {i : Int} (h : HeldR T ρ G σ env x (.int i)) : x = .int i := by
  have h : Rep T ρ G x (.int i) := h
  unfold Rep at h; exact h
def fAdd : F2
  | .int i, .int j, μ => ret (.int (i + j)) μ
  | .tup l, .tup m, μ => if szl (l.length + m.length) then ret (.tup (l ++ m)) μ else none
  | .lst l, .lst m, μ => if szl (l.length + m.length) then ret (.new (l ++ m)) μ else none
  | .str x, .str y, μ => if szl (x.length + y.length) then ret (.str (x ++ y)) μ else none
  | _, _, _ => none
def rAddA (K : PySem.W.Frag) : R2 := fun x y H Q => rI0 (fun i j => .int (i + j)) x y H Q ∨ rCatA K x y H Q ∨ rCat x y H Q ∨ (∃ i j, x = .str i ∧ y = .str j ∧ i.length + j.length ≤ sizeLine ∧ Q (.str (i ++ j)) H)
theorem op_addA : OpR X (binaryOp .Add) (rAddA X.K) := op_add.or (op_catA.or (op_cat.or op_add_str))
theorem szl_line {n : Nat} (h : szl n) : n ≤ sizeLine := by rw [sizeLine_eq]; exact h
section
variable {T : Tx} {ρ : List Addr} {G H : Hp} {σ : L2.St} {env : DEnv} {μ : Mu} {x : V} {Q : VK}
theorem tup_inv {l : List D} (h : HeldR T ρ G σ env x (.tup l)) : ∃ a vs, x = .ref a ∧ SqG T.K G a vs ∧ szl l.length ∧ Reps T ρ G vs l := by
  have h : Rep T ρ G x (.tup l) := h
  unfold Rep at h; exact h
theorem lst_inv {l : List D} (h : HeldR T ρ G σ env x (.lst l)) : ∃ a vs, x = .ref a ∧ G a = some (.lst vs) ∧ szl l.length ∧ Reps T ρ G vs l := by
  have h : Rep T ρ G x (.lst l) := h
  unfold Rep at h; exact h
theorem str_inv {z : Str} (h : HeldR T ρ G σ env x (.str z)) : x = .str z := by
  have h : Rep T ρ G x (.str z) := h
  unfold Rep at h; exact h
theorem bl_inv {z : Bool} (h : HeldR T ρ G σ env x (.bl z)) : x = .bl z := by
  have h : Rep T ρ G x (.bl z) := h
  unfold Rep at h; exact h
theorem rep_tup {a : Addr} {vs : List V} {l : List D} (h : SqG T.K G a vs) (z : szl l.length) (r : Reps T ρ G vs l) : Rep T ρ G (.ref a) (.tup l) := by
  unfold Rep; exact ⟨a, vs, rfl, h, z, r⟩
theorem rep_lst {a : Addr} {vs : List V} {l : List D} (h : G a = some (.lst vs)) (z : szl l.length) (r : Reps T ρ G vs l) : Rep T ρ G (.ref a) (.lst l) := by
  unfold Rep; exact ⟨a, vs, rfl, h, z, r⟩
/-- nothing has happened -/
theorem KE.here {d : D} {v : V} (k : KE T B σ env W (PX T B σ env Q) ρ G (ret d μ)) (R : RD T B ρ G H σ env μ) (r : RepX T B ρ G H σ env v d) : Q v H := k ρ G H (fun _ _ h => h) (.refl _) R v r
/-- a new tuple -/
theorem KE.newT {l : List D} {vs : List V} (k : KE T B σ env W (PX T B σ env Q) ρ G (ret (.tup l) μ)) (R : RD T B ρ G H σ env μ) (r : Reps T ρ G vs l) (z : szl l.length) : ∀ p, H p = none → Q (.ref p) (upd H p (.tup vs)) := fun p n => by
  have gn := (R.fresh_ n).1
  exact k ρ _ _ (same_upd gn) (.refl _) (R.alloc n) _ (.ofR (rep_tup (.inl upd_same) z (r.mono (same_upd gn) (.refl _))))
/-- a new list -/
theorem KE.newL {l : List D} {vs : List V} (k : KE T B σ env W (PX T B σ env Q) ρ G (ret (.new l) μ)) (R : RD T B ρ G H σ env μ) (r : Reps T ρ G vs l) (z : szl l.length) : ∀ p, H p = none → Q (.ref p) (upd H p (.lst vs)) := fun p n => by
  obtain ⟨gn, pn, bn⟩ := R.fresh_ n
  refine k ρ G _ (fun _ _ h => h) (.refl _) (R.allocN n) _ ⟨p, vs, rfl, upd_same, r, z, gn, pn, bn, fun i l' e1 e2 => ?_, fun q hq e => ?_⟩
  · obtain ⟨q, us, e3, e4, _⟩ := R.slot i _ e1
    rw [e2] at e3; cases e3
    rw [n] at e4; cases e4
  · have e1 := (R.xo q hq).1
    rw [e, n] at e1; cases e1
/-- the list at a value -/
def seqL : D → Option (List D)
  | .lst l => some l
  | .bor l => some l
  | _ => none
theorem seqL_inv {d : D} {l : List D} (R : RD T B ρ G H σ env μ) (h : HeldR T ρ G σ env x d) (e : seqL d = some l) : ∃ a vs, x = .ref a ∧ H a = some (.lst vs) ∧ szl l.length ∧ Reps T ρ G vs l := by
  cases d with
  | lst l' =>
    cases e
    obtain ⟨a, vs, q, g, z, r⟩ := lst_inv h
    exact ⟨a, vs, q, R.gh _ _ g, z, r⟩
  | bor l' =>
    cases e
    obtain ⟨i, p, e1, e2, rfl⟩ := h
    obtain ⟨p', vs, e3, e4, r, z, _⟩ := R.slot i _ e1
    rw [e2] at e3; cases e3
    exact ⟨p, vs, rfl, e4, z, r⟩
  | _ => cases e
end
theorem opd_add : OpD (tx X) (rAddA X.K) fAdd := by
  intro B W σ env ρ G H μ x y d d' Q R hx hy k
  unfold fAdd at k
  split at k
  · exact .inl ⟨_, _, int_inv hx, int_inv hy, k.here R (.ofR rep_int)⟩
  · rename_i l m
    split at k
    · rename_i hz
      obtain ⟨a, vs, rfl, q, z, r⟩ := tup_inv hx
      obtain ⟨b, us, rfl, q', z', r'⟩ := tup_inv hy
      refine .inr (.inl ⟨a, b, vs, us, rfl, rfl, (sqG_mono R.gh q).sq, (sqG_mono R.gh q').sq, by rw [r.length, r'.length]; exact szl_line hz, fun e => ?_, fun _ e => ?_, fun _ _ => k.newT R (r.append r') (by simpa using hz)⟩)
      · subst e
        have e0 : l = [] := by have := r.length; simp at this; exact List.length_eq_zero_iff.mp this.symm
        subst e0
        exact k.here R (.ofR (rep_tup q' z' r'))
      · subst e
        have e0 : m = [] := by have := r'.length; simp at this; exact List.length_eq_zero_iff.mp this.symm
        subst e0
        rw [List.append_nil] at k
        exact k.here R (.ofR (rep_tup q z r))
    · exact k.elim
  · rename_i l m
    split at k
    · rename_i hz
      obtain ⟨a, vs, rfl, q, z, r⟩ := lst_inv hx
      obtain ⟨b, us, rfl, q', z', r'⟩ := lst_inv hy
      exact .inr (.inr (.inl ⟨a, b, vs, us, rfl, rfl, R.gh _ _ q, R.gh _ _ q', by rw [r.length, r'.length]; exact szl_line hz, k.newL R (r.append r') (by simpa using hz)⟩))
    · exact k.elim
  · split at k
    · rename_i hz
      exact .inr (.inr (.inr ⟨_, _, str_inv hx, str_inv hy, szl_line hz, k.here R (.ofR rep_str)⟩))
    · exact k.elim
  · exact k.elim
def fSub : F2
  | .int i, .int j, μ => ret (.int (i - j)) μ
  | _, _, _ => none
theorem opd_sub : OpD (tx X) (rI0 fun i j => .int (i - j)) fSub := by
  intro B W σ env ρ G H μ x y d d' Q R hx hy k
  unfold fSub at k
  split at k
  · exact ⟨_, _, int_inv hx, int_inv hy, k.here R (.ofR rep_int)⟩
  · exact k.elim
def fMod : F2
  | .int i, .int j, μ => if 0 < j then ret (.int (i % j)) μ else none
  | _, _, _ => none
theorem opd_mod : OpD (tx X) (rI (fun _ j => 0 < j) fun i j => .int (i % j)) fMod := by
  intro B W σ env ρ G H μ x y d d' Q R hx hy k
  unfold fMod at k
  split at k
  · split at k
    · rename_i h0
      exact ⟨_, _, int_inv hx, int_inv hy, h0, k.here R (.ofR rep_int)⟩
    · exact k.elim
  · exact k.elim
def fCmp (p : Int → Int → Bool) : F2
  | .int i, .int j, μ => ret (.bl (p i j)) μ
  | _, _, _ => none
theorem opd_cmp {p : Int → Int → Bool} : OpD (tx X) (rI0 fun i j => .bl (p i j)) (fCmp p) := by
  intro B W σ env ρ G H μ x y d d' Q R hx hy k
  unfold fCmp at k
  split at k
  · exact ⟨_, _, int_inv hx, int_inv hy, k.here R (.ofR rep_bl)⟩
  · exact k.elim
end
end Dv

/-! DvC: products, equality, membership, tests, arguments, displays, subscripts. -/
namespace Dv
open PySem PySem.Spec PyProof.Rows L2
/-! ### data for == -/
mutual
def toPy : D → PyData
  | .non => .none
  | .bl b => .bool b
  | .int i => .int i
  | .str x => .str x
  | .tup l => .tuple (toPys l)
  | .lst l => .list (toPys l)
  | .bor l => .list (toPys l)
  | .new _ => .none
  | .ty _ => .none
  | .scr _ => .none
  | .ins _ _ => .none
  | .exn _ _ => .none
  | .obj _ => .none
  | .glo _ => .none
  | .fn _ => .none
  | .rng _ _ => .none
def toPys : List D → List PyData
  | [] => []
  | d :: ds => toPy d :: toPys ds
end
/-- the data of at most n levels -/
def plainD : Nat → D → Bool
  | _, .non => true
  | _, .bl _ => true
  | _, .int _ => true
  | _, .str x => PyData.strOk x
  | n + 1, .tup l => l.all (plainD n)
  | n + 1, .lst l => l.all (plainD n)
  | n + 1, .bor l => l.all (plainD n)
  | _, _ => false
def deq (a b : D) : Bool := PyData.eqv (toPy a) (toPy b)
section
variable {X : Cx} {B : Bs} {W : WX} {T : Tx} {ρ : List Addr} {G H : Hp} {σ : L2.St} {env : DEnv} {μ : Mu} {x : V} {Q : VK}
mutual
theorem dp_of {K : PySem.W.Frag} (gh : Same G H) (hk : K = T.K) : ∀ {d : D} {v : V} {n : Nat}, plainD n d = true → Rep T ρ G v d → Dp K H v (toPy d)
  | .non, v, n, _, r => by unfold Rep at r; subst r; exact .non
  | .bl b, v, n, _, r => by unfold Rep at r; subst r; exact .bl b
  | .int b, v, n, _, r => by unfold Rep at r; subst r; exact .int b
  | .str b, v, n, _, r => by unfold Rep at r; subst r; exact .str b
  | .tup l, v, 0, h, r => by unfold plainD at h; cases h
  | .tup l, v, n + 1, h, r => by
    unfold Rep at r; obtain ⟨a, vs, rfl, q, z, rs⟩ := r
    unfold plainD at h
    subst hk
    unfold toPy
    exact .tup (sqG_mono gh q).sq (dps_of gh rfl h rs)
  | .lst l, v, 0, h, r => by unfold plainD at h; cases h
  | .lst l, v, n + 1, h, r => by
    unfold Rep at r; obtain ⟨a, vs, rfl, q, z, rs⟩ := r
    unfold plainD at h
    unfold toPy
    exact .lst (.of (gh _ _ q)) (dps_of gh hk h rs)
  | .bor l, v, n, h, r => by unfold Rep at r; exact r.elim
  | .new l, v, n, h, r => by unfold Rep at r; exact r.elim
  | .ty _, v, n, h, r => by unfold plainD at h; cases h
  | .scr _, v, n, h, r => by unfold plainD at h; cases h
  | .ins _ _, v, n, h, r => by unfold plainD at h; cases h
  | .exn _ _, v, n, h, r => by unfold plainD at h; cases h
  | .obj _, v, n, h, r => by unfold plainD at h; cases h
  | .glo _, v, n, h, r => by unfold plainD at h; cases h
  | .fn _, v, n, h, r => by unfold plainD at h; cases h
  | .rng _ _, v, n, h, r => by unfold plainD at h; cases h
theorem dps_of {K : PySem.W.Frag} (gh : Same G H) (hk : K = T.K) : ∀ {l : List D} {vs : List V} {n : Nat}, l.all (plainD n) = true → Reps T ρ G vs l → DpAll K H vs (toPys l)
  | [], vs, n, _, r => by unfold Reps at r; subst r; unfold toPys; exact .nil
  | d :: ds, vs, n, h, r => by
    unfold Reps at r; obtain ⟨v, t, rfl, q, rs⟩ := r
    simp only [List.all_cons, Bool.and_eq_true] at h
    unfold toPys
    exact .cons (dp_of gh hk h.1 q) (dps_of gh hk h.2 rs)
end
mutual
theorem lay_of : ∀ {d : D} {n : Nat}, plainD n d = true → (toPy d).canLay0 = true ∧ (toPy d).depth ≤ n
  | .non, n, _ => by simp [toPy, PyData.canLay0, PyData.depth]
  | .bl b, n, _ => by simp [toPy, PyData.canLay0, PyData.depth]
  | .int b, n, _ => by simp [toPy, PyData.canLay0, PyData.depth]
  | .str b, n, h => by unfold plainD at h; simp [toPy, PyData.canLay0, PyData.depth, h]
  | .tup l, 0, h => by unfold plainD at h; cases h
  | .tup l, n + 1, h => by
    unfold plainD at h
    have q := lays_of h
    unfold toPy
    simp only [PyData.canLay0, PyData.depth]
    exact ⟨q.1, by omega⟩
  | .lst l, 0, h => by unfold plainD at h; cases h
  | .lst l, n + 1, h => by
    unfold plainD at h
    have q := lays_of h
    unfold toPy
    simp only [PyData.canLay0, PyData.depth]
    exact ⟨q.1, by omega⟩
  | .bor l, 0, h => by unfold plainD at h; cases h
  | .bor l, n + 1, h => by
    unfold plainD at h
    have q := lays_of h
    unfold toPy
    simp only [PyData.canLay0, PyData.depth]
    exact ⟨q.1, by omega⟩
  | .new _, n, h => by unfold plainD at h; cases h
  | .ty _, n, h => by unfold plainD at h; cases h
  | .scr _, n, h => by unfold plainD at h; cases h
  | .ins _ _, n, h => by unfold plainD at h; cases h
  | .exn _ _, n, h => by unfold plainD at h; cases h
  | .obj _, n, h => by unfold plainD at h; cases h
  | .glo _, n, h => by unfold plainD at h; cases h
  | .fn _, n, h => by unfold plainD at h; cases h
  | .rng _ _, n, h => by unfold plainD at h; cases h
theorem lays_of : ∀ {l : List D} {n : Nat}, l.all (plainD n) = true → PyData.canLayAll0 (toPys l) = true ∧ PyData.depthAll (toPys l) ≤ n
  | [], n, _ => by simp [toPys, PyData.canLayAll0, PyData.depthAll]
  | d :: ds, n, h => by
    simp only [List.all_cons, Bool.and_eq_true] at h
    have q1 := lay_of h.1
    have q2 := lays_of h.2
    unfold toPys
    simp only [PyData.canLayAll0, PyData.depthAll]
    exact ⟨by rw [q1.1, q2.1]; rfl, by omega⟩
end
theorem shaped_of {d : D} (h : plainD 60 d = true) : SeqAt.shaped (toPy d) = true := by
  obtain ⟨a, b⟩ := lay_of h
  unfold SeqAt.shaped
  rw [a, decide_eq_true (by omega)]; rfl
theorem dp_held {K : PySem.W.Frag} (R : RD T B ρ G H σ env μ) (hk : K = T.K) {d : D} (h : plainD 60 d = true) (r : HeldR T ρ G σ env x d) : Dp K H x (toPy d) := by
  cases d with
  | bor l =>
    obtain ⟨a, vs, rfl, q, z, rs⟩ := seqL_inv (d := .bor l) R r rfl
    unfold plainD at h
    unfold toPy
    exact .lst (.of q) (dps_of R.gh hk h rs)
  | _ => exact dp_of (ρ := ρ) R.gh hk h r
def fEq : F2 := fun a b μ => if plainD 60 a && plainD 60 b then ret (.bl (deq a b)) μ else none
def fNe : F2 := fun a b μ => if plainD 60 a && plainD 60 b then ret (.bl (!deq a b)) μ else none
theorem opd_eq : OpD (tx X) (rEqD X.K) fEq := by
  intro B W σ env ρ G H μ x y d d' Q R hx hy k
  unfold fEq at k
  split at k
  · rename_i h
    simp only [Bool.and_eq_true] at h
    exact ⟨_, _, dp_held R rfl h.1 hx, dp_held R rfl h.2 hy, shaped_of h.1, shaped_of h.2, k.here R (.ofR rep_bl)⟩
  · exact k.elim
theorem opd_ne : OpD (tx X) (rNeD X.K) fNe := by
  intro B W σ env ρ G H μ x y d d' Q R hx hy k
  unfold fNe at k
  split at k
  · rename_i h
    simp only [Bool.and_eq_true] at h
    exact ⟨_, _, dp_held R rfl h.1 hx, dp_held R rfl h.2 hy, shaped_of h.1, shaped_of h.2, k.here R (.ofR rep_bl)⟩
  · exact k.elim
/-- x in a list -/
def fIn (neg : Bool) : F2 := fun a b μ => match seqL b with
  | some l => if plainD 59 a && l.all (plainD 59) then ret (.bl (neg != l.any fun z => deq z a)) μ else none
  | none => none
theorem plain_up : ∀ {d : D} {n : Nat}, plainD n d = true → plainD (n + 1) d = true
  | .non, n, _ => by unfold plainD; rfl
  | .bl b, n, _ => by unfold plainD; rfl
  | .int b, n, _ => by unfold plainD; rfl
  | .str b, n, h => by unfold plainD at h ⊢; exact h
  | .tup l, 0, h => by unfold plainD at h; cases h
  | .tup l, n + 1, h => by
    unfold plainD at h ⊢
    rw [List.all_eq_true] at h ⊢
    intro d hd
    have := List.sizeOf_lt_of_mem hd
    exact plain_up (h d hd)
  | .lst l, 0, h => by unfold plainD at h; cases h
  | .lst l, n + 1, h => by
    unfold plainD at h ⊢
    rw [List.all_eq_true] at h ⊢
    intro d hd
    have := List.sizeOf_lt_of_mem hd
    exact plain_up (h d hd)
  | .bor l, 0, h => by unfold plainD at h; cases h
  | .bor l, n + 1, h => by
    unfold plainD at h ⊢
    rw [List.all_eq_true] at h ⊢
    intro d hd
    have := List.sizeOf_lt_of_mem hd
    exact plain_up (h d hd)
  | .new _, n, h => by unfold plainD at h; cases h
  | .ty _, n, h => by unfold plainD at h; cases h
  | .scr _, n, h => by unfold plainD at h; cases h
  | .ins _ _, n, h => by unfold plainD at h; cases h
  | .exn _ _, n, h => by unfold plainD at h; cases h
  | .obj _, n, h => by unfold plainD at h; cases h
  | .glo _, n, h => by unfold plainD at h; cases h
  | .fn _, n, h => by unfold plainD at h; cases h
  | .rng _ _, n, h => by unfold plainD at h; cases h
theorem toPys_eq : ∀ l : List D, toPys l = l.map toPy
  | [] => by unfold toPys; rfl
  | d :: ds => by unfold toPys; rw [toPys_eq ds]; rfl
theorem any_py (l : List D) (a : D) : ((toPys l).any fun z => PyData.eqv z (toPy a)) = l.any fun z => deq z a := by
  rw [toPys_eq, List.any_map]; rfl
theorem shaped_list {l : List D} (h : l.all (plainD 59) = true) : SeqAt.shaped (.list (toPys l)) = true := by
  have : plainD 60 (.lst l) = true := by unfold plainD; exact h
  have q := shaped_of this
  unfold toPy at q
  exact q
def rIn2 (K : PySem.W.Frag) : R2 := fun x y H Q => rInD K x y H Q
theorem opd_in : OpD (tx X) (rInD X.K) (fIn false) := by
  intro B W σ env ρ G H μ x y d d' Q R hx hy k
  unfold fIn at k
  split at k
  · rename_i l hl
    split at k
    · rename_i h
      simp only [Bool.and_eq_true] at h
      obtain ⟨a, vs, rfl, q, z, rs⟩ := seqL_inv R hy hl
      refine ⟨_, _, dp_held R rfl (plain_up h.1) hx, .lst (.of q) (dps_of (T := tx X) R.gh rfl h.2 rs), shaped_of (plain_up h.1), shaped_list h.2, ?_⟩
      rw [any_py]
      simp only [Bool.false_bne] at k
      exact k.here R (.ofR rep_bl)
    · exact k.elim
  · exact k.elim
theorem opd_notIn : OpD (tx X) (rNotInD X.K) (fIn true) := by
  intro B W σ env ρ G H μ x y d d' Q R hx hy k
  unfold fIn at k
  split at k
  · rename_i l hl
    split at k
    · rename_i h
      simp only [Bool.and_eq_true] at h
      obtain ⟨a, vs, rfl, q, z, rs⟩ := seqL_inv R hy hl
      refine ⟨_, _, dp_held R rfl (plain_up h.1) hx, .lst (.of q) (dps_of (T := tx X) R.gh rfl h.2 rs), shaped_of (plain_up h.1), shaped_list h.2, ?_⟩
      rw [any_py]
      simp only [Bool.true_bne] at k
      exact k.here R (.ofR rep_bl)
    · exact k.elim
  · exact k.elim
/-- is None -/
def isNon : D → Bool
  | .non => true
  | _ => false
theorem isNon_of {d : D} (r : HeldR T ρ G σ env x d) : decide (x = .non) = isNon d := by
  cases d with
  | non => have r : Rep T ρ G x .non := r; unfold Rep at r; subst r; rfl
  | bl b => rw [bl_inv r]; rfl
  | int b => rw [int_inv r]; rfl
  | str b => rw [str_inv r]; rfl
  | ty b => have r : Rep T ρ G x (.ty b) := r; unfold Rep at r; subst r; rfl
  | tup l => obtain ⟨a, vs, rfl, _⟩ := tup_inv r; rfl
  | lst l => obtain ⟨a, vs, rfl, _⟩ := lst_inv r; rfl
  | scr l => have r : Rep T ρ G x (.scr l) := r; unfold Rep at r; obtain ⟨a, vs, rfl, _⟩ := r; rfl
  | new l => have r : Rep T ρ G x (.new l) := r; unfold Rep at r; exact r.elim
  | bor l => obtain ⟨i, p, _, _, rfl⟩ := r; rfl
  | ins c fs => have r : Rep T ρ G x (.ins c fs) := r; unfold Rep at r; obtain ⟨a, C, dx, vf, rfl, _⟩ := r; rfl
  | exn c fs => have r : Rep T ρ G x (.exn c fs) := r; unfold Rep at r; obtain ⟨a, C, dx, vf, rfl, _⟩ := r; rfl
  | obj k => have r : Rep T ρ G x (.obj k) := r; unfold Rep at r; obtain ⟨a, rfl, _⟩ := r; rfl
  | glo k => have r : Rep T ρ G x (.glo k) := r; unfold Rep at r; obtain ⟨a, rfl, _⟩ := r; rfl
  | fn a => have r : Rep T ρ G x (.fn a) := r; unfold Rep at r; subst r; rfl
  | rng _ _ => have r : Rep T ρ G x (.rng _ _) := r; unfold Rep at r; obtain ⟨a, rfl, _⟩ := r; rfl
def fIs (neg : Bool) : F2
  | d, .non, μ => ret (.bl (neg != isNon d)) μ
  | _, _, _ => none
theorem opd_is : OpD (tx X) (fun x y H Q => y = .non ∧ Q (.bl (decide (x = .non))) H) (fIs false) := by
  intro B W σ env ρ G H μ x y d d' Q R hx hy k
  unfold fIs at k
  split at k
  · have hy : Rep (tx X) ρ G y .non := hy
    unfold Rep at hy; subst hy
    refine ⟨rfl, ?_⟩
    rw [isNon_of hx]
    simp only [Bool.false_bne] at k
    exact k.here R (.ofR rep_bl)
  · exact k.elim
theorem opd_isNot : OpD (tx X) (fun x y H Q => y = .non ∧ Q (.bl (!decide (x = .non))) H) (fIs true) := by
  intro B W σ env ρ G H μ x y d d' Q R hx hy k
  unfold fIs at k
  split at k
  · have hy : Rep (tx X) ρ G y .non := hy
    unfold Rep at hy; subst hy
    refine ⟨rfl, ?_⟩
    rw [isNon_of hx]
    simp only [Bool.true_bne] at k
    exact k.here R (.ofR rep_bl)
  · exact k.elim
/-! ### products -/
def cmul (i j : Int) : Bool := decide (i.natAbs < 18446744073709551616) || decide (j.natAbs < 18446744073709551616)
def repL {α : Type} (n : Nat) (l : List α) : List α := (List.replicate n l).flatten
def fMul : F2
  | .int i, .int j, μ => if cmul i j then ret (.int (i * j)) μ else none
  | .lst l, .int k, μ => if k.natAbs < 1000000 ∧ szl (l.length * k.toNat) then ret (.new (repL k.toNat l)) μ else none
  | .tup l, .int k, μ => if 1 ≤ k ∧ k ≤ 1000 ∧ l.length ≤ 1000 ∧ l ≠ [] then ret (.tup (repL k.toNat l)) μ else none
  | _, _, _ => none
theorem Reps.rep {vs : List V} {l : List D} (r : Reps T ρ G vs l) : ∀ n : Nat, Reps T ρ G (List.replicate n vs).flatten (repL n l)
  | 0 => by simp [repL, Reps]
  | n + 1 => by
    unfold repL
    rw [List.replicate_succ, List.flatten_cons, List.replicate_succ, List.flatten_cons]
    exact r.append (Reps.rep r n)
theorem repL_len {α : Type} (l : List α) : ∀ n : Nat, (repL n l).length = n * l.length
  | 0 => by simp [repL]
  | n + 1 => by
    have := repL_len l n
    unfold repL at this ⊢
    rw [List.replicate_succ, List.flatten_cons, List.length_append, this, Nat.succ_mul]; omega
theorem repL_one {α : Type} (l : List α) : repL 1 l = l := by simp [repL]
theorem tuple_mul_one (l : Addr) (items : Array Value) (n : Nat) (dd : Option Addr) (sl : Array (Option Value)) (u : Tok) :
    Meets (Builtin.«tuple.__mul__» ⟨[.ref l, .int 1 u], []⟩) (fun _ R s => s.heap.get? l = some { cls := .type "tuple", dict := dd, data := .seq items n, slots := sl } ∧ R (.ok (.ret (.ref l))) s) :=
  .of_wp fun prog w A R s h => by
    obtain ⟨hp, g, d, tk, os⟩ := s
    obtain ⟨hl, h⟩ := h
    have f1 := AutoSeq1.idx_int
    wp_walk using wpAny_loadPart' hl
    repeat (first
      | (refine wpAny_ite_false (decide_eq_false (by decide)) ?_; wp_walk using wpAny_loadPart' hl)
      | (refine wpAny_ite_true (decide_eq_true (by simp)) ?_; wp_walk using wpAny_loadPart' hl))
    exact ⟨_, rfl, h⟩
/-- a tuple times 1 is the tuple itself -/
theorem op_rep1 : OpR X (binaryOp .Mult) (fun x y H Q => ∃ l xs, x = .ref l ∧ y = .int 1 ∧ SqT X.K H l xs ∧ Q (.ref l) H) := by
  intro pins s σ H x y v u Q I rx ry h
  obtain ⟨l, xs, rfl, rfl, hT, q⟩ := h
  cases rx
  obtain ⟨t, rfl⟩ := ry
  obtain ⟨its, r, ⟨⟨cls, dd, data, sl⟩, ho, hc, n, hd⟩, hs⟩ := I.tuple hT
  simp only at hc hd
  subst hc hd
  refine wpAny_binaryOp_repeat_ref (T := "tuple") (U := "int") (by decide) ⟨_, ho, rfl⟩ (fun s' => typeIs_int s' 1 t) noFill_tuple_mul F.fills_int_mul F.slot_int_rmul repeat_tuple F.slot_int_index.lookup
    (call_meets F.slot_int_rmul (typeIs_int s 1 t) F.entry_int_rmul (F.args_int_rmul_2 _ _) (int_rmul_tuple 1 t l its.toArray n dd sl)
      ⟨ho, rfl, ⟨_, ho, rfl⟩, call_meets F.slot_tuple_mul ⟨_, ho, rfl⟩ F.entry_tuple_mul (F.args_tuple_mul_2 _ _) (tuple_mul_one l its.toArray n dd sl t) ⟨ho, ?_⟩⟩)
  exact ⟨.ref l, H, I.tok _, rfl, q⟩
def rMulA (K : PySem.W.Frag) : R2 := fun x y H Q => rI CMul (fun i j => .int (i * j)) x y H Q ∨ rRepT K x y H Q ∨ rRep x y H Q ∨ (∃ l xs, x = .ref l ∧ y = .int 1 ∧ SqT K H l xs ∧ Q (.ref l) H)
theorem op_mulA : OpR X (binaryOp .Mult) (rMulA X.K) := op_mul.or (op_repT.or (op_rep.or op_rep1))
theorem cmul_ok {i j : Int} (h : cmul i j = true) : CMul i j := by
  unfold cmul at h
  simp only [Bool.or_eq_true, decide_eq_true_eq] at h
  unfold CMul
  omega
theorem opd_mul : OpD (tx X) (rMulA X.K) fMul := by
  intro B W σ env ρ G H μ x y d d' Q R hx hy k
  unfold fMul at k
  split at k
  · split at k
    · rename_i h
      exact .inl ⟨_, _, int_inv hx, int_inv hy, cmul_ok h, k.here R (.ofR rep_int)⟩
    · exact k.elim
  · rename_i l n
    split at k
    · rename_i h
      obtain ⟨a, vs, rfl, q, z, r⟩ := lst_inv hx
      refine .inr (.inr (.inl ⟨a, n, vs, rfl, int_inv hy, R.gh _ _ q, by omega, by omega, by rw [r.length]; exact szl_line h.2, ?_⟩))
      exact k.newL R (r.rep _) (by rw [repL_len, Nat.mul_comm]; exact h.2)
    · exact k.elim
  · rename_i l n
    split at k
    · rename_i h
      obtain ⟨h1, h2, h3, h4⟩ := h
      obtain ⟨a, vs, rfl, q, z, r⟩ := tup_inv hx
      by_cases e : n = 1
      · subst e
        rw [show ((1 : Int).toNat) = 1 from rfl, repL_one] at k
        exact .inr (.inr (.inr ⟨a, vs, rfl, int_inv hy, (sqG_mono R.gh q).sq, k.here R (.ofR (rep_tup q z r))⟩))
      · have hl := r.length
        refine .inr (.inl ⟨a, n, vs, rfl, int_inv hy, (sqG_mono R.gh q).sq, fun e => h4 ?_, by omega, h2, by omega, k.newT R (r.rep _) ?_⟩)
        · subst e; exact List.length_eq_zero_iff.mp (by simpa using hl.symm)
        · rw [repL_len]
          have : n.toNat * l.length ≤ 1000 * 1000 := Nat.mul_le_mul (by omega) h3
          show _ ≤ 16777216
          omega
    · exact k.elim
  · exact k.elim

/-! ### chains, minus, not -/
def dChain (f g : F2) (ma mb mc : DEx) : DEx := fun env μ => bindR (ma env μ) fun d μ => bindR (mb env μ) fun d' μ => bindR (f (hold d) (hold d') μ) fun b μ => match b with
  | .bl true => bindR (mc env μ) fun d2 μ => g (hold d') (hold d2) μ
  | .bl false => ret (.bl false) μ
  | _ => none
theorem rd_chain {r r' : R2} {f g : F2} {ma mb mc : DEx} (hf : OpD (tx X) r f) (hg : OpD (tx X) r' g) {σ : L2.St} {H : Hp} {Q : VK} (h : rdE (tx X) B W (dChain f g ma mb mc) σ H Q) :
    tChain r r' (rdE (tx X) B W ma) (rdE (tx X) B W mb) (rdE (tx X) B W mc) σ H Q := by
  obtain ⟨ρ, G, env, μ, R, k⟩ := h
  refine rd_then (f := fun d μ => bindR (mb env μ) fun d' μ => bindR (f (hold d) (hold d') μ) fun b μ => match b with
    | .bl true => bindR (mc env μ) fun d2 μ => g (hold d') (hold d2) μ
    | .bl false => ret (.bl false) μ
    | _ => none) R k fun ρ1 G1 H1 μ1 x d s p R1 hx k1 => ?_
  refine rd_then (f := fun d' μ => bindR (f (hold d) (hold d') μ) fun b μ => match b with
    | .bl true => bindR (mc env μ) fun d2 μ => g (hold d') (hold d2) μ
    | .bl false => ret (.bl false) μ
    | _ => none) R1 k1 fun ρ2 G2 H2 μ2 y d' s2 p2 R2 hy k2 => ?_
  refine hf B W σ env ρ2 G2 H2 μ2 x y _ _ _ R2 (hx.mono s2 p2) hy (k2.bind.imp fun ρ3 G3 H3 μ3 z s3 p3 R3 k3 v hv => ?_)
  split at k3
  · have hv : Rep (tx X) ρ3 G3 v (.bl true) := hv
    unfold Rep at hv; subst hv
    refine ⟨true, rfl, ?_⟩
    rw [if_pos rfl]
    refine rd_then (f := fun d2 μ => g (hold d') (hold d2) μ) R3 k3 fun ρ4 G4 H4 μ4 w d2 s4 p4 R4 hw k4 => ?_
    exact hg B W σ env ρ4 G4 H4 μ4 y w _ _ Q R4 ((hy.mono s3 p3).mono s4 p4) hw k4
  · have hv : Rep (tx X) ρ3 G3 v (.bl false) := hv
    unfold Rep at hv; subst hv
    refine ⟨false, rfl, ?_⟩
    rw [if_neg (by decide)]
    exact KE.here (T := tx X) k3 R3 (.ofR rep_bl)
  · exact k3.elim
theorem de_chain {a b c : Expr} {ma mb mc : DEx} {pos : Pos} {op op' : CmpOp} {r r' : R2} {f g : F2} (ho : OpR X (compareOp op) r) (hf : OpD (tx X) r f) (ho' : OpR X (compareOp op') r') (hg : OpD (tx X) r' g) (ha : DE X B W a ma) (hb : DE X B W b mb) (hc : DE X B W c mc)
    (hm : lastMarks [op, op'] [b, c] = false) : DE X B W (.Compare a [op, op'] [b, c] pos) (dChain f g ma mb mc) :=
  ⟨peImp (pe_chain ho ho' ha.run hb.run hc.run hm) fun σ H Q h => rd_chain hf hg h⟩
def fNeg : D → Mu → Res D
  | .int i, μ => ret (.int (-i)) μ
  | _, _ => none
def dNeg (ma : DEx) : DEx := fun env μ => bindR (ma env μ) fNeg
theorem de_neg {a : Expr} {ma : DEx} {pos : Pos} (ha : DE X B W a ma) : DE X B W (.UnaryOp .USub a pos) (dNeg ma) := by
  refine ⟨peImp (pe_un un_neg ha.run) fun σ H Q ⟨ρ, G, env, μ, R, k⟩ => ?_⟩
  refine rd_then (f := fNeg) R k fun ρ1 G1 H1 μ1 x d s p R1 hx k1 => ?_
  unfold fNeg at k1
  split at k1
  · exact ⟨_, int_inv hx, KE.here k1 R1 (.ofR rep_int)⟩
  · exact k1.elim
/-! ### tests -/
def fTest : D → Mu → Res Bool
  | .bl b, μ => ret b μ
  | _, _ => none
/-- an expression that gives a bool, as a test -/
def dTest (m : DEx) : DEnv → Mu → Res Bool := fun env μ => bindR (m env μ) fTest
theorem dt_val {e : Expr} {m : DEx} (h : DE X B W e m) (he : ∀ whole, isTrue e X.env whole = (do let v ← whole; standAt e.pos; holding [v] (truthy v))) : DT X B W e (dTest m) := by
  refine ⟨ptImp (pt_val h.run he) fun σ H Q ⟨ρ, G, env, μ, R, k⟩ => ?_⟩
  refine rd_then (f := fTest) R k fun ρ1 G1 H1 μ1 x d s p R1 hx k1 => ?_
  unfold fTest at k1
  split at k1
  · exact ⟨_, bl_inv hx, k1 ρ1 G1 H1 (fun _ _ h => h) (.refl _) R1⟩
  · exact k1.elim
theorem dt_cmp {a b : Expr} {ma mb : DEx} {pos : Pos} {op : CmpOp} {r : R2} {f : F2} (ho : OpR X (compareOp op) r) (hf : OpD (tx X) r f) (ha : DE X B W a ma) (hb : DE X B W b mb) (hm : behindInMarks op b = false) : DT X B W (.Compare a [op] [b] pos) (dTest (dBin f ma mb)) := by
  refine ⟨ptImp (pt_cmpR ho ha.run hb.run hm) fun σ H Q ⟨ρ, G, env, μ, R, k⟩ => ?_⟩
  show tOp r _ _ σ H _
  refine rd_bin hf ⟨ρ, G, env, μ, R, ?_⟩
  refine (KE.bind (f := fTest) k).imp fun ρ1 G1 H1 μ1 d s p R1 k1 v hv => ?_
  unfold fTest at k1
  split at k1
  · have hv : Rep (tx X) ρ1 G1 v (.bl _) := hv
    unfold Rep at hv
    exact ⟨_, hv, k1 ρ1 G1 H1 (fun _ _ h => h) (.refl _) R1⟩
  · exact k1.elim
theorem dt_chain {a b c : Expr} {ma mb mc : DEx} {pos : Pos} {op op' : CmpOp} {r r' : R2} {f g : F2} (ho : OpR X (compareOp op) r) (hf : OpD (tx X) r f) (ho' : OpR X (compareOp op') r') (hg : OpD (tx X) r' g) (ha : DE X B W a ma) (hb : DE X B W b mb) (hc : DE X B W c mc)
    (hm : lastMarks [op, op'] [b, c] = false) : DT X B W (.Compare a [op, op'] [b, c] pos) (dTest (dChain f g ma mb mc)) := by
  refine ⟨ptImp (pt_chain ho ho' ha.run hb.run hc.run hm) fun σ H Q ⟨ρ, G, env, μ, R, k⟩ => ?_⟩
  show tChain r r' _ _ _ σ H _
  refine rd_chain hf hg ⟨ρ, G, env, μ, R, ?_⟩
  refine (KE.bind (f := fTest) k).imp fun ρ1 G1 H1 μ1 d s p R1 k1 v hv => ?_
  unfold fTest at k1
  split at k1
  · have hv : Rep (tx X) ρ1 G1 v (.bl _) := hv
    unfold Rep at hv
    exact ⟨_, hv, k1 ρ1 G1 H1 (fun _ _ h => h) (.refl _) R1⟩
  · exact k1.elim
def dNotT (m : DEnv → Mu → Res Bool) : DEnv → Mu → Res Bool := fun env μ => bindR (m env μ) fun b μ => ret (!b) μ
theorem dt_not {a : Expr} {m : DEnv → Mu → Res Bool} {pos : Pos} (h : DT X B W a m) : DT X B W (.UnaryOp .Not a pos) (dNotT m) := by
  refine ⟨ptImp (pt_not h.run) fun σ H Q ⟨ρ, G, env, μ, R, k⟩ => ⟨ρ, G, env, μ, R, k.bind.imp fun ρ1 G1 H1 μ1 b s p R1 k1 => ?_⟩⟩
  exact k1 ρ1 G1 H1 (fun _ _ h => h) (.refl _) R1
def dAndT (m n : DEnv → Mu → Res Bool) : DEnv → Mu → Res Bool := fun env μ => bindR (m env μ) fun b μ => if b = true then n env μ else ret false μ
def dOrT (m n : DEnv → Mu → Res Bool) : DEnv → Mu → Res Bool := fun env μ => bindR (m env μ) fun b μ => if b = true then ret true μ else n env μ
section
variable {a b : Expr} {rest : List Expr} {m n : DEnv → Mu → Res Bool} {pos : Pos}
theorem dw_and1 (h : DT X B W a m) : DW X B W (.BoolOp .And [a] pos) m := ⟨pw_and1 h.run⟩
theorem dw_or1 (h : DT X B W a m) : DW X B W (.BoolOp .Or [a] pos) m := ⟨pw_or1 h.run⟩
theorem dw_and (h : DT X B W a m) (g : DW X B W (.BoolOp .And (b :: rest) pos) n) : DW X B W (.BoolOp .And (a :: b :: rest) pos) (dAndT m n) := by
  refine ⟨pwImp (pw_and h.run g.run) fun σ H Q ⟨ρ, G, env, μ, R, k⟩ => ⟨ρ, G, env, μ, R, k.bind.imp fun ρ1 G1 H1 μ1 b s p R1 k1 => ?_⟩⟩
  cases b with
  | true => exact ⟨ρ1, G1, env, μ1, R1, k1⟩
  | false => exact k1 ρ1 G1 H1 (fun _ _ h => h) (.refl _) R1
theorem dw_or (h : DT X B W a m) (g : DW X B W (.BoolOp .Or (b :: rest) pos) n) : DW X B W (.BoolOp .Or (a :: b :: rest) pos) (dOrT m n) := by
  refine ⟨pwImp (pw_or h.run g.run) fun σ H Q ⟨ρ, G, env, μ, R, k⟩ => ⟨ρ, G, env, μ, R, k.bind.imp fun ρ1 G1 H1 μ1 b s p R1 k1 => ?_⟩⟩
  cases b with
  | false => exact ⟨ρ1, G1, env, μ1, R1, k1⟩
  | true => exact k1 ρ1 G1 H1 (fun _ _ h => h) (.refl _) R1
theorem dw_t (h : DW X B W a m) : DT X B W a m := ⟨h.run.pt⟩
end
/-! ### and, or, not, a choice, as values -/
def fB (m : D → Mu → Res D) : D → Mu → Res D := m
def dAndV (ma mb : DEx) : DEx := fun env μ => bindR (ma env μ) fun d μ => match d with
  | .bl true => mb env μ
  | .bl false => ret (.bl false) μ
  | _ => none
def dOrV (ma mb : DEx) : DEx := fun env μ => bindR (ma env μ) fun d μ => match d with
  | .bl false => mb env μ
  | .bl true => ret (.bl true) μ
  | _ => none
def dNotV (ma : DEx) : DEx := fun env μ => bindR (ma env μ) fun d μ => match d with
  | .bl b => ret (.bl (!b)) μ
  | _ => none
def dIf (t : DEnv → Mu → Res Bool) (ma mb : DEx) : DEx := fun env μ => bindR (t env μ) fun b μ => if b = true then ma env μ else mb env μ
section
variable {a b c : Expr} {rest : List Expr} {ma mb : DEx} {t : DEnv → Mu → Res Bool} {pos : Pos}
theorem repx_bl {v : V} {z : Bool} (h : RepX T B ρ G H σ env v (.bl z)) : v = .bl z := by
  have h : Rep T ρ G v (.bl z) := h
  unfold Rep at h; exact h
theorem de_one {op} (h : DE X B W a ma) : DE X B W (.BoolOp op [a] pos) ma := ⟨pe_one h.run⟩
theorem de_and (h : DE X B W a ma) (g : DE X B W (.BoolOp .And (b :: rest) pos) mb) : DE X B W (.BoolOp .And (a :: b :: rest) pos) (dAndV ma mb) := by
  refine ⟨peImp (pe_and h.run g.run) fun σ H Q ⟨ρ, G, env, μ, R, k⟩ => ⟨ρ, G, env, μ, R, k.bind.imp fun ρ1 G1 H1 μ1 d s p R1 k1 v hv => ?_⟩⟩
  split at k1
  · exact ⟨true, repx_bl hv, by rw [if_pos rfl]; exact ⟨ρ1, G1, env, μ1, R1, k1⟩⟩
  · exact ⟨false, repx_bl hv, by rw [if_neg (by decide)]; exact KE.here (T := tx X) k1 R1 (.ofR rep_bl)⟩
  · exact k1.elim
theorem de_or (h : DE X B W a ma) (g : DE X B W (.BoolOp .Or (b :: rest) pos) mb) : DE X B W (.BoolOp .Or (a :: b :: rest) pos) (dOrV ma mb) := by
  refine ⟨peImp (pe_or h.run g.run) fun σ H Q ⟨ρ, G, env, μ, R, k⟩ => ⟨ρ, G, env, μ, R, k.bind.imp fun ρ1 G1 H1 μ1 d s p R1 k1 v hv => ?_⟩⟩
  split at k1
  · exact ⟨false, repx_bl hv, by rw [if_neg (by decide)]; exact ⟨ρ1, G1, env, μ1, R1, k1⟩⟩
  · exact ⟨true, repx_bl hv, by rw [if_pos rfl]; exact KE.here (T := tx X) k1 R1 (.ofR rep_bl)⟩
  · exact k1.elim
theorem de_not (h : DE X B W a ma) : DE X B W (.UnaryOp .Not a pos) (dNotV ma) := by
  refine ⟨peImp (pe_not h.run) fun σ H Q ⟨ρ, G, env, μ, R, k⟩ => ⟨ρ, G, env, μ, R, k.bind.imp fun ρ1 G1 H1 μ1 d s p R1 k1 v hv => ?_⟩⟩
  split at k1
  · exact ⟨_, repx_bl hv, KE.here (T := tx X) k1 R1 (.ofR rep_bl)⟩
  · exact k1.elim
theorem de_if (h : DT X B W c t) (ha : DE X B W a ma) (hb : DE X B W b mb) : DE X B W (.IfExp c a b pos) (dIf t ma mb) := by
  refine ⟨peImp (pe_ifExp h.run ha.run hb.run) fun σ H Q ⟨ρ, G, env, μ, R, k⟩ => ⟨ρ, G, env, μ, R, k.bind.imp fun ρ1 G1 H1 μ1 b s p R1 k1 => ?_⟩⟩
  cases b with
  | true => exact ⟨ρ1, G1, env, μ1, R1, k1⟩
  | false => exact ⟨ρ1, G1, env, μ1, R1, k1⟩
end
/-! ### arguments, displays -/
def dNil : DEnv → Mu → Res (List D) := fun _ μ => ret [] μ
def dCons (m : DEx) (n : DEnv → Mu → Res (List D)) : DEnv → Mu → Res (List D) := fun env μ => bindR (m env μ) fun d μ => bindR (n env μ) fun ds μ => ret (hold d :: ds) μ
section
variable {e : Expr} {es : List Expr} {m : DEx} {n : DEnv → Mu → Res (List D)} {pos : Pos}
theorem da_nil : DA X B W [] dNil := ⟨paImp pa_nil fun σ H Q ⟨ρ, G, env, μ, R, k⟩ => k ρ G H (fun _ _ h => h) (.refl _) R [] .nil⟩
theorem da_cons (h : DE X B W e m) (g : DA X B W es n) (hs : starEach (e :: es) X.env = (false, eval e X.env) :: starEach es X.env := by rfl) : DA X B W (e :: es) (dCons m n) := by
  refine ⟨paImp (pa_cons h.run g.run hs) fun σ H Q ⟨ρ, G, env, μ, R, k⟩ => ?_⟩
  refine rd_then (f := fun d μ => bindR (n env μ) fun ds μ => ret (hold d :: ds) μ) R k fun ρ1 G1 H1 μ1 x d s p R1 hx k1 => ?_
  refine ⟨ρ1, G1, env, μ1, R1, (KE.bind (f := fun ds μ => ret (hold d :: ds) μ) k1).imp fun ρ2 G2 H2 μ2 ds s2 p2 R2 k2 vs hvs => ?_⟩
  exact k2 ρ2 G2 H2 (fun _ _ h => h) (.refl _) R2 _ (.cons (hx.mono s2 p2) hvs)
def fTup (l : List D) (μ : Mu) : Res D := if l.all nobor = true ∧ szl l.length then ret (.tup l) μ else none
def fLst (l : List D) (μ : Mu) : Res D := if l.all nobor = true ∧ szl l.length then ret (.new l) μ else none
def dTup (n : DEnv → Mu → Res (List D)) : DEx := fun env μ => bindR (n env μ) fTup
def dLst (n : DEnv → Mu → Res (List D)) : DEx := fun env μ => bindR (n env μ) fLst
theorem de_tup {x1} (h : DA X B W es n) : DE X B W (.Tuple es x1 pos) (dTup n) := by
  refine ⟨peImp (pe_tup h.run) fun σ H Q ⟨ρ, G, env, μ, R, k⟩ => ⟨ρ, G, env, μ, R, (KE.bind (f := fTup) k).imp fun ρ1 G1 H1 μ1 ds s p R1 k1 vs hvs => ?_⟩⟩
  unfold fTup at k1
  split at k1
  · rename_i hz
    have r := hvs.reps hz.1
    exact ⟨by rw [r.length]; exact szl_line hz.2, k1.newT R1 r hz.2⟩
  · exact k1.elim
theorem de_lst (h : DA X B W es n) : DE X B W (.List es pos) (dLst n) := by
  refine ⟨peImp (pe_lst h.run) fun σ H Q ⟨ρ, G, env, μ, R, k⟩ => ⟨ρ, G, env, μ, R, (KE.bind (f := fLst) k).imp fun ρ1 G1 H1 μ1 ds s p R1 k1 vs hvs => ?_⟩⟩
  unfold fLst at k1
  split at k1
  · rename_i hz
    have r := hvs.reps hz.1
    exact ⟨by rw [r.length]; exact szl_line hz.2, k1.newL R1 r hz.2⟩
  · exact k1.elim
end
end
end Dv

/-! DvD: what is walked: lists, tuples, ranges, texts; zip and enumerate of any mix. -/
namespace Dv
open PySem PySem.Spec PyProof.Rows L2
/-! ### sources: a list or a tuple -/
def atS : Bool → Heap → Addr → Addr → Nat → Prop
  | true, h, it, a, i => h.IsListIter it a i
  | false, h, it, a, i => h.IsTupleIter it a i
def hasS : Bool → Heap → Addr → Array Value → Prop
  | true, h, a, xs => h.IsList a xs
  | false, h, a, xs => h.IsTuple a xs
def SqS (K : PySem.W.Frag) (H : Hp) : Bool → Addr → List V → Prop
  | true, a, xs => SqL K H a xs
  | false, a, xs => SqT K H a xs
theorem drawsS {prog : Program} {w : World} {A : Around} (hh : A.handled = none) (k : Bool) (it a : Addr) (hne : a ≠ it) (items : Array Value) :
    Draws prog w A it [it, a] items.size (fun i v => items[i]? = some v) (fun i h => atS k h it a i ∧ hasS k h a items) := by
  cases k with
  | true => exact Draws.list hh it a hne items
  | false => exact Draws.tuple hh it a hne items
def objS (k : Bool) (a : Addr) : Obj := { cls := .type (if k then "list_iterator" else "tuple_iterator"), data := .fields #[.ref a, .int 0 0] }
theorem beginsS (k : Bool) (a : Addr) (items : Array Value) : Begins (.ref a) (objS k a) fun h => hasS k h a items := by
  cases k with
  | true => exact begins_list a items
  | false => exact begins_tuple a items
section
variable {X : Cx} {pins : List (Addr × Obj)} {σ : L2.St} {H : Hp} {s : Shared} {a : Addr} {xs ys : List V}
theorem hasS_of (I : Inv X pins σ H s) {k : Bool} (h : SqS X.K H k a xs) : ∃ its : List Value, Vals xs its ∧ hasS k s.heap a its.toArray ∧ xs.length ≤ sizeLine := by
  cases k with
  | true =>
    obtain ⟨its, r, p, z⟩ := I.list h
    exact ⟨its, r, p.isList, z⟩
  | false =>
    obtain ⟨its, r, p, z⟩ := I.tuple h
    exact ⟨its, r, p, z⟩
theorem sqS_inj (I : Inv X pins σ H s) {k : Bool} (h : SqS X.K H k a xs) (h' : SqS X.K H k a ys) : xs = ys := by
  cases k with
  | true => exact I.list_inj h h'
  | false => exact I.tuple_inj h h'
end
theorem atS_at {k : Bool} {h h' : Heap} {it a : Addr} {i : Nat} (x : atS k h it a i) (e : ∀ o, h.get? it = some o → h'.get? it = some o) : atS k h' it a i := by
  cases k with
  | true => exact Heap.IsListIter.at x e
  | false => exact Heap.IsTupleIter.at x e
theorem atS_obj {k : Bool} {h : Heap} {it a : Addr} {i : Nat} (x : atS k h it a i) : ∃ o, h.get? it = some o ∧ ∀ v, o.data ≠ .cell v := by
  cases k with
  | true =>
    obtain ⟨o, e, _, d⟩ := x
    exact ⟨o, e, fun v z => by rw [d] at z; cases z⟩
  | false =>
    obtain ⟨o, e, _, d⟩ := x
    exact ⟨o, e, fun v z => by rw [d] at z; cases z⟩
theorem atS_new {k : Bool} {h : Heap} {it a : Addr} (e : h.get? it = some (objS k a)) : atS k h it a 0 := by
  cases k with
  | true => exact ⟨_, e, rfl, rfl⟩
  | false => exact ⟨_, e, rfl, rfl⟩
/-! ### zip of two sources -/
def ItZ (K : PySem.W.Frag) (k1 k2 : Bool) (a b : Addr) : It :=
  ⟨fun i H => ∃ (xs ys : List V) (x y : V), SqS K H k1 a xs ∧ SqS K H k2 b ys ∧ xs[i]? = some x ∧ ys[i]? = some y,
    fun i H v H' => ∃ T x y, v = .ref T ∧ H T = none ∧ H' = upd H T (.tup [x, y]) ∧ (∀ xs, SqS K H k1 a xs → xs[i]? = some x) ∧ ∀ ys, SqS K H k2 b ys → ys[i]? = some y,
    fun i H => ∃ xs ys : List V, SqS K H k1 a xs ∧ SqS K H k2 b ys ∧ min xs.length ys.length = i⟩
/-- a pair that is told at T -/
theorem pair_new {P : Program} {w : World} {H : Hp} {h : Heap} {T : Addr} {x y : V} {u v : Value} (hT : h.IsTuple T #[u, v]) (ru : RelV x u) (rv : RelV y v) : ObjOk P w (upd H T (.tup [x, y])) h T (.tup [x, y]) :=
  ⟨by show 2 ≤ sizeLine; decide, [u, v], .cons ru (.cons rv .nil), hT⟩
theorem turnZ {P : Program} {w : World} {K : PySem.W.Frag} {elts : List Expr} {kk : Nat} {tpos : Pos} {k1 k2 : Bool} {a b z TI TO i1 i2 : Addr} (D : ZipSep2 z TI TO i1 i2 [i1, a] [i2, b]) (n1 : a ≠ i1) (n2 : b ≠ i2) :
    Turn P w K (.Tuple elts kk tpos) (ItZ K k1 k2 a b) [z, TI, TO, i1, i2] z (fun i h => IsZip h z TI TO .none ∧ IsTupOf2 h TI (.ref i1) (.ref i2) ∧ (∃ x y, IsTupOf2 h TO x y) ∧ atS k1 h i1 a i ∧ atS k2 h i2 b i) where
  mem := by simp
  obj := fun i h st c hc => by
    obtain ⟨hz, hTI, ⟨x, y, hTO⟩, h1, h2⟩ := st
    have e' : c = z ∨ c = TI ∨ c = TO ∨ c = i1 ∨ c = i2 := by simpa using hc
    rcases e' with q | q | q | q | q
    · rw [q]; exact ⟨_, hz, fun v q => nomatch q⟩
    · rw [q]; exact ⟨_, hTI, fun v q => nomatch q⟩
    · rw [q]; exact ⟨_, hTO, fun v q => nomatch q⟩
    · rw [q]; exact atS_obj h1
    · rw [q]; exact atS_obj h2
  keep := fun i h h' st k => by
    obtain ⟨hz, hTI, ⟨x, y, hTO⟩, h1, h2⟩ := st
    exact ⟨k z (by simp) _ hz, k TI (by simp) _ hTI, ⟨x, y, k TO (by simp) _ hTO⟩, atS_at h1 fun o q => k i1 (by simp) o q, atS_at h2 fun o q => k i2 (by simp) o q⟩
  item := by
    intro X hP hw hK hc i pins s σ H E I hf st hg
    subst hP hw hK
    obtain ⟨hz, hTI, hTO, h1, h2⟩ := st
    obtain ⟨xs, ys, x, y, hqx, hqy, hx, hy⟩ := hg
    obtain ⟨its, rv, p, _⟩ := hasS_of I hqx
    obtain ⟨its2, rv2, p2, _⟩ := hasS_of I hqy
    have hh : X.A.in1.handled = none := I.ok.hd hc
    have l1 := rv.length
    have l2 := rv2.length
    have b1 := (List.getElem?_eq_some_iff.mp hx).1
    have b2 := (List.getElem?_eq_some_iff.mp hy).1
    refine (GoesN.zip2 (prog := X.prog) (w := X.w) (A := X.A) (elts := elts) (x1 := kk) (pos := tpos) D (drawsS hh k1 i1 a n1 its.toArray) (drawsS hh k2 i2 b n2 its2.toArray)).goes i s _ E (by simp only [List.size_toArray]; omega) ⟨hz, hTI, hTO, ⟨h1, p⟩, ⟨h2, p2⟩⟩ fun v h' tk hY st' hk _ => ?_
    obtain ⟨T, u, u2, rfl, hT, e1, e2, hTT⟩ := hY
    obtain ⟨z', TI', TO', ⟨h1', _⟩, ⟨h2', _⟩⟩ := st'
    have ru : RelV x u := by
      obtain ⟨u', q1, q2⟩ := rv.get hx
      have : its[i]? = some u := by simpa using e1
      rw [this] at q1; cases q1; exact q2
    have ru2 : RelV y u2 := by
      obtain ⟨u', q1, q2⟩ := rv2.get hy
      have : its2[i]? = some u2 := by simpa using e2
      rw [this] at q1; cases q1; exact q2
    have I1 : Inv X pins σ (upd H T (.tup [x, y])) { s with heap := h', toks := tk } :=
      Inv.turnedNew (ch := [z, TO, i1, i2]) I (fun c o hb q => hk c o hb q) (fun c hc => hf c (by simp at hc ⊢; rcases hc with q | q | q | q <;> simp [q])) hT (pair_new hTT ru ru2)
    refine ⟨.ref T, _, I1, rfl, ⟨T, x, y, rfl, I.hok.fresh hT, rfl, fun l hl => by rw [sqS_inj I hl hqx]; exact hx, fun l hl => by rw [sqS_inj I hl hqy]; exact hy⟩, ⟨z', TI', TO', h1', h2'⟩, fun c hcm => ?_⟩
    have hlt : c < s.heap.objs.size := by
      obtain ⟨o, e, _⟩ : ∃ o, s.heap.get? c = some o ∧ True := by
        have e' : c = z ∨ c = TI ∨ c = TO ∨ c = i1 ∨ c = i2 := by simpa using hcm
        obtain ⟨x0, y0, hTO⟩ := hTO
        rcases e' with q | q | q | q | q
        · rw [q]; exact ⟨_, hz, trivial⟩
        · rw [q]; exact ⟨_, hTI, trivial⟩
        · rw [q]; exact ⟨_, hTO, trivial⟩
        · rw [q]; obtain ⟨o, e, _⟩ := atS_obj h1; exact ⟨o, e, trivial⟩
        · rw [q]; obtain ⟨o, e, _⟩ := atS_obj h2; exact ⟨o, e, trivial⟩
      exact Heap.lt_size e
    rw [upd_ne (Nat.ne_of_lt (Nat.lt_of_lt_of_le hlt hT))]
    exact (hf c hcm).1
  done := by
    intro X hP hw hK hc i pins s σ H E I hf st hg
    subst hP hw hK
    obtain ⟨hz, hTI, hTO, h1, h2⟩ := st
    obtain ⟨xs, ys, hqx, hqy, hend⟩ := hg
    obtain ⟨its, rv, p, _⟩ := hasS_of I hqx
    obtain ⟨its2, rv2, p2, _⟩ := hasS_of I hqy
    have hh : X.A.in1.handled = none := I.ok.hd hc
    have l1 := rv.length
    have l2 := rv2.length
    have e : min its.toArray.size its2.toArray.size = i := by simp only [List.size_toArray]; omega
    subst e
    exact (GoesN.zip2 (prog := X.prog) (w := X.w) (A := X.A) (elts := elts) (x1 := kk) (pos := tpos) D (drawsS hh k1 i1 a n1 its.toArray) (drawsS hh k2 i2 b n2 its2.toArray)).stops s _ E ⟨hz, hTI, hTO, ⟨h1, p⟩, ⟨h2, p2⟩⟩ fun h' tk hk _ =>
      Inv.turnedL (ch := [z, TO, i1, i2]) I (fun c o hb q => hk c o hb q) (fun c hc => hf c (by simp at hc ⊢; rcases hc with q | q | q | q <;> simp [q]))
  self := fun A i s Q E st h => wpAny_pyIter_zip st.1 h
def iZipS (K : PySem.W.Frag) (ta : TA) : TI := fun σ H R => ta σ H fun vs H1 => ∃ (k1 k2 : Bool) (a b : Addr) (xs ys : List V), vs = [.ref a, .ref b] ∧ SqS K H1 k1 a xs ∧ SqS K H1 k2 b ys ∧ R (ItZ K k1 k2 a b) H1
theorem hasS_lt {k : Bool} {h : Heap} {a : Addr} {xs : Array Value} (x : hasS k h a xs) : a < h.objs.size := by
  cases k with
  | true => obtain ⟨o, e, _⟩ := x; exact Heap.lt_size e
  | false => obtain ⟨o, e, _⟩ := x; exact Heap.lt_size e
theorem pi_zipS {X : Cx} {e e2 : Expr} {ta : TA} {p pos tpos : Pos} {elts : List Expr} {kk : Nat} (hg : Gl X "zip") (hm : X.mg "zip" = none) (ha : PA X [e, e2] ta)
    (hs : starEach [e, e2] X.env = (false, eval e X.env) :: starEach [e2] X.env := by rfl) (hpl : (backTo pos (starEach [e2] X.env)).any (·.1) = false := by rfl) :
    PI X (.Tuple elts kk tpos) (.Call (.Name "zip" p) [e, e2] [] pos) (iZipS X.K ta) := by
  refine ⟨fun pins s σ H R I h => ?_⟩
  refine Call_ (ld_blt I hg hm PyProof.Rows.boot_zip (PyProof.Rows.callWith_type1 (thn (ha.run pos pins s σ H _ I h) fun us s1 ⟨vs, H1, I1, r1, q1⟩ => ?_) hs hpl))
  obtain ⟨k1, k2, a, b, xs, ys, ex, hqx, hqy, q⟩ := q1
  subst ex
  obtain ⟨u, u2, rfl, ru, ru2⟩ := vals2 r1
  cases ru
  cases ru2
  obtain ⟨its, rv, p1, _⟩ := hasS_of I1 hqx
  obtain ⟨its2, rv2, p2, _⟩ := hasS_of I1 hqy
  have la := hasS_lt p1
  have lb := hasS_lt p2
  refine zip_begins2 (beginsS k1 a its.toArray) (beginsS k2 b its2.toArray) p1 p2 fun h' hz hTI hTO h1 h2 hsz hk => ?_
  refine wpAny_pyIter_zip hz ?_
  have I2 : Inv X pins σ H1 { s1 with heap := h' } := I1.kept (t' := s1.toks) hk
  refine ⟨_, [s1.heap.objs.size + 4, s1.heap.objs.size + 2, s1.heap.objs.size + 3, s1.heap.objs.size, s1.heap.objs.size + 1], _, _, H1, rfl, I2, turnZ (k1 := k1) (k2 := k2) (zip_sep2 (fp1 := [a]) (fp2 := [b]) (by simpa using la) (by simpa using lb)) (Nat.ne_of_lt la) (Nat.ne_of_lt (Nat.lt_succ_of_lt lb)),
    ⟨hz, hTI, ⟨_, _, hTO⟩, atS_new h1, atS_new h2⟩, fun c hc => ?_, q⟩
  have hle : s1.heap.objs.size ≤ c := by
    simp only [List.mem_cons, List.not_mem_nil, or_false] at hc
    rcases hc with z | z | z | z | z <;> (rw [z]; first | exact Nat.le_refl _ | exact Nat.le_add_right _ _)
  exact I1.fpOk hle (I1.hok.fresh hle)
/-! ### enumerate of a source -/
def ItE (K : PySem.W.Frag) (k : Bool) (a : Addr) : It :=
  ⟨fun i H => ∃ (xs : List V) (x : V), SqS K H k a xs ∧ xs[i]? = some x,
    fun i H v H' => ∃ T x, v = .ref T ∧ H T = none ∧ H' = upd H T (.tup [.int (i : Nat), x]) ∧ ∀ xs, SqS K H k a xs → xs[i]? = some x,
    fun i H => ∃ xs : List V, SqS K H k a xs ∧ xs.length = i⟩
theorem turnE {P : Program} {w : World} {K : PySem.W.Frag} {elts : List Expr} {kk : Nat} {tpos : Pos} {k : Bool} {a e it : Addr} (n1 : a ≠ it) (hei : e ≠ it) (hea : e ≠ a) :
    Turn P w K (.Tuple elts kk tpos) (ItE K k a) [e, it] e (fun i h => (∃ old, IsEnum h e it (0 + ((i : Nat) : Int)) old) ∧ atS k h it a i) where
  mem := by simp
  obj := fun i h st c hc => by
    obtain ⟨⟨old, he⟩, h1⟩ := st
    have e' : c = e ∨ c = it := by simpa using hc
    rcases e' with q | q
    · rw [q]; exact ⟨_, he, fun v q => nomatch q⟩
    · rw [q]; exact atS_obj h1
  keep := fun i h h' st k => by
    obtain ⟨⟨old, he⟩, h1⟩ := st
    exact ⟨⟨old, k e (by simp) _ he⟩, atS_at h1 fun o q => k it (by simp) o q⟩
  item := by
    intro X hP hw hK hc i pins s σ H E I hf st hg
    subst hP hw hK
    obtain ⟨he, h1⟩ := st
    obtain ⟨xs, x, hqx, hx⟩ := hg
    obtain ⟨its, rv, p, _⟩ := hasS_of I hqx
    have hh : X.A.in1.handled = none := I.ok.hd hc
    have l1 := rv.length
    have b1 := (List.getElem?_eq_some_iff.mp hx).1
    refine (GoesN.enumFrom (prog := X.prog) (w := X.w) (A := X.A) (elts := elts) (x1 := kk) (pos := tpos) 0 (drawsS hh k it a n1 its.toArray) e hei (by simp [hei, hea]) (by simp)).goes i s _ E (by simp only [List.size_toArray]; omega) ⟨he, h1, p⟩ fun v h' tk hY st' hk _ => ?_
    obtain ⟨T, t, u, rfl, hT, e1, hTT⟩ := hY
    obtain ⟨he', h1', _⟩ := st'
    have ru : RelV x u := by
      obtain ⟨u', q1, q2⟩ := rv.get hx
      have : its[i]? = some u := by simpa using e1
      rw [this] at q1; cases q1; exact q2
    have I1 : Inv X pins σ (upd H T (.tup [.int (i : Nat), x])) { s with heap := h', toks := tk } :=
      Inv.turnedNew (ch := [e, it]) I (fun c o hb q => hk c o hb q) hf hT (pair_new hTT ⟨t, by rw [Int.zero_add]⟩ ru)
    refine ⟨.ref T, _, I1, rfl, ⟨T, x, rfl, I.hok.fresh hT, rfl, fun l hl => by rw [sqS_inj I hl hqx]; exact hx⟩, ⟨he', h1'⟩, fun c hcm => ?_⟩
    have hlt : c < s.heap.objs.size := by
      obtain ⟨o, e, _⟩ : ∃ o, s.heap.get? c = some o ∧ True := by
        have e' : c = e ∨ c = it := by simpa using hcm
        obtain ⟨old, he⟩ := he
        rcases e' with q | q
        · rw [q]; exact ⟨_, he, trivial⟩
        · rw [q]; obtain ⟨o, e, _⟩ := atS_obj h1; exact ⟨o, e, trivial⟩
      exact Heap.lt_size e
    rw [upd_ne (Nat.ne_of_lt (Nat.lt_of_lt_of_le hlt hT))]
    exact (hf c hcm).1
  done := by
    intro X hP hw hK hc i pins s σ H E I hf st hg
    subst hP hw hK
    obtain ⟨he, h1⟩ := st
    obtain ⟨xs, hqx, hend⟩ := hg
    obtain ⟨its, rv, p, _⟩ := hasS_of I hqx
    have hh : X.A.in1.handled = none := I.ok.hd hc
    have l1 := rv.length
    have e : its.toArray.size = i := by simp only [List.size_toArray]; omega
    subst e
    exact (GoesN.enumFrom (prog := X.prog) (w := X.w) (A := X.A) (elts := elts) (x1 := kk) (pos := tpos) 0 (drawsS hh k it a n1 its.toArray) e hei (by simp [hei, hea]) (by simp)).stops s _ E ⟨he, h1, p⟩ fun h' tk hk _ =>
      Inv.turnedL (ch := [e, it]) I (fun c o hb q => hk c o hb q) hf
  self := fun A i s Q E st h => by
    obtain ⟨⟨old, he⟩, _⟩ := st
    exact wpAny_pyIter_enum he h
/-- enumerate(v), v by how its iterator begins -/
theorem meets_enum1 {v : Value} {o : Obj} {H : Heap → Prop} (B : Begins v o H) :
    Meets (Builtin.«enumerate.__new__» ⟨[.type "enumerate", v], []⟩) (fun _ R s => H s.heap ∧
      R (.ok (.ret (.ref (s.heap.push o).objs.size))) { s with heap := (s.heap.push o).push { cls := .type "enumerate", data := .fields #[.none, .bool false, .ref s.heap.objs.size, rawInt 0, .none, .none] } }) :=
  .of_wp fun prog w A R s h => by
    obtain ⟨hp, g, d, tk, os⟩ := s
    obtain ⟨h1, h⟩ := h
    have hsub := sub_enumerate
    have q1 : ∀ {A' : Around} {E' : Value → Shared → Prop} {Q' : Value → Shared → Prop}, Q' (.ref hp.objs.size) ⟨hp.push o, g, d, tk, os⟩ → wpAny (model prog w) A' (pyIter v) Q' E' ⟨hp, g, d, tk, os⟩ :=
      fun q => B.iter prog w _ _ ⟨hp, g, d, tk, os⟩ _ h1 q
    wp_walk using q1
    refine wpAny_stack_any fun st' => wpAny_pure ?_
    split
    · rename_i c' _ _ _ _ _
      cases (c' == Value.type "enumerate") <;> (wp_walk using q1; exact ⟨_, rfl, h⟩)
    · wp_walk using q1
      exact ⟨_, rfl, h⟩
theorem enum_begins1 {prog : Program} {w : World} {A : Around} {E : Value → Shared → Prop} {s : Shared} {v : Value} {o : Obj} {H : Heap → Prop} {Q : Value → Shared → Prop} (B : Begins v o H) (h1 : H s.heap)
    (h : ∀ h', IsEnum h' (s.heap.objs.size + 1) s.heap.objs.size 0 .none → h'.get? s.heap.objs.size = some o → h'.objs.size = s.heap.objs.size + 2 →
      (∀ b' o', s.heap.get? b' = some o' → h'.get? b' = some o') → Q (.ref (s.heap.objs.size + 1)) { s with heap := h' }) :
    wpAny (model prog w) A (call (.type "enumerate") [v]) Q E s := by
  refine callType_new F.called_enumerate (by decide) (F.typeCall_enumerate_1 _) (F.newCall_enumerate_1 _) (fun obj' => F.args_object_init_2 obj' _) F.entry_enumerate_new (meets_enum1 B) ⟨h1, ?_⟩
  have hz : (s.heap.push o).objs.size = s.heap.objs.size + 1 := Heap.size_push ..
  show _ ∧ _
  rw [hz]
  have he : IsEnum ((s.heap.push o).push { cls := .type "enumerate", data := .fields #[.none, .bool false, .ref s.heap.objs.size, rawInt 0, .none, .none] }) (s.heap.objs.size + 1) s.heap.objs.size 0 .none := by
    have e1 := Heap.get?_push_size (s.heap.push o) (o := { cls := .type "enumerate", data := .fields #[.none, .bool false, .ref s.heap.objs.size, rawInt 0, .none, .none] }) rfl
    rw [hz] at e1; exact e1
  exact ⟨⟨_, he, rfl⟩, h _ he (Heap.get?_push_of_some _ (Heap.get?_push_size _ B.free)) (by rw [Heap.size_push, hz]) fun b' o' x' => Heap.get?_push_of_some _ (Heap.get?_push_of_some _ x')⟩
def iEnumS (K : PySem.W.Frag) (ta : TA) : TI := fun σ H R => ta σ H fun vs H1 => ∃ (k : Bool) (a : Addr) (xs : List V), vs = [.ref a] ∧ SqS K H1 k a xs ∧ R (ItE K k a) H1
theorem pi_enumS {X : Cx} {e : Expr} {ta : TA} {p pos tpos : Pos} {elts : List Expr} {kk : Nat} (hg : Gl X "enumerate") (hm : X.mg "enumerate" = none) (ha : PA X [e] ta) (hs : starEach [e] X.env = [(false, eval e X.env)] := by rfl) :
    PI X (.Tuple elts kk tpos) (.Call (.Name "enumerate" p) [e] [] pos) (iEnumS X.K ta) := by
  refine ⟨fun pins s σ H R I h => ?_⟩
  refine Call_ (ld_blt I hg hm boot_enumerate (PyProof.Rows.callWith_type1 (thn (ha.run pos pins s σ H _ I h) fun us s1 ⟨vs, H1, I1, r1, q1⟩ => ?_) hs rfl))
  obtain ⟨k, a, xs, ex, hqx, q⟩ := q1
  subst ex
  obtain ⟨u, rfl, ru⟩ := vals1 r1
  cases ru
  obtain ⟨its, rv, p1, _⟩ := hasS_of I1 hqx
  have la := hasS_lt p1
  refine enum_begins1 (beginsS k a its.toArray) p1 fun h' he h1 hsz hk => ?_
  refine wpAny_pyIter_enum he ?_
  have I2 : Inv X pins σ H1 { s1 with heap := h' } := I1.kept (t' := s1.toks) hk
  refine ⟨_, [s1.heap.objs.size + 1, s1.heap.objs.size], _, _, H1, rfl, I2, turnE (k := k) (a := a) (e := s1.heap.objs.size + 1) (it := s1.heap.objs.size) (Nat.ne_of_lt la) (Nat.succ_ne_self _) (Nat.ne_of_gt (Nat.lt_succ_of_lt la)), ⟨⟨_, he⟩, atS_new h1⟩, fun c hc => ?_, q⟩
  have hle : s1.heap.objs.size ≤ c := by
    simp only [List.mem_cons, List.not_mem_nil, or_false] at hc
    rcases hc with z | z <;> (rw [z]; first | exact Nat.le_refl _ | exact Nat.le_add_right _ _)
  exact I1.fpOk hle (I1.hok.fresh hle)
end Dv

/-! DvE: slots set and forgotten; walks by deep values; comprehensions. -/
namespace Dv
open PySem PySem.Spec PyProof.Rows L2
section
variable {T : Tx} {B : Bs} {ρ ρ' : List Addr} {G G' H H' : Hp} {σ σ2 : L2.St} {env env2 : DEnv} {μ μ' : Mu}
/-! ### slots -/
def wipeD (env : DEnv) : List Nat → DEnv
  | [] => env
  | v :: vs => (wipeD env vs).set v .no
def noOwn (env : DEnv) (vs : List Nat) : Bool := vs.all fun i => match env[i]? with
  | some (.own _) => false
  | _ => true
theorem own_of_set {env : DEnv} {i j : Nat} {s : SV} {l : List D} (hs : ∀ l, s ≠ .own l) (h : (env.set i s)[j]? = some (.own l)) : j ≠ i ∧ env[j]? = some (.own l) := by
  by_cases e : i = j
  · subst e
    by_cases hi : i < env.length
    · rw [List.getElem?_set_self hi] at h
      exact absurd (Option.some.inj h) (hs l)
    · rw [List.getElem?_eq_none (by simpa using Nat.le_of_not_lt hi)] at h; cases h
  · rw [List.getElem?_set_ne e] at h
    exact ⟨fun q => e q.symm, h⟩
/-- a slot is stored -/
theorem RD.setG (R : RD T B ρ G H σ env μ) {i : Nat} {x : Option V} {s : SV} (hs : ∀ l, s ≠ .own l) (hx : ∀ d, s = .v d → ∃ v, x = some v ∧ Rep T ρ G v d) : RD T B ρ G H (σ.set i x) (env.set i s) μ := by
  have sne : ∀ {j : Nat}, j ≠ i → (σ.set i x)[j]? = σ[j]? := fun {j} h => List.getElem?_set_ne (Ne.symm h)
  refine ⟨R.gh, R.ext, by simp [R.len], fun j t ht => ?_, fun j k l l' p h1 h2 h3 h4 => ?_, R.st, fun q hq => ?_, R.xn⟩
  · by_cases e : i = j
    · subst e
      by_cases hi : i < env.length
      · rw [List.getElem?_set_self hi] at ht
        cases ht
        have hi2 : i < σ.length := by rw [← R.len]; exact hi
        cases s with
        | no => trivial
        | v d =>
          obtain ⟨v, e1, e2⟩ := hx d rfl
          exact ⟨v, by rw [List.getElem?_set_self hi2, e1], e2⟩
        | own l => exact absurd rfl (hs l)
      · rw [List.getElem?_eq_none (by simpa using Nat.le_of_not_lt hi)] at ht; cases ht
    · rw [List.getElem?_set_ne e] at ht
      have h := R.slot j t ht
      cases t with
      | no => trivial
      | v d => unfold SlR at h ⊢; rw [sne (fun q => e q.symm)]; exact h
      | own l => unfold SlR at h ⊢; rw [sne (fun q => e q.symm)]; exact h
  · obtain ⟨n1, o1⟩ := own_of_set hs h1
    obtain ⟨n2, o2⟩ := own_of_set hs h2
    rw [sne n1] at h3
    rw [sne n2] at h4
    exact R.own j k l l' p o1 o2 h3 h4
  · obtain ⟨e1, e2, e3, e4, e5⟩ := R.xo q hq
    refine ⟨e1, e2, e3, e4, fun j l' h1 h2 => ?_⟩
    obtain ⟨n1, o1⟩ := own_of_set hs h1
    rw [sne n1] at h2
    exact e5 j l' o1 h2
theorem RD.set (R : RD T B ρ G H σ env μ) {i : Nat} {v : V} {d : D} (r : Rep T ρ G v d) : RD T B ρ G H (σ.set i (some v)) (env.set i (.v d)) μ :=
  R.setG (fun _ => by simp) fun d' e => by cases e; exact ⟨v, rfl, r⟩
theorem RD.wipe (R : RD T B ρ G H σ env μ) : ∀ vs : List Nat, RD T B ρ G H (wipe σ vs) (wipeD env vs) μ
  | [] => R
  | i :: vs => RD.setG (RD.wipe R vs) (fun _ => by simp) fun d' e => by cases e
theorem wipeD_out {i : Nat} : ∀ {vs : List Nat}, i ∉ vs → (wipeD env vs)[i]? = env[i]?
  | [], _ => rfl
  | v :: vs, h => by
    have h1 : v ≠ i := fun e => h (by rw [e]; exact List.mem_cons_self)
    have h2 : i ∉ vs := fun m => h (List.mem_cons_of_mem _ m)
    unfold wipeD
    rw [List.getElem?_set_ne h1]
    exact wipeD_out h2
/-- back from a block -/
theorem RD.back (R : RD T B ρ G H σ env μ) (R' : RD T B ρ' G' H' σ2 env2 μ') (s : Same G G') (p : Pre ρ ρ') {vs : List Nat} (no : noOwn env vs = true) (he : ∀ i, i ∉ vs → env2[i]? = env[i]?) (hσ : ∀ i, i ∉ vs → σ2[i]? = σ[i]?) :
    RD T B ρ' G' H' σ env μ' := by
  have nv : ∀ {i : Nat} {l : List D}, env[i]? = some (.own l) → i ∉ vs := fun {i l} h m => by
    have q := List.all_eq_true.mp no i m
    rw [h] at q; cases q
  refine ⟨R'.gh, R'.ext, R.len, fun i t ht => ?_, fun i j l l' q h1 h2 h3 h4 => ?_, R'.st, fun q hq => ?_, R'.xn⟩
  · cases t with
    | no => trivial
    | v d =>
      obtain ⟨v, e1, e2⟩ := R.slot i _ ht
      exact ⟨v, e1, e2.mono s p⟩
    | own l =>
      have m := nv ht
      have h := R'.slot i (.own l) (by rw [he i m]; exact ht)
      unfold SlR at h ⊢
      rw [← hσ i m]; exact h
  · have m1 := nv h1
    have m2 := nv h2
    exact R'.own i j l l' q (by rw [he i m1]; exact h1) (by rw [he j m2]; exact h2) (by rw [hσ i m1]; exact h3) (by rw [hσ j m2]; exact h4)
  · obtain ⟨e1, e2, e3, e4, e5⟩ := R'.xo q hq
    refine ⟨e1, e2, e3, e4, fun i l' h1 h2 => ?_⟩
    have m := nv h1
    exact e5 i l' (by rw [he i m]; exact h1) (by rw [hσ i m]; exact h2)
end

/-! ### walks -/
structure WalkD (T : Tx) (J : It) (ρ : List Addr) (G : Hp) (ds : List D) : Prop where
  sz : szl ds.length
  go : ∀ (i : Nat) d, ds[i]? = some d → ∀ ρ' G' H', Same G G' → Pre ρ ρ' → Same G' H' → J.go i H' ∧ ∀ x H'', J.yld i H' x H'' →
    (H'' = H' ∧ Rep T ρ' G' x d) ∨ ∃ p vs l, H' p = none ∧ H'' = upd H' p (.tup vs) ∧ x = .ref p ∧ d = .tup l ∧ Reps T ρ' G' vs l ∧ szl l.length
  stop : ∀ ρ' G' H', Same G G' → Pre ρ ρ' → Same G' H' → J.stop ds.length H'
def rdI (T : Tx) (B : Bs) (W : WX) (m : DEnv → Mu → Res (List D)) : TI := fun σ H R => ∃ ρ G env μ, RD T B ρ G H σ env μ ∧ KE T B σ env W (fun ρ' G' H' _ ds => ∀ J, WalkD T J ρ' G' ds → R J H') ρ G (m env μ)
structure DI (X : Cx) (B : Bs) (W : WX) (tg iter : Expr) (m : DEnv → Mu → Res (List D)) : Prop where
  run : PI X tg iter (rdI (tx X) B W m)
theorem piImp {X : Cx} {tg iter : Expr} {w w' : TI} (h : PI X tg iter w) (i : ∀ σ H R, w' σ H R → w σ H R) : PI X tg iter w' := ⟨fun pins s σ H R I q => h.run pins s σ H R I (i σ H R q)⟩
theorem piOr {X : Cx} {tg iter : Expr} {w w' : TI} (h : PI X tg iter w) (h' : PI X tg iter w') : PI X tg iter (fun σ H R => w σ H R ∨ w' σ H R) := ⟨fun pins s σ H R I q => q.elim (h.run pins s σ H R I) (h'.run pins s σ H R I)⟩
section
variable {X : Cx} {B : Bs} {W : WX} {T : Tx} {ρ : List Addr} {G H : Hp}
theorem walk_list {K : PySem.W.Frag} {a : Addr} {vs : List V} {l : List D} (hg : G a = some (.lst vs)) (z : szl l.length) (r : Reps T ρ G vs l) : WalkD T (Itl K a) ρ G l where
  sz := z
  go := fun i d hd ρ' G' H' s p gh => by
    obtain ⟨v, e, q⟩ := r.get hd
    have h1 : SqL K H' a vs := .of (gh _ _ (s _ _ hg))
    exact ⟨⟨vs, v, h1, e⟩, fun x H'' ⟨e1, e2⟩ => .inl ⟨e1, by have := e2 vs h1; rw [e] at this; cases this; exact q.mono s p⟩⟩
  stop := fun ρ' G' H' s p gh => ⟨vs, .of (gh _ _ (s _ _ hg)), by rw [r.length]; exact Nat.le_refl _⟩
theorem walk_tup {a : Addr} {vs : List V} {l : List D} (hg : SqG T.K G a vs) (z : szl l.length) (r : Reps T ρ G vs l) : WalkD T (Itt T.K a) ρ G l where
  sz := z
  go := fun i d hd ρ' G' H' s p gh => by
    obtain ⟨v, e, q⟩ := r.get hd
    have h1 : SqT T.K H' a vs := (sqG_mono gh (sqG_mono s hg)).sq
    exact ⟨⟨vs, v, h1, e⟩, fun x H'' ⟨e1, e2⟩ => .inl ⟨e1, by have := e2 vs h1; rw [e] at this; cases this; exact q.mono s p⟩⟩
  stop := fun ρ' G' H' s p gh => ⟨vs, (sqG_mono gh (sqG_mono s hg)).sq, by rw [r.length]; exact Nat.le_refl _⟩
def signs (z : Str) : List D := z.cps.toList.map fun c => .str ⟨#[c]⟩
theorem walk_str {z : Str} (hz : szl z.cps.size) : WalkD T (Its z) ρ G (signs z) where
  sz := by simp [signs]; exact hz
  go := fun i d hd ρ' G' H' s p gh => by
    unfold signs at hd
    rw [List.getElem?_map] at hd
    cases e : z.cps.toList[i]? with
    | none => rw [e] at hd; cases hd
    | some c =>
      rw [e] at hd
      cases hd
      have e' : z.cps[i]? = some c := by simpa using e
      refine ⟨?_, fun x H'' ⟨e1, c', e2, e3⟩ => .inl ⟨e1, ?_⟩⟩
      · exact (Array.getElem?_eq_some_iff.mp e').1
      · rw [e'] at e2; cases e2; rw [e3]; exact rep_str
  stop := fun ρ' G' H' s p gh => by show z.cps.size ≤ _; simp [signs]
def fIter : D → Mu → Res (List D)
  | .tup l, μ => ret l μ
  | .lst l, μ => ret l μ
  | .new l, μ => ret l μ
  | .str z, μ => if szl z.cps.size then ret (signs z) μ else none
  | _, _ => none
def dIter (m : DEx) : DEnv → Mu → Res (List D) := fun env μ => bindR (m env μ) fIter
theorem di_seq {tg e : Expr} {m : DEx} (h : DE X B W e m) : DI X B W tg e (dIter m) := by
  refine ⟨piImp (piOr (pi_list h.run) (piOr (pi_tup h.run) (pi_str h.run))) fun σ H R ⟨ρ, G, env, μ, R0, k⟩ => ?_⟩
  cases hm : m env μ with
  | none => unfold dIter at k; rw [hm] at k; exact k.elim
  | some q =>
    obtain ⟨o, μ1⟩ := q
    cases o with
    | exc x =>
      refine .inl ⟨ρ, G, env, μ, R0, ?_⟩
      unfold dIter at k
      rw [hm] at k ⊢
      exact k
    | val d =>
      have k : KE (tx X) B σ env W (fun ρ' G' H' _ ds => ∀ J, WalkD (tx X) J ρ' G' ds → R J H') ρ G (bindR (m env μ) fIter) := k
      rw [hm] at k
      cases d with
      | tup l =>
        refine .inr (.inl ⟨ρ, G, env, μ, R0, ?_⟩)
        rw [hm]
        intro ρ' G' H' s p R1 v hv
        obtain ⟨a, vs, rfl, q, z, r⟩ := tup_inv (σ := σ) (env := env) hv
        exact ⟨a, rfl, ⟨vs, (sqG_mono R1.gh q).sq⟩, k ρ' G' H' s p R1 _ (walk_tup q z r)⟩
      | lst l =>
        refine .inl ⟨ρ, G, env, μ, R0, ?_⟩
        rw [hm]
        intro ρ' G' H' s p R1 v hv
        obtain ⟨a, vs, rfl, q, z, r⟩ := lst_inv (σ := σ) (env := env) hv
        exact ⟨a, rfl, ⟨vs, .of (R1.gh _ _ q)⟩, k ρ' G' H' s p R1 _ (walk_list q z r)⟩
      | new l =>
        refine .inl ⟨ρ, G, env, μ, R0, ?_⟩
        rw [hm]
        intro ρ' G' H' s p R1 v hv
        obtain ⟨G2, s2, R2, h2⟩ := hv.hold R1
        obtain ⟨a, vs, rfl, q, z, r⟩ := lst_inv h2
        exact ⟨a, rfl, ⟨vs, .of (R2.gh _ _ q)⟩, k ρ' G2 H' (s.trans s2) p R2 _ (walk_list q z r)⟩
      | str z =>
        refine .inr (.inr ⟨ρ, G, env, μ, R0, ?_⟩)
        rw [hm]
        intro ρ' G' H' s p R1 v hv
        have e := str_inv (T := tx X) (ρ := ρ') (G := G') (σ := σ) (env := env) hv
        unfold bindR fIter at k
        simp only at k
        split at k
        · rename_i hz
          exact ⟨z, e, k ρ' G' H' s p R1 _ (walk_str hz)⟩
        · exact k.elim
      | _ => exact k.elim
/-! ### range -/
/-- (by natAbs: a kernel that tries an addition of a written number to an unknown one counts it down) -/
def small62 (i : Int) : Bool := decide (i.natAbs < 4611686018427387904)
def rangeD (lo hi : Int) : List D := (List.range (hi - lo).toNat).map fun (i : Nat) => .int (lo + i)
def fRange1 : List D → Mu → Res (List D)
  | [.int j], μ => if small62 j = true ∧ szl (j - 0).toNat then ret (rangeD 0 j) μ else none
  | _, _ => none
def fRange2 : List D → Mu → Res (List D)
  | [.int i, .int j], μ => if small62 i = true ∧ small62 j = true ∧ szl (j - i).toNat then ret (rangeD i j) μ else none
  | _, _ => none
theorem rangeD_len (lo hi : Int) : (rangeD lo hi).length = (hi - lo).toNat := by simp [rangeD]
theorem walk_range {lo hi : Int} (z : szl (hi - lo).toNat) : WalkD T (Itr lo (hi - lo).toNat) ρ G (rangeD lo hi) where
  sz := by rw [rangeD_len]; exact z
  go := fun i d hd ρ' G' H' s p gh => by
    unfold rangeD at hd
    rw [List.getElem?_map] at hd
    by_cases hi' : i < (hi - lo).toNat
    · rw [List.getElem?_range hi'] at hd
      cases hd
      exact ⟨hi', fun x H'' ⟨e1, e2⟩ => .inl ⟨e1, by rw [e2]; exact rep_int⟩⟩
    · rw [List.getElem?_eq_none (by simpa using hi')] at hd; cases hd
  stop := fun ρ' G' H' s p gh => by show (hi - lo).toNat ≤ _; rw [rangeD_len]; exact Nat.le_refl _
theorem hreps1 {T : Tx} {ρ : List Addr} {G : Hp} {σ : L2.St} {env : DEnv} {vs : List V} {d : D} (h : HReps T ρ G σ env vs [d]) : ∃ v, vs = [v] ∧ HeldR T ρ G σ env v d := by
  cases h with
  | cons a b => cases b; exact ⟨_, rfl, a⟩
theorem hreps2 {T : Tx} {ρ : List Addr} {G : Hp} {σ : L2.St} {env : DEnv} {vs : List V} {d e : D} (h : HReps T ρ G σ env vs [d, e]) : ∃ v u, vs = [v, u] ∧ HeldR T ρ G σ env v d ∧ HeldR T ρ G σ env u e := by
  cases h with
  | cons a b =>
    obtain ⟨u, rfl, q⟩ := hreps1 b
    exact ⟨_, _, rfl, a, q⟩
theorem small62_ok {i : Int} (h : small62 i = true) : -(2 ^ 62) ≤ i ∧ i < 2 ^ 62 := by
  unfold small62 at h
  simp only [decide_eq_true_eq] at h
  omega
def dArg (f : List D → Mu → Res (List D)) (n : DEnv → Mu → Res (List D)) : DEnv → Mu → Res (List D) := fun env μ => bindR (n env μ) f
theorem di_range1 {tg a : Expr} {p pos : Pos} {n : DEnv → Mu → Res (List D)} (hg : Gl X "range") (hm : X.mg "range" = none) (ha : DA X B W [a] n) (hs : starEach [a] X.env = [(false, eval a X.env)] := by rfl) : DI X B W tg (.Call (.Name "range" p) [a] [] pos) (dArg fRange1 n) := by
  refine ⟨piImp (pi_range1 hg hm ha.run hs) fun σ H R ⟨ρ, G, env, μ, R0, k⟩ => ⟨ρ, G, env, μ, R0, (KE.bind (f := fRange1) k).imp fun ρ1 G1 H1 μ1 ds s p R1 k1 vs hvs => ?_⟩⟩
  unfold fRange1 at k1
  split at k1
  · split at k1
    · rename_i j hz
      obtain ⟨v, rfl, hv⟩ := hreps1 hvs
      have b := small62_ok hz.1
      refine ⟨j, by rw [int_inv hv], b.1, b.2, ?_⟩
      have e : j.toNat = (j - 0).toNat := by omega
      rw [e]
      exact k1 ρ1 G1 H1 (fun _ _ h => h) (.refl _) R1 _ (walk_range hz.2)
    · exact k1.elim
  · exact k1.elim
theorem di_range2 {tg a b : Expr} {p pos : Pos} {n : DEnv → Mu → Res (List D)} (hg : Gl X "range") (hm : X.mg "range" = none) (ha : DA X B W [a, b] n) (hs : starEach [a, b] X.env = [(false, eval a X.env), (false, eval b X.env)] := by rfl) (hs2 : starEach [b] X.env = [(false, eval b X.env)] := by rfl) :
    DI X B W tg (.Call (.Name "range" p) [a, b] [] pos) (dArg fRange2 n) := by
  refine ⟨piImp (pi_range2 hg hm ha.run hs hs2) fun σ H R ⟨ρ, G, env, μ, R0, k⟩ => ⟨ρ, G, env, μ, R0, (KE.bind (f := fRange2) k).imp fun ρ1 G1 H1 μ1 ds s p R1 k1 vs hvs => ?_⟩⟩
  unfold fRange2 at k1
  split at k1
  · split at k1
    · rename_i i j hz
      obtain ⟨v, u, rfl, hv, hu⟩ := hreps2 hvs
      have b1 := small62_ok hz.1
      have b2 := small62_ok hz.2.1
      refine ⟨i, j, by rw [int_inv hv, int_inv hu], ⟨b1.1, b1.2, b2.1, b2.2⟩, ?_⟩
      exact k1 ρ1 G1 H1 (fun _ _ h => h) (.refl _) R1 _ (walk_range hz.2.2)
    · exact k1.elim
  · exact k1.elim
/-! ### zip, enumerate -/
/-- the items of a list or a tuple that stands -/
def seqD : D → Option (List D)
  | .tup l => some l
  | .lst l => some l
  | _ => none
theorem seqD_inv {T : Tx} {B : Bs} {ρ : List Addr} {G H : Hp} {σ : L2.St} {env : DEnv} {μ : Mu} {x : V} {d : D} {l : List D} (R : RD T B ρ G H σ env μ) (h : HeldR T ρ G σ env x d) (e : seqD d = some l) :
    ∃ k a vs, x = .ref a ∧ (∀ G' H', Same G G' → Same G' H' → SqS T.K H' k a vs) ∧ szl l.length ∧ Reps T ρ G vs l := by
  cases d with
  | tup l' =>
    cases e
    obtain ⟨a, vs, q, g, z, r⟩ := tup_inv h
    exact ⟨false, a, vs, q, fun G' H' s gh => (sqG_mono gh (sqG_mono s g)).sq, z, r⟩
  | lst l' =>
    cases e
    obtain ⟨a, vs, q, g, z, r⟩ := lst_inv h
    exact ⟨true, a, vs, q, fun G' H' s gh => .of (gh _ _ (s _ _ g)), z, r⟩
  | _ => cases e
def pairD (a b : D) : D := .tup [a, b]
def fZip : List D → Mu → Res (List D)
  | [a, b], μ => match seqD a, seqD b with
    | some l, some m => ret (List.zipWith pairD l m) μ
    | _, _ => none
  | _, _ => none
def enumD : Nat → List D → List D
  | _, [] => []
  | i, d :: ds => pairD (.int i) d :: enumD (i + 1) ds
def fEnum : List D → Mu → Res (List D)
  | [a], μ => match seqD a with
    | some l => ret (enumD 0 l) μ
    | none => none
  | _, _ => none
theorem reps2 {T : Tx} {ρ : List Addr} {G : Hp} {x y : V} {a b : D} (h : Rep T ρ G x a) (g : Rep T ρ G y b) : Reps T ρ G [x, y] [a, b] := .cons h (.cons g .nil)
theorem walk_zip {K : PySem.W.Frag} {k1 k2 : Bool} {a b : Addr} {us vs : List V} {l m : List D} (h1 : ∀ G' H', Same G G' → Same G' H' → SqS K H' k1 a us) (h2 : ∀ G' H', Same G G' → Same G' H' → SqS K H' k2 b vs) (z : szl l.length) (r1 : Reps T ρ G us l) (r2 : Reps T ρ G vs m) :
    WalkD T (ItZ K k1 k2 a b) ρ G (List.zipWith pairD l m) where
  sz := by rw [List.length_zipWith]; exact Nat.le_trans (Nat.min_le_left _ _) z
  go := fun i d hd ρ' G' H' s p gh => by
    rw [List.getElem?_zipWith] at hd
    cases e1 : l[i]? with
    | none => rw [e1] at hd; cases hd
    | some d1 =>
      cases e2 : m[i]? with
      | none => rw [e1, e2] at hd; cases hd
      | some d2 =>
        rw [e1, e2] at hd
        cases hd
        obtain ⟨v1, q1, t1⟩ := r1.get e1
        obtain ⟨v2, q2, t2⟩ := r2.get e2
        refine ⟨⟨us, vs, v1, v2, h1 G' H' s gh, h2 G' H' s gh, q1, q2⟩, fun x H'' ⟨T', x', y', ex, hn, eH, f1, f2⟩ => .inr ⟨T', [x', y'], [d1, d2], hn, eH, ex, rfl, ?_, by show 2 ≤ 16777216; decide⟩⟩
        have g1 := f1 us (h1 G' H' s gh)
        have g2 := f2 vs (h2 G' H' s gh)
        rw [q1] at g1; cases g1
        rw [q2] at g2; cases g2
        exact reps2 (t1.mono s p) (t2.mono s p)
  stop := fun ρ' G' H' s p gh => ⟨us, vs, h1 G' H' s gh, h2 G' H' s gh, by rw [List.length_zipWith, r1.length, r2.length]⟩
theorem enumD_len : ∀ (l : List D) (i : Nat), (enumD i l).length = l.length
  | [], _ => rfl
  | d :: ds, i => by unfold enumD; simp [enumD_len ds]
theorem enumD_get : ∀ {l : List D} {i j : Nat} {d : D}, (enumD j l)[i]? = some d → ∃ d', l[i]? = some d' ∧ d = pairD (.int ((j + i : Nat) : Int)) d'
  | [], i, j, d, h => by simp [enumD] at h
  | x :: ds, 0, j, d, h => by
    unfold enumD at h
    simp at h
    exact ⟨x, rfl, by rw [← h]; simp⟩
  | x :: ds, i + 1, j, d, h => by
    unfold enumD at h
    obtain ⟨d', e1, e2⟩ := enumD_get (l := ds) (i := i) (j := j + 1) (by simpa using h)
    exact ⟨d', by simpa using e1, by rw [e2, show j + 1 + i = j + (i + 1) by omega]⟩
theorem walk_enum {K : PySem.W.Frag} {k1 : Bool} {a : Addr} {us : List V} {l : List D} (h1 : ∀ G' H', Same G G' → Same G' H' → SqS K H' k1 a us) (z : szl l.length) (r1 : Reps T ρ G us l) : WalkD T (ItE K k1 a) ρ G (enumD 0 l) where
  sz := by rw [enumD_len]; exact z
  go := fun i d hd ρ' G' H' s p gh => by
    obtain ⟨d', e1, rfl⟩ := enumD_get hd
    obtain ⟨v1, q1, t1⟩ := r1.get e1
    refine ⟨⟨us, v1, h1 G' H' s gh, q1⟩, fun x H'' ⟨T', x', ex, hn, eH, f1⟩ => .inr ⟨T', [.int (i : Nat), x'], [.int ((0 + i : Nat) : Int), d'], hn, eH, ex, rfl, ?_, by show 2 ≤ 16777216; decide⟩⟩
    have g1 := f1 us (h1 G' H' s gh)
    rw [q1] at g1; cases g1
    exact reps2 (by rw [Nat.zero_add]; exact rep_int) (t1.mono s p)
  stop := fun ρ' G' H' s p gh => ⟨us, h1 G' H' s gh, by rw [enumD_len, r1.length]⟩
theorem di_zip {elts : List Expr} {kk : Nat} {tpos : Pos} {a b : Expr} {p pos : Pos} {n : DEnv → Mu → Res (List D)} (hg : Gl X "zip") (hm : X.mg "zip" = none) (ha : DA X B W [a, b] n)
    (hs : starEach [a, b] X.env = (false, eval a X.env) :: starEach [b] X.env := by rfl) (hpl : (backTo pos (starEach [b] X.env)).any (·.1) = false := by rfl) : DI X B W (.Tuple elts kk tpos) (.Call (.Name "zip" p) [a, b] [] pos) (dArg fZip n) := by
  refine ⟨piImp (pi_zipS hg hm ha.run hs hpl) fun σ H R ⟨ρ, G, env, μ, R0, k⟩ => ⟨ρ, G, env, μ, R0, (KE.bind (f := fZip) k).imp fun ρ1 G1 H1 μ1 ds s p R1 k1 vs hvs => ?_⟩⟩
  unfold fZip at k1
  split at k1
  · rename_i d e
    split at k1
    · rename_i l m e1 e2
      obtain ⟨v, u, rfl, hv, hu⟩ := hreps2 hvs
      obtain ⟨k, a, xs, rfl, q1, z1, r1⟩ := seqD_inv R1 hv e1
      obtain ⟨k', b, ys, rfl, q2, z2, r2⟩ := seqD_inv R1 hu e2
      exact ⟨k, k', a, b, xs, ys, rfl, q1 _ _ (fun _ _ h => h) R1.gh, q2 _ _ (fun _ _ h => h) R1.gh, k1 ρ1 G1 H1 (fun _ _ h => h) (.refl _) R1 _ (walk_zip q1 q2 z1 r1 r2)⟩
    · exact k1.elim
  · exact k1.elim
theorem di_enum {elts : List Expr} {kk : Nat} {tpos : Pos} {a : Expr} {p pos : Pos} {n : DEnv → Mu → Res (List D)} (hg : Gl X "enumerate") (hm : X.mg "enumerate" = none) (ha : DA X B W [a] n)
    (hs : starEach [a] X.env = [(false, eval a X.env)] := by rfl) : DI X B W (.Tuple elts kk tpos) (.Call (.Name "enumerate" p) [a] [] pos) (dArg fEnum n) := by
  refine ⟨piImp (pi_enumS hg hm ha.run hs) fun σ H R ⟨ρ, G, env, μ, R0, k⟩ => ⟨ρ, G, env, μ, R0, (KE.bind (f := fEnum) k).imp fun ρ1 G1 H1 μ1 ds s p R1 k1 vs hvs => ?_⟩⟩
  unfold fEnum at k1
  split at k1
  · rename_i d
    split at k1
    · rename_i l e1
      obtain ⟨v, rfl, hv⟩ := hreps1 hvs
      obtain ⟨k, a, xs, rfl, q1, z1, r1⟩ := seqD_inv R1 hv e1
      exact ⟨k, a, xs, rfl, q1 _ _ (fun _ _ h => h) R1.gh, k1 ρ1 G1 H1 (fun _ _ h => h) (.refl _) R1 _ (walk_enum q1 z1 r1)⟩
    · exact k1.elim
  · exact k1.elim
end
end Dv

/-! DvF: targets, comprehensions, calls of built-ins, subscripts. -/
namespace Dv
open PySem PySem.Spec PyProof.Rows L2
/-! ### targets -/
abbrev DTg := DEnv → D → Option DEnv
/-- a target by deep values: it stores the slots is -/
structure GD (K : PySem.W.Frag) (mg : Str → Option Value) (g : TG) (t : DTg) (is : List Nat) : Prop where
  ok : ∀ (B : Bs) (ρ : List Addr) (G H : Hp) (σ : L2.St) (env : DEnv) (μ : Mu) (x : V) (d : D) (env' : DEnv) (Q : L2.St → Hp → Prop), RD ⟨K, mg⟩ B ρ G H σ env μ → Rep ⟨K, mg⟩ ρ G x d → t env d = some env' →
    (∀ σ', RD ⟨K, mg⟩ B ρ G H σ' env' μ → (∀ vs : List Nat, (∀ i ∈ is, i ∈ vs) → wipe σ' vs = wipe σ vs) → (∀ i, i ∉ is → σ'[i]? = σ[i]?) → Q σ' H) → g x σ H Q
  out : ∀ env d env', t env d = some env' → ∀ i, i ∉ is → env'[i]? = env[i]?
structure GsD (K : PySem.W.Frag) (mg : Str → Option Value) (g : TGs) (t : DEnv → List D → Option DEnv) (is : List Nat) : Prop where
  ok : ∀ (B : Bs) (ρ : List Addr) (G H : Hp) (σ : L2.St) (env : DEnv) (μ : Mu) (xs : List V) (ds : List D) (env' : DEnv) (Q : L2.St → Hp → Prop), RD ⟨K, mg⟩ B ρ G H σ env μ → Reps ⟨K, mg⟩ ρ G xs ds → t env ds = some env' →
    (∀ σ', RD ⟨K, mg⟩ B ρ G H σ' env' μ → (∀ vs : List Nat, (∀ i ∈ is, i ∈ vs) → wipe σ' vs = wipe σ vs) → (∀ i, i ∉ is → σ'[i]? = σ[i]?) → Q σ' H) → g xs σ H Q
  out : ∀ env ds env', t env ds = some env' → ∀ i, i ∉ is → env'[i]? = env[i]?
def tName (i : Nat) : DTg := fun env d => some (env.set i (.v d))
def tsNil : DEnv → List D → Option DEnv
  | env, [] => some env
  | _, _ => none
def tsCons (t : DTg) (u : DEnv → List D → Option DEnv) : DEnv → List D → Option DEnv
  | env, d :: ds => (match t env d with
    | some env' => u env' ds
    | none => none)
  | _, [] => none
def tTup (n : Nat) (u : DEnv → List D → Option DEnv) : DTg := fun env d => match d with
  | .tup l => if l.length = n then u env l else none
  | _ => none
section
variable {K : PySem.W.Frag} {mg : Str → Option Value}
theorem wipe_set {σ : L2.St} {i : Nat} {v : Option V} : ∀ {vs : List Nat}, i ∈ vs → wipe (σ.set i v) vs = wipe σ vs := by
  intro vs h
  apply List.ext_getElem?
  intro j
  have len : (wipe (σ.set i v) vs).length = (wipe σ vs).length := by rw [wipe_length, wipe_length, List.length_set]
  by_cases hj : j ∈ vs
  · have w : ∀ (τ : L2.St), (wipe τ vs)[j]? = if j < τ.length then some none else none := by
      intro τ
      induction vs with
      | nil => cases hj
      | cons u us ih =>
        unfold wipe
        by_cases e : u = j
        · subst e
          by_cases hl : u < τ.length
          · rw [List.getElem?_set_self (by rw [wipe_length]; exact hl), if_pos hl]
          · rw [List.getElem?_eq_none (by rw [List.length_set, wipe_length]; omega), if_neg hl]
        · rw [List.getElem?_set_ne e]
          have hj' : j ∈ us := by
            rcases List.mem_cons.mp hj with q | q
            · exact absurd q.symm e
            · exact q
          clear ih
          revert hj'
          intro hj'
          have : ∀ (ws : List Nat), j ∈ ws → (wipe τ ws)[j]? = if j < τ.length then some none else none := by
            intro ws
            induction ws with
            | nil => intro z; cases z
            | cons y ys ih2 =>
              intro z
              unfold wipe
              by_cases e2 : y = j
              · subst e2
                by_cases hl : y < τ.length
                · rw [List.getElem?_set_self (by rw [wipe_length]; exact hl), if_pos hl]
                · rw [List.getElem?_eq_none (by rw [List.length_set, wipe_length]; omega), if_neg hl]
              · rw [List.getElem?_set_ne e2]
                rcases List.mem_cons.mp z with q | q
                · exact absurd q.symm e2
                · exact ih2 q
          exact this us hj'
    rw [w, w, List.length_set]
  · rw [wipe_out hj, wipe_out hj, List.getElem?_set_ne (fun e => hj (by rw [← e]; exact h))]
theorem gd_name {i : Nat} : GD K mg (gName i) (tName i) [i] where
  ok := fun B ρ G H σ env μ x d env' Q R r e k => by
    unfold tName at e
    cases e
    refine k (σ.set i (some x)) (R.set r) (fun vs h => wipe_set (h i (by simp))) fun j hj => ?_
    exact List.getElem?_set_ne (fun q => hj (by simp [q]))
  out := fun env d env' e j hj => by
    unfold tName at e
    cases e
    exact List.getElem?_set_ne (fun q => hj (by simp [q]))
theorem gsd_nil : GsD K mg gNil tsNil [] where
  ok := fun B ρ G H σ env μ xs ds env' Q R r e k => by
    cases ds with
    | nil =>
      unfold tsNil at e
      cases e
      exact ⟨r.inv0, k σ R (fun _ _ => rfl) fun _ _ => rfl⟩
    | cons d ds => unfold tsNil at e; cases e
  out := fun env ds env' e j hj => by
    cases ds with
    | nil => unfold tsNil at e; cases e; rfl
    | cons d ds => unfold tsNil at e; cases e
theorem gsd_cons {g : TG} {t : DTg} {is js : List Nat} {gs : TGs} {u : DEnv → List D → Option DEnv} (h : GD K mg g t is) (h' : GsD K mg gs u js) : GsD K mg (gCons g gs) (tsCons t u) (is ++ js) where
  ok := fun B ρ G H σ env μ xs ds env' Q R r e k => by
    cases ds with
    | nil => unfold tsCons at e; cases e
    | cons d ds =>
      unfold tsCons at e
      simp only at e
      split at e
      · rename_i env1 e1
        obtain ⟨v, rr, rfl, r1, r2⟩ := r.inv
        refine ⟨v, rr, rfl, h.ok B ρ G H σ env μ v d env1 _ R r1 e1 fun σ1 R1 w1 o1 => h'.ok B ρ G H σ1 env1 μ rr ds env' _ R1 r2 e fun σ2 R2 w2 o2 => k σ2 R2 (fun vs hv => ?_) fun i hi => ?_⟩
        · rw [w2 vs fun i hi => hv i (List.mem_append_right _ hi), w1 vs fun i hi => hv i (List.mem_append_left _ hi)]
        · rw [o2 i fun m => hi (List.mem_append_right _ m), o1 i fun m => hi (List.mem_append_left _ m)]
      · cases e
  out := fun env ds env' e i hi => by
    cases ds with
    | nil => unfold tsCons at e; cases e
    | cons d ds =>
      unfold tsCons at e
      simp only at e
      split at e
      · rename_i env1 e1
        rw [h'.out _ _ _ e i fun m => hi (List.mem_append_right _ m), h.out _ _ _ e1 i fun m => hi (List.mem_append_left _ m)]
      · cases e
theorem gd_tup {n : Nat} {gs : TGs} {u : DEnv → List D → Option DEnv} {is : List Nat} (h : GsD K mg gs u is) : GD K mg (gTup K n gs) (tTup n u) is where
  ok := fun B ρ G H σ env μ x d env' Q R r e k => by
    unfold tTup at e
    split at e
    · rename_i l
      split at e
      · rename_i hn
        obtain ⟨a, vs, rfl, q, z, rs⟩ := tup_inv (σ := σ) (env := env) (.of r)
        exact ⟨a, vs, rfl, (sqG_mono R.gh q).sq, by rw [rs.length, hn], h.ok B ρ G H σ env μ vs l env' Q R rs e k⟩
      · cases e
    · cases e
  out := fun env d env' e i hi => by
    unfold tTup at e
    split at e
    · split at e
      · exact h.out _ _ _ e i hi
      · cases e
    · cases e
end
/-! ### a list of the block's own -/
def Bs.add (B : Bs) (a : Addr) (vs : List V) : Bs := { B with xo := (a, vs) :: B.xo }
section
variable {T : Tx} {B : Bs} {ρ : List Addr} {G H : Hp} {σ : L2.St} {env : DEnv} {μ : Mu} {a : Addr} {vs us : List V}
theorem RD.addX (R : RD T B ρ G H σ env μ) (h1 : H a = some (.lst vs)) (h2 : G a = none) (h3 : a ∉ ρ) (h4 : B.H0 a = none) (h5 : ∀ (i : Nat) (l' : List D), env[i]? = some (.own l') → σ[i]? ≠ some (some (.ref a))) (h6 : ∀ q ∈ B.xo, q.1 ≠ a) :
    RD T (B.add a vs) ρ G H σ env μ :=
  ⟨R.gh, R.ext, R.len, R.slot, R.own, R.st, fun q hq => (List.mem_cons.mp hq).elim (fun e => by subst e; exact ⟨h1, h2, h3, h4, h5⟩) (R.xo q), List.nodup_cons.mpr ⟨fun m => by
    obtain ⟨q, hq, e⟩ := List.mem_map.mp m
    exact h6 q hq e, R.xn⟩⟩
theorem RD.delX (R : RD T (B.add a vs) ρ G H σ env μ) : RD T B ρ G H σ env μ ∧ H a = some (.lst vs) ∧ G a = none ∧ a ∉ ρ ∧ B.H0 a = none ∧ (∀ (i : Nat) (l' : List D), env[i]? = some (.own l') → σ[i]? ≠ some (some (.ref a))) ∧ ∀ q ∈ B.xo, q.1 ≠ a := by
  have h := R.xo (a, vs) List.mem_cons_self
  have n := List.nodup_cons.mp (show ((a :: B.xo.map (·.1)) : List Addr).Nodup from R.xn)
  exact ⟨⟨R.gh, R.ext, R.len, R.slot, R.own, R.st, fun q hq => R.xo q (List.mem_cons_of_mem _ hq), n.2⟩, h.1, h.2.1, h.2.2.1, h.2.2.2.1, h.2.2.2.2, fun q hq e => n.1 (List.mem_map.mpr ⟨q, hq, e⟩)⟩
/-- nobody's list is changed -/
theorem RD.writeN (R : RD T B ρ G H σ env μ) {o : HO} (h1 : ∃ o', H a = some o') (h2 : G a = none) (h3 : a ∉ ρ) (h4 : B.H0 a = none) (h5 : ∀ (i : Nat) (l' : List D), env[i]? = some (.own l') → σ[i]? ≠ some (some (.ref a))) (h6 : ∀ q ∈ B.xo, q.1 ≠ a) :
    RD T B ρ G (upd H a o) σ env μ := by
  refine ⟨fun b u e => ?_, ⟨R.ext.gg, R.ext.pre, fun b u e => ?_, R.ext.fg, R.ext.fr⟩, R.len, fun i s hs => ?_, R.own, ⟨R.st.len, R.st.nd, R.st.off, fun k m hm => ?_⟩, fun q hq => ?_, R.xn⟩
  · rw [upd_ne (fun q => by rw [q, h2] at e; cases e)]; exact R.gh b u e
  · obtain ⟨o', e1, k⟩ := R.ext.keep b u e
    exact ⟨o', by rw [upd_ne (fun q => by rw [q, h4] at e; cases e)]; exact e1, k⟩
  · have h := R.slot i s hs
    cases s with
    | no => trivial
    | v d => exact h
    | own l =>
      obtain ⟨q, ws, e1, e2, r⟩ := h
      exact ⟨q, ws, e1, by rw [upd_ne (fun z => h5 i l hs (by rw [e1, z]))]; exact e2, r⟩
  · obtain ⟨b, eb, r⟩ := R.st.at_ k m hm
    refine ⟨b, eb, ?_⟩
    have nb : b ≠ a := fun z => h3 (z ▸ List.mem_of_getElem? eb)
    exact r.to (fun _ _ e => e) fun o e1 => by rw [upd_ne nb]; exact e1
  · obtain ⟨e1, e2⟩ := R.xo q hq
    exact ⟨by rw [upd_ne (h6 q hq)]; exact e1, e2⟩
theorem RD.updX (R : RD T (B.add a vs) ρ G H σ env μ) : RD T (B.add a us) ρ G (upd H a (.lst us)) σ env μ := by
  obtain ⟨R0, h1, h2, h3, h4, h5, h6⟩ := R.delX
  exact (R0.writeN ⟨_, h1⟩ h2 h3 h4 h5 h6).addX upd_same h2 h3 h4 h5 h6
end
/-! ### comprehensions -/
def W0 : WX := fun _ _ _ _ => False
def lcRun (tg : DTg) (tt : DEnv → Mu → Res Bool) (el : DEx) (env : DEnv) : List D → Mu → Option (List D × Mu)
  | [], μ => some ([], μ)
  | d :: ds, μ => match tg env d with
    | none => none
    | some env1 => match tt env1 μ with
      | some (.val true, μ1) => (match el env1 μ1 with
        | some (.val d', μ2) => if nobor d' then (match lcRun tg tt el env ds μ2 with
          | some (l, μ3) => some (hold d' :: l, μ3)
          | none => none) else none
        | _ => none)
      | some (.val false, μ1) => lcRun tg tt el env ds μ1
      | _ => none
def lcFin (tg : DTg) (tt : DEnv → Mu → Res Bool) (el : DEx) (env : DEnv) (ds : List D) (μ : Mu) : Res D := match lcRun tg tt el env ds μ with
  | some (l, μ1) => ret (.new l) μ1
  | none => none
def dLc (it : DEnv → Mu → Res (List D)) (own : List Nat) (tg : DTg) (tt : DEnv → Mu → Res Bool) (el : DEx) : DEx := fun env μ => if noOwn env own then bindR (it env μ) (lcFin tg tt el (wipeD env own)) else none
structure DTs (X : Cx) (B : Bs) (W : WX) (ifs : List Expr) (m : DEnv → Mu → Res Bool) : Prop where
  run : PTs X ifs (rdT (tx X) B W m)
def dYes : DEnv → Mu → Res Bool := fun _ μ => ret true μ
theorem dts_nil {X : Cx} {B : Bs} {W : WX} : DTs X B W [] dYes := ⟨⟨fun pins s σ H Q I ⟨ρ, G, env, μ, R, k⟩ => pts_nil.run pins s σ H Q I (k ρ G H (fun _ _ h => h) (.refl _) R)⟩⟩
theorem dts_one {X : Cx} {B : Bs} {W : WX} {c : Expr} {m : DEnv → Mu → Res Bool} (h : DT X B W c m) : DTs X B W [c] m := ⟨pts_one h.run⟩
theorem wipe_wipe {σ : L2.St} {vs : List Nat} : wipe (wipe σ vs) vs = wipe σ vs := by
  have key : ∀ (ws : List Nat), (∀ i ∈ ws, i ∈ vs) → wipe (wipe σ ws) vs = wipe σ vs := by
    intro ws
    induction ws with
    | nil => intro _; rfl
    | cons w ws ih =>
      intro h
      show wipe ((wipe σ ws).set w none) vs = _
      rw [wipe_set (h w List.mem_cons_self)]
      exact ih fun i hi => h i (List.mem_cons_of_mem _ hi)
  exact key vs fun _ h => h
theorem hold_nobor {d : D} (h : nobor d = true) : nobor (hold d) = true := by cases d <;> first | rfl | exact h
section
variable {X : Cx} {B : Bs} {W : WX}
theorem szl_line' {n m : Nat} (h : n < m) (z : szl m) : n < sizeLine := by rw [sizeLine_eq]; exact Nat.lt_of_lt_of_le h z
theorem rd_lc {J : It} {g : TG} {tg : DTg} {is : List Nat} {tt : DEnv → Mu → Res Bool} {el : DEx} {vs : List Nat} {ρ1 : List Addr} {G1 H1 : Hp} {σ : L2.St} {env : DEnv} {μ1 μf : Mu} {ds l : List D} {Q : VK} {T : Tx}
    (gd : GD T.K T.mg g tg is) (his : ∀ i ∈ is, i ∈ vs) (no : noOwn env vs = true) (R1 : RD T B ρ1 G1 H1 σ env μ1) (wk : WalkD T J ρ1 G1 ds) (hr : lcRun tg tt el (wipeD env vs) ds μ1 = some (l, μf))
    (fin : ∀ ρ' G' H' v, Same G1 G' → Pre ρ1 ρ' → RD T B ρ' G' H' σ env μf → RepX T B ρ' G' H' σ env v (.new l) → Q v H') (D : Addr) (hD : H1 D = none) :
    ∃ W : Nat → Nat → Hp → Prop, (∃ m, W 0 m (upd H1 D (.lst []))) ∧ ∀ i m H, W i m H →
      (J.stop i H ∧ Q (.ref D) H) ∨ (J.go i H ∧ ∃ Nx : Hp → Prop, (∀ H', Nx H' → ∃ m', m' < m ∧ W (i + 1) m' H') ∧ ∀ x H', J.yld i H x H' → g x (wipe σ vs) H' fun σ2 H2 => wipe σ2 vs = wipe σ vs ∧ (fun σ H Q => ∃ B', rdT T B' W0 tt σ H Q) σ2 H2 fun b H3 =>
        if b = true then (fun σ H Q => ∃ B', rdE T B' W0 el σ H Q) σ2 H3 fun y H4 => ∃ acc, H4 D = some (.lst acc) ∧ acc.length < sizeLine ∧ Nx (upd H4 D (.lst (acc ++ [y]))) else Nx H3) := by
  obtain ⟨gD, pD, bD⟩ := R1.fresh_ hD
  refine ⟨fun i m H' => ∃ ρ' G' μ' us acc rest, m = ds.length - i ∧ i ≤ ds.length ∧ Same G1 G' ∧ Pre ρ1 ρ' ∧ RD T (B.add D us) ρ' G' H' σ env μ' ∧ Reps T ρ' G' us acc ∧ acc.length ≤ i ∧ lcRun tg tt el (wipeD env vs) (ds.drop i) μ' = some (rest, μf) ∧ acc ++ rest = l, ⟨ds.length, ρ1, G1, μ1, [], [], l, by omega, Nat.zero_le _, fun _ _ h => h, .refl _, ?_, .nil, Nat.le_refl _, hr, rfl⟩, ?_⟩
  · refine (R1.allocN hD).addX upd_same gD pD bD (fun i l' e1 e2 => ?_) fun q hq e => ?_
    · obtain ⟨q, us, e3, e4, _⟩ := R1.slot i _ e1
      rw [e2] at e3; cases e3
      rw [hD] at e4; cases e4
    · have e1 := (R1.xo q hq).1
      rw [e, hD] at e1; cases e1
  · rintro i m H' ⟨ρ', G', μ', us, acc, rest, rfl, hi, s, p, R, ra, la, hrun, hl⟩
    by_cases hlt : i < ds.length
    · have hd : ds[i]? = some ds[i] := by simp [hlt]
      obtain ⟨jg, jy⟩ := wk.go i _ hd ρ' G' H' s p R.gh
      refine .inr ⟨jg, fun H'' => ∃ ρ2 G2 μ2 us2 acc2 rest2, Same G1 G2 ∧ Pre ρ1 ρ2 ∧ RD T (B.add D us2) ρ2 G2 H'' σ env μ2 ∧ Reps T ρ2 G2 us2 acc2 ∧ acc2.length ≤ i + 1 ∧ lcRun tg tt el (wipeD env vs) (ds.drop (i + 1)) μ2 = some (rest2, μf) ∧ acc2 ++ rest2 = l,
        fun H'' ⟨ρ2, G2, μ2, us2, acc2, rest2, h1, h2, h3, h4, h5, h6, h7⟩ => ⟨ds.length - (i + 1), by omega, ρ2, G2, μ2, us2, acc2, rest2, rfl, hlt, h1, h2, h3, h4, h5, h6, h7⟩, fun x H'' hy => ?_⟩
      -- the item, in a heap where it is frozen
      have item : ∃ G2, Same G' G2 ∧ RD T (B.add D us) ρ' G2 H'' σ env μ' ∧ Rep T ρ' G2 x ds[i] := by
        rcases jy x H'' hy with ⟨e, r⟩ | ⟨q, ws, l', hn, e, ex, ed, r, z⟩
        · exact ⟨G', fun _ _ h => h, by rw [e]; exact R, r⟩
        · have gn := (R.fresh_ hn).1
          exact ⟨_, same_upd gn, by rw [e]; exact R.alloc hn, by rw [ex, ed]; exact rep_tup (.inl upd_same) z (r.mono (same_upd gn) (.refl _))⟩
      obtain ⟨G2, s2, R2, rx⟩ := item
      rw [List.drop_eq_getElem_cons hlt] at hrun
      unfold lcRun at hrun
      split at hrun
      · cases hrun
      · rename_i env1 he1
        have hout := gd.out _ _ _ he1
        refine gd.ok (B.add D us) ρ' G2 H'' (wipe σ vs) (wipeD env vs) μ' x _ env1 _ (R2.wipe vs) rx he1 fun σ2 R3 hw ho => ⟨by rw [hw vs his]; exact wipe_wipe, ?_⟩
        have agE : ∀ j, j ∉ vs → env1[j]? = env[j]? := fun j hj => by rw [hout j fun m => hj (his j m), wipeD_out hj]
        have agS : ∀ j, j ∉ vs → σ2[j]? = σ[j]? := fun j hj => by rw [ho j fun m => hj (his j m), wipe_out hj]
        split at hrun
        · rename_i μ2 ht
          refine ⟨B.add D us, ρ', G2, env1, μ', R3, ?_⟩
          rw [ht]
          intro ρ3 G3 H3 s3 p3 R4
          show (if true = true then _ else _)
          rw [if_pos rfl]
          split at hrun
          · rename_i d' μ3 he
            split at hrun
            · rename_i hb
              split at hrun
              · rename_i l3 μ4 hrest
                cases hrun
                refine ⟨B.add D us, ρ3, G3, env1, μ2, R4, ?_⟩
                rw [he]
                intro ρ4 G4 H4 s4 p4 R5 y hy2
                obtain ⟨G5, s5, R6, hh⟩ := hy2.hold R5
                have ry := hh.rep (hold_nobor hb)
                have S : Same G' G5 := ((s2.trans s3).trans s4).trans s5
                have P : Pre ρ' ρ4 := p3.trans p4
                have R7 : RD T (B.add D us) ρ4 G5 H4 σ env μ3 := R.back R6 S P no agE agS
                have hD4 := R7.delX.2.1
                have hul : us.length = acc.length := ra.length
                refine ⟨us, hD4, szl_line' (by omega : us.length < ds.length) wk.sz, ρ4, G5, μ3, us ++ [y], acc ++ [Dv.hold d'], l3, s.trans S, p.trans P, R7.updX, (ra.mono S P).append (.one ry), by simp; omega, hrest, by rw [← hl]; simp⟩
              · cases hrun
            · cases hrun
          · cases hrun
        · rename_i μ2 ht
          refine ⟨B.add D us, ρ', G2, env1, μ', R3, ?_⟩
          rw [ht]
          intro ρ3 G3 H3 s3 p3 R4
          show (if false = true then _ else _)
          rw [if_neg (by decide)]
          have S : Same G' G3 := s2.trans s3
          exact ⟨ρ3, G3, μ2, us, acc, rest, s.trans S, p.trans p3, R.back R4 S p3 no agE agS, ra.mono S p3, by omega, hrun, hl⟩
        · cases hrun
    · have e : i = ds.length := by omega
      subst e
      rw [List.drop_length] at hrun
      unfold lcRun at hrun
      cases hrun
      refine .inl ⟨wk.stop ρ' G' H' s p R.gh, ?_⟩
      obtain ⟨R0, h1, h2, h3, h4, h5, h6⟩ := R.delX
      rw [List.append_nil] at hl
      subst hl
      exact fin ρ' G' H' (.ref D) s p R0 ⟨D, us, rfl, h1, ra, Nat.le_trans la wk.sz, h2, h3, h4, h5, h6⟩
end
end Dv

/-! DvG: comprehensions as expressions, calls of built-ins, subscripts, slices, isinstance. -/
namespace Dv
open PySem PySem.Spec PyProof.Rows L2
section
variable {X : Cx} {B : Bs} {W : WX}
/-- the element's and the tests' readings in a block, whatever list is at hand there -/
def exE (T : Tx) (el : DEx) : TE := fun σ H Q => ∃ B', rdE T B' W0 el σ H Q
def exT (T : Tx) (tt : DEnv → Mu → Res Bool) : TT := fun σ H Q => ∃ B', rdT T B' W0 tt σ H Q
theorem pe_ex {Y : Cx} {e : Expr} {el : DEx} (h : ∀ B, DE Y B W0 e el) : PE Y e (exE (tx Y) el) := ⟨fun pins s σ H Q I ⟨B', q⟩ => (h B').run.run pins s σ H Q I q⟩
theorem pt_ex {Y : Cx} {ifs : List Expr} {tt : DEnv → Mu → Res Bool} (h : ∀ B, DTs Y B W0 ifs tt) : PTs Y ifs (exT (tx Y) tt) := ⟨fun pins s σ H Q I ⟨B', q⟩ => (h B').run.run pins s σ H Q I q⟩
theorem rd_tLc {T : Tx} {it : DEnv → Mu → Res (List D)} {g : TG} {tg : DTg} {is : List Nat} {tt : DEnv → Mu → Res Bool} {el : DEx} {vs : List Nat} (gd : GD T.K T.mg g tg is) (his : ∀ i ∈ is, i ∈ vs) {σ : L2.St} {H : Hp} {Q : VK}
    (h : rdE T B W (dLc it vs tg tt el) σ H Q) : tLc (rdI T B W it) g (exT T tt) (exE T el) vs σ H Q := by
  obtain ⟨ρ, G, env, μ, R, k⟩ := h
  unfold dLc at k
  split at k
  · rename_i no
    refine ⟨ρ, G, env, μ, R, (KE.bind (f := lcFin tg tt el (wipeD env vs)) k).imp fun ρ1 G1 H1 μ1 ds s p R1 k1 J wk => ?_⟩
    unfold lcFin at k1
    split at k1
    · rename_i l μ2 hr
      exact rd_lc gd his no R1 wk hr fun ρ' G' H' v s' p' R' hv => k1 ρ' G' H' s' p' R' v hv
    · exact k1.elim
  · exact k.elim
theorem de_lc {elt tg iter : Expr} {ifs : List Expr} {scope : Scope} {own : List (Str × Nat)} {pos : Pos} {it : DEnv → Mu → Res (List D)} {g : TG} {t : DTg} {is : List Nat} {tt : DEnv → Mu → Res Bool} {el : DEx}
    (hc : X.calm = true) (hN : X.N.Nodup) (hi : DI X B W tg iter it) (ok : BlkOk X.N X.env.scope scope own) (gd : GD X.K X.mg g t is) (his : ∀ i ∈ is, i ∈ own.map (·.2))
    (hg : ∀ (s : Shared) (H : Hp) (C : Addr) (cl : List (Str × Addr)) (fp : List Addr), PG (X.blk s H scope (compEnvC scope cl C X.env) fp) tg g)
    (ht : ∀ (s : Shared) (H : Hp) (C : Addr) (cl : List (Str × Addr)) (fp : List Addr) (B : Bs), DTs (X.blk s H scope (compEnvC scope cl C X.env) fp) B W0 ifs tt)
    (he : ∀ (s : Shared) (H : Hp) (C : Addr) (cl : List (Str × Addr)) (fp : List Addr) (B : Bs), DE (X.blk s H scope (compEnvC scope cl C X.env) fp) B W0 elt el) (hs : ∀ x, foldedSetIterable iter X.env x = pure x := by intro _; rfl) :
    DE X B W (.ListComp elt [⟨tg, iter, ifs, 0⟩] scope pos) (dLc it (own.map (·.2)) t tt el) :=
  ⟨peImp (pe_lc (te := exE (tx X) el) (tt := exT (tx X) tt) hc hN hi.run ok hg (fun s H C cl fp => pt_ex (ht s H C cl fp)) (fun s H C cl fp => pe_ex (he s H C cl fp)) hs) fun _ _ _ h => rd_tLc gd his h⟩
/-! ### calls of what is built in -/
abbrev FA := List D → Mu → Res D
def CallD (T : Tx) (r : List V → Hp → VK → Prop) (f : FA) : Prop := ∀ (B : Bs) (W : WX) (σ : L2.St) (env : DEnv) (ρ : List Addr) (G H : Hp) (μ : Mu) (vs : List V) (ds : List D) (Q : VK),
  RD T B ρ G H σ env μ → HReps T ρ G σ env vs ds → KE T B σ env W (PX T B σ env Q) ρ G (f ds μ) → r vs H Q
def dCall (f : FA) (n : DEnv → Mu → Res (List D)) : DEx := fun env μ => bindR (n env μ) f
theorem rd_call {T : Tx} {r : List V → Hp → VK → Prop} {f : FA} {n : DEnv → Mu → Res (List D)} (hf : CallD T r f) {σ : L2.St} {H : Hp} {Q : VK} (h : rdE T B W (dCall f n) σ H Q) : tCB r (rdA T B W n) σ H Q := by
  obtain ⟨ρ, G, env, μ, R, k⟩ := h
  exact ⟨ρ, G, env, μ, R, (KE.bind (f := f) k).imp fun ρ1 G1 H1 μ1 ds s p R1 k1 vs hvs => hf B W σ env ρ1 G1 H1 μ1 vs ds Q R1 hvs k1⟩
theorem de_callB {x : Str} {p pos : Pos} {e : Expr} {es : List Expr} {n : DEnv → Mu → Res (List D)} {id : String} {r : List V → Hp → VK → Prop} {f : FA} (hc : CallR X (.builtin id) r) (hf : CallD (tx X) r f) (hg : Gl X x) (hm : X.mg x = none) (hv : bootBuiltins x = some (.builtin id)) (ha : DA X B W (e :: es) n)
    (hn : x ≠ "__name__" := by decide) (hdb : (x == ("__debug__" : Str)) = false := by decide) (he : starEach (e :: es) X.env = (false, eval e X.env) :: starEach es X.env := by rfl) (hpl : (backTo pos (starEach es X.env)).any (·.1) = false := by rfl) :
    DE X B W (.Call (.Name x p) (e :: es) [] pos) (dCall f n) := ⟨peImp (pe_callB hc hg hm hv ha.run hn hdb he hpl) fun _ _ _ h => rd_call hf h⟩
theorem de_callTy {x : Str} {p pos : Pos} {e : Expr} {es : List Expr} {n : DEnv → Mu → Res (List D)} {id : String} {r : List V → Hp → VK → Prop} {f : FA} (hc : CallR X (.type id) r) (hf : CallD (tx X) r f) (hg : Gl X x) (hm : X.mg x = none) (hv : bootBuiltins x = some (.type id)) (ha : DA X B W (e :: es) n)
    (hn : x ≠ "__name__" := by decide) (hdb : (x == ("__debug__" : Str)) = false := by decide) (he : starEach (e :: es) X.env = (false, eval e X.env) :: starEach es X.env := by rfl) (hpl : (backTo pos (starEach es X.env)).any (·.1) = false := by rfl) :
    DE X B W (.Call (.Name x p) (e :: es) [] pos) (dCall f n) := ⟨peImp (pe_callTy hc hg hm hv ha.run hn hdb he hpl) fun _ _ _ h => rd_call hf h⟩
/-! ### len, tuple, list, sum, any, all, int -/
section
variable {T : Tx} {ρ : List Addr} {G H : Hp} {σ : L2.St} {env : DEnv} {μ : Mu}
def fLen : FA
  | [.tup l], μ => ret (.int l.length) μ
  | [.lst l], μ => ret (.int l.length) μ
  | [.bor l], μ => ret (.int l.length) μ
  | [.str z], μ => if szl z.length then ret (.int z.length) μ else none
  | _, _ => none
theorem ca_len : CallD (tx X) (fun xs H Q => ∃ x n, xs = [x] ∧ LenV X.K x H n ∧ Q (.int n) H) fLen := by
  intro B W σ env ρ G H μ vs ds Q R h k
  have one : ∀ {d : D} {l : List D}, seqL d = some l → HReps (tx X) ρ G σ env vs [d] → KE (tx X) B σ env W (PX (tx X) B σ env Q) ρ G (ret (.int l.length) μ) → ∃ x n, vs = [x] ∧ LenV X.K x H n ∧ Q (.int n) H := fun {d l} e h k => by
    obtain ⟨v, rfl, hv⟩ := hreps1 h
    obtain ⟨a, us, rfl, q, z, r⟩ := seqL_inv R hv e
    exact ⟨.ref a, l.length, rfl, .inl ⟨us, .of q, r.length.symm⟩, k.here R (.ofR rep_int)⟩
  unfold fLen at k
  split at k
  · obtain ⟨v, rfl, hv⟩ := hreps1 h
    obtain ⟨a, us, rfl, q, z, r⟩ := tup_inv hv
    exact ⟨.ref a, _, rfl, .inr ⟨us, (sqG_mono R.gh q).sq, r.length.symm⟩, k.here R (.ofR rep_int)⟩
  · exact one rfl h k
  · exact one rfl h k
  · split at k
    · rename_i hz
      obtain ⟨v, rfl, hv⟩ := hreps1 h
      rw [str_inv hv]
      exact ⟨_, _, rfl, ⟨szl_line hz, rfl⟩, k.here R (.ofR rep_int)⟩
    · exact k.elim
  · exact k.elim
def fTuple : FA
  | [.tup l], μ => ret (.tup l) μ
  | [.lst l], μ => ret (.tup l) μ
  | [.bor l], μ => ret (.tup l) μ
  | _, _ => none
theorem ca_tuple : CallD (tx X) (fun xs H Q => ∃ p ys, xs = [.ref p] ∧ ((SqL X.K H p ys ∧ ∀ l, H l = none → Q (.ref l) (upd H l (.tup ys))) ∨ (SqT X.K H p ys ∧ Q (.ref p) H))) fTuple := by
  intro B W σ env ρ G H μ vs ds Q R h k
  have one : ∀ {d : D} {l : List D}, seqL d = some l → HReps (tx X) ρ G σ env vs [d] → KE (tx X) B σ env W (PX (tx X) B σ env Q) ρ G (ret (.tup l) μ) → ∃ p ys, vs = [.ref p] ∧ ((SqL X.K H p ys ∧ ∀ l, H l = none → Q (.ref l) (upd H l (.tup ys))) ∨ (SqT X.K H p ys ∧ Q (.ref p) H)) := fun {d l} e h k => by
    obtain ⟨v, rfl, hv⟩ := hreps1 h
    obtain ⟨a, us, rfl, q, z, r⟩ := seqL_inv R hv e
    exact ⟨a, us, rfl, .inl ⟨.of q, k.newT R r z⟩⟩
  unfold fTuple at k
  split at k
  · obtain ⟨v, rfl, hv⟩ := hreps1 h
    obtain ⟨a, us, rfl, q, z, r⟩ := tup_inv hv
    exact ⟨a, us, rfl, .inr ⟨(sqG_mono R.gh q).sq, k.here R (.ofR (rep_tup q z r))⟩⟩
  · exact one rfl h k
  · exact one rfl h k
  · exact k.elim
def fList : FA
  | [.tup l], μ => ret (.new l) μ
  | [.lst l], μ => ret (.new l) μ
  | [.bor l], μ => ret (.new l) μ
  | _, _ => none
theorem ca_list : CallD (tx X) (fun xs H Q => ∃ p ys, xs = [.ref p] ∧ (SqL X.K H p ys ∨ SqT X.K H p ys) ∧ ∀ l, H l = none → Q (.ref l) (upd H l (.lst ys))) fList := by
  intro B W σ env ρ G H μ vs ds Q R h k
  have one : ∀ {d : D} {l : List D}, seqL d = some l → HReps (tx X) ρ G σ env vs [d] → KE (tx X) B σ env W (PX (tx X) B σ env Q) ρ G (ret (.new l) μ) → ∃ p ys, vs = [.ref p] ∧ (SqL X.K H p ys ∨ SqT X.K H p ys) ∧ ∀ l, H l = none → Q (.ref l) (upd H l (.lst ys)) := fun {d l} e h k => by
    obtain ⟨v, rfl, hv⟩ := hreps1 h
    obtain ⟨a, us, rfl, q, z, r⟩ := seqL_inv R hv e
    exact ⟨a, us, rfl, .inl (.of q), k.newL R r z⟩
  unfold fList at k
  split at k
  · obtain ⟨v, rfl, hv⟩ := hreps1 h
    obtain ⟨a, us, rfl, q, z, r⟩ := tup_inv hv
    exact ⟨a, us, rfl, .inr (sqG_mono R.gh q).sq, k.newL R r z⟩
  · exact one rfl h k
  · exact one rfl h k
  · exact k.elim
def asInt : D → Option Int
  | .int i => some i
  | _ => none
def asBl : D → Option Bool
  | .bl i => some i
  | _ => none
def asInts : List D → Option (List Int)
  | [] => some []
  | d :: ds => (match asInt d, asInts ds with
    | some i, some l => some (i :: l)
    | _, _ => none)
def asBls : List D → Option (List Bool)
  | [] => some []
  | d :: ds => (match asBl d, asBls ds with
    | some i, some l => some (i :: l)
    | _, _ => none)
theorem asInts_inv : ∀ {l : List D} {ns : List Int} {vs : List V}, asInts l = some ns → Reps T ρ G vs l → vs = ns.map V.int
  | [], ns, vs, e, r => by unfold asInts at e; cases e; rw [r.inv0]; rfl
  | d :: ds, ns, vs, e, r => by
    unfold asInts at e
    split at e
    · rename_i i l e1 e2
      cases e
      obtain ⟨v, t, rfl, q, rs⟩ := r.inv
      cases d with
      | int j =>
        cases e1
        unfold Rep at q
        rw [q, asInts_inv e2 rs]; rfl
      | _ => cases e1
    · cases e
theorem asBls_inv : ∀ {l : List D} {ns : List Bool} {vs : List V}, asBls l = some ns → Reps T ρ G vs l → vs = ns.map V.bl
  | [], ns, vs, e, r => by unfold asBls at e; cases e; rw [r.inv0]; rfl
  | d :: ds, ns, vs, e, r => by
    unfold asBls at e
    split at e
    · rename_i i l e1 e2
      cases e
      obtain ⟨v, t, rfl, q, rs⟩ := r.inv
      cases d with
      | bl j =>
        cases e1
        unfold Rep at q
        rw [q, asBls_inv e2 rs]; rfl
      | _ => cases e1
    · cases e
def fSum : FA
  | [d], μ => (match seqL d with
    | some l => (match asInts l with
      | some ns => ret (.int ns.sum) μ
      | none => none)
    | none => none)
  | _, _ => none
def fAll : FA
  | [d], μ => (match seqL d with
    | some l => (match asBls l with
      | some ns => ret (.bl (ns.all id)) μ
      | none => none)
    | none => none)
  | _, _ => none
def fAny : FA
  | [d], μ => (match seqL d with
    | some l => (match asBls l with
      | some ns => ret (.bl (ns.any id)) μ
      | none => none)
    | none => none)
  | _, _ => none
theorem ca_sum : CallD (tx X) (rSum X.K) fSum := by
  intro B W σ env ρ G H μ vs ds Q R h k
  unfold fSum at k
  split at k
  · split at k
    · split at k
      · rename_i e1 _ ns e2
        obtain ⟨v, rfl, hv⟩ := hreps1 h
        obtain ⟨a, us, rfl, q, z, r⟩ := seqL_inv R hv e1
        exact ⟨a, ns, rfl, by rw [← asInts_inv e2 r]; exact .of q, k.here R (.ofR rep_int)⟩
      · exact k.elim
    · exact k.elim
  · exact k.elim
theorem ca_all : CallD (tx X) (rAll X.K) fAll := by
  intro B W σ env ρ G H μ vs ds Q R h k
  unfold fAll at k
  split at k
  · split at k
    · split at k
      · rename_i e1 _ ns e2
        obtain ⟨v, rfl, hv⟩ := hreps1 h
        obtain ⟨a, us, rfl, q, z, r⟩ := seqL_inv R hv e1
        exact ⟨a, ns, rfl, by rw [← asBls_inv e2 r]; exact .of q, k.here R (.ofR rep_bl)⟩
      · exact k.elim
    · exact k.elim
  · exact k.elim
theorem ca_any : CallD (tx X) (rAny X.K) fAny := by
  intro B W σ env ρ G H μ vs ds Q R h k
  unfold fAny at k
  split at k
  · split at k
    · split at k
      · rename_i e1 _ ns e2
        obtain ⟨v, rfl, hv⟩ := hreps1 h
        obtain ⟨a, us, rfl, q, z, r⟩ := seqL_inv R hv e1
        exact ⟨a, ns, rfl, by rw [← asBls_inv e2 r]; exact .of q, k.here R (.ofR rep_bl)⟩
      · exact k.elim
    · exact k.elim
  · exact k.elim
def fInt : FA
  | [.int i], μ => ret (.int i) μ
  | [.bl b], μ => ret (.int (if b then 1 else 0)) μ
  | _, _ => none
theorem ca_int : CallD (tx X) (fun xs H Q => (∃ i, xs = [.int i] ∧ Q (.int i) H) ∨ ∃ k, xs = [.bl k] ∧ Q (.int (if k then 1 else 0)) H) fInt := by
  intro B W σ env ρ G H μ vs ds Q R h k
  unfold fInt at k
  split at k
  · obtain ⟨v, rfl, hv⟩ := hreps1 h
    exact .inl ⟨_, by rw [int_inv hv], k.here R (.ofR rep_int)⟩
  · obtain ⟨v, rfl, hv⟩ := hreps1 h
    exact .inr ⟨_, by rw [bl_inv hv], k.here R (.ofR rep_int)⟩
  · exact k.elim
/-! ### isinstance, built-in types -/
def tyN : D → Option String
  | .non => some "NoneType"
  | .bl _ => some "bool"
  | .int _ => some "int"
  | .str _ => some "str"
  | .tup _ => some "tuple"
  | .lst _ => some "list"
  | .bor _ => some "list"
  | _ => none
def isTy (a b : String) : Bool := a == b || (a == "bool" && b == "int")
def okTy (b : String) : Bool := ["int", "bool", "str", "tuple", "list"].contains b
theorem kitB_is : ∀ a ∈ ["NoneType", "bool", "int", "str", "tuple", "list"], ∀ b ∈ ["int", "bool", "str", "tuple", "list"], kitB a b = some (isTy a b) := by decide +kernel
theorem tyN_mem {d : D} {a : String} (h : tyN d = some a) : a ∈ ["NoneType", "bool", "int", "str", "tuple", "list"] := by
  cases d <;> first | (cases h; simp) | cases h
theorem kit_is {K : PySem.W.Frag} {d : D} {a b : String} (h : tyN d = some a) (hb : okTy b = true) : PySem.W.kitOne K (.type a) (.type b) = some (isTy a b) :=
  kit_ty (kitB_is a (tyN_mem h) b (by unfold okTy at hb; simpa using hb))
theorem tyX_of {B : Bs} {x : V} {d : D} {a : String} (R : RD T B ρ G H σ env μ) (h : HeldR T ρ G σ env x d) (e : tyN d = some a) : TyX T.K H x (.type a) := by
  cases d with
  | non => cases e; have h : Rep T ρ G x .non := h; unfold Rep at h; subst h; exact .base .non
  | bl b => cases e; rw [bl_inv h]; exact .base (.bl b)
  | int b => cases e; rw [int_inv h]; exact .base (.int b)
  | str b => cases e; rw [str_inv h]; exact .base (.str b)
  | tup l =>
    cases e
    obtain ⟨a, us, rfl, q, _⟩ := tup_inv h
    rcases q with q | ⟨o, its, n, h1, h2, _⟩
    · exact .base (.tup (R.gh _ _ q))
    · exact .kTuple h1 h2
  | lst l =>
    cases e
    obtain ⟨a, us, rfl, q, _⟩ := lst_inv h
    exact .base (.lst (R.gh _ _ q))
  | bor l =>
    cases e
    obtain ⟨a, us, rfl, q, _⟩ := seqL_inv (d := .bor l) R h rfl
    exact .base (.lst q)
  | _ => cases e
def asTys : List D → Option (List String)
  | [] => some []
  | .ty n :: ds => (match asTys ds with
    | some l => if okTy n then some (n :: l) else none
    | none => none)
  | _ :: _ => none
def fIsi : FA
  | [d, .ty b], μ => (match tyN d with
    | some a => if okTy b then ret (.bl (isTy a b)) μ else none
    | none => none)
  | [d, .tup l], μ => (match tyN d, asTys l with
    | some a, some bs => ret (.bl (bs.any (isTy a))) μ
    | _, _ => none)
  | _, _ => none
theorem asTys_inv {a : String} {d : D} (ha : tyN d = some a) : ∀ {l : List D} {bs : List String} {vs : List V}, asTys l = some bs → Reps T ρ G vs l → Paired ClsV vs (bs.map Value.type) ∧ PySem.W.kitAny T.K (.type a) (bs.map Value.type) = some (bs.any (isTy a))
  | [], bs, vs, e, r => by unfold asTys at e; cases e; rw [r.inv0]; exact ⟨.nil, kitAny_nil⟩
  | d' :: ds, bs, vs, e, r => by
    unfold asTys at e
    split at e
    · rename_i z; cases z
    · rename_i n ds' heq
      cases heq
      split at e
      · rename_i l e2
        split at e
        · rename_i hok
          cases e
          obtain ⟨v, t, rfl, q, rs⟩ := r.inv
          unfold Rep at q
          obtain ⟨p1, p2⟩ := asTys_inv ha e2 rs
          refine ⟨.cons (by rw [q]; exact .ty n) p1, ?_⟩
          refine kitAny_cons (kit_is ha hok) (fun z => ?_) fun z => ?_
          · rw [List.any_cons, z, Bool.false_or]; exact p2
          · rw [List.any_cons, z, Bool.true_or]
        · cases e
      · cases e
    · cases e
theorem ca_isi : CallD (tx X) (fun xs H Q => rIsi X.K xs H Q ∨ rIsiT X.K xs H Q ∨ rIsiK X.K xs H Q) fIsi := by
  intro B W σ env ρ G H μ vs ds Q R h k
  unfold fIsi at k
  split at k
  · split at k
    · rename_i d b _ a ha
      split at k
      · rename_i hok
        obtain ⟨v, u, rfl, hv, hu⟩ := hreps2 h
        have hu : Rep (tx X) ρ G u (.ty b) := hu
        unfold Rep at hu
        exact .inl ⟨v, u, _, _, _, rfl, by rw [hu]; exact .ty b, tyX_of R hv ha, kit_is ha hok, k.here R (.ofR rep_bl)⟩
      · exact k.elim
    · exact k.elim
  · split at k
    · rename_i d l _ _ a bs ha hb
      obtain ⟨v, u, rfl, hv, hu⟩ := hreps2 h
      obtain ⟨t, cs, rfl, q, z, r⟩ := tup_inv hu
      obtain ⟨p1, p2⟩ := asTys_inv ha hb r
      rcases q with q | ⟨o, its, n, h1, h2, h3, _, h5⟩
      · exact .inr (.inl ⟨v, t, cs, _, _, _, rfl, R.gh _ _ q, p1, tyX_of R hv ha, p2, k.here R (.ofR rep_bl)⟩)
      · obtain ⟨oc, od, dt, sl⟩ := o
        simp only at h2 h3
        subst h2 h3
        have e := ClsV.all p1 h5
        exact .inr (.inr ⟨v, t, od, bs.map Value.type, n, sl, _, _, rfl, by rw [h1, ← e], tyX_of R hv ha, p2, k.here R (.ofR rep_bl)⟩)
    · exact k.elim
  · exact k.elim
end
end
end Dv

/-! DvH: subscripts, slices; statements; defs and their calls. -/
namespace Dv
open PySem PySem.Spec PyProof.Rows L2
section
variable {X : Cx} {B : Bs} {W : WX}
/-! ### subscripts -/
theorem atI_reps {T : Tx} {ρ : List Addr} {G : Hp} {l : List D} {vs : List V} {i : Int} {d : D} (r : Reps T ρ G vs l) (h : atI l i = some d) : ∃ v, atI vs i = some v ∧ Rep T ρ G v d := by
  unfold atI at h ⊢
  rw [r.length]
  cases e : ixN l.length i with
  | none => rw [e] at h; cases h
  | some j =>
    rw [e] at h
    exact r.get (show l[j]? = some d from h)
def fIx : F2
  | .tup l, .int i, μ => (match atI l i with
    | some d => ret d μ
    | none => none)
  | .lst l, .int i, μ => (match atI l i with
    | some d => ret d μ
    | none => none)
  | .bor l, .int i, μ => (match atI l i with
    | some d => ret d μ
    | none => none)
  | .str z, .int i, μ => (match atI z.cps.toList i with
    | some c => if szl z.length then ret (.str ⟨#[c]⟩) μ else none
    | none => none)
  | _, _, _ => none
theorem opd_ix : OpD (tx X) (rIx X.K) fIx := by
  intro B W σ env ρ G H μ x y d d' Q R hx hy k
  have one : ∀ {l : List D} {i : Int} {d' : D}, seqL d = some l → HeldR (tx X) ρ G σ env y (.int i) → atI l i = some d' → KE (tx X) B σ env W (PX (tx X) B σ env Q) ρ G (ret d' μ) → rIx X.K x y H Q := fun {l i d'} e hy ha k => by
    obtain ⟨a, us, rfl, q, z, r⟩ := seqL_inv R hx e
    obtain ⟨v, e1, r1⟩ := atI_reps r ha
    exact .inl ⟨a, us, i, v, rfl, int_inv hy, .of q, e1, k.here R (.ofR r1)⟩
  unfold fIx at k
  split at k
  · split at k
    · rename_i ha
      obtain ⟨a, us, rfl, q, z, r⟩ := tup_inv hx
      obtain ⟨v, e1, r1⟩ := atI_reps r ha
      exact .inr (.inl ⟨a, us, _, v, rfl, int_inv hy, (sqG_mono R.gh q).sq, e1, k.here R (.ofR r1)⟩)
    · exact k.elim
  · split at k
    · rename_i ha
      exact one rfl hy ha k
    · exact k.elim
  · split at k
    · rename_i ha
      exact one rfl hy ha k
    · exact k.elim
  · split at k
    · rename_i ha
      split at k
      · rename_i hz
        exact .inr (.inr ⟨_, _, _, str_inv hx, int_inv hy, szl_line hz, ha, k.here R (.ofR rep_str)⟩)
      · exact k.elim
    · exact k.elim
  · exact k.elim
/-! ### slices -/
def cutD {α : Type} (l : List α) (lo hi : Option Int) : List α := (l.drop (HT.sIx l.length 0 lo)).take (HT.sIx l.length l.length hi - HT.sIx l.length 0 lo)
theorem cut_reps {T : Tx} {ρ : List Addr} {G : Hp} {l : List D} {vs : List V} {lo hi : Option Int} (r : Reps T ρ G vs l) : Reps T ρ G (cutV vs lo hi) (cutD l lo hi) := by
  unfold cutV cutD
  rw [r.length]
  exact (r.drop _).take _
theorem cut_len {α : Type} (l : List α) (lo hi : Option Int) : (cutD l lo hi).length ≤ l.length := by
  unfold cutD
  rw [List.length_take, List.length_drop]; omega
theorem slOr {r r' : V → Option Int → Option Int → Hp → VK → Prop} (h : L2.SlR X r) (h' : L2.SlR X r') : L2.SlR X (fun x lo hi H Q => r x lo hi H Q ∨ r' x lo hi H Q) :=
  fun pins s σ H x v vl vu lo hi sl Q I rx hs pl pu q => q.elim (h pins s σ H x v vl vu lo hi sl Q I rx hs pl pu) (h' pins s σ H x v vl vu lo hi sl Q I rx hs pl pu)
def rSl2 (K : PySem.W.Frag) : V → Option Int → Option Int → Hp → VK → Prop := fun x lo hi H Q => rSlL K x lo hi H Q ∨ rSlA K x lo hi H Q
theorem sl_two : L2.SlR X (rSl2 X.K) := slOr sl_list sl_tupA
def rdO (T : Tx) (B : Bs) (W : WX) (m : DEnv → Mu → Res (Option Int)) : TO := fun σ H Q => ∃ ρ G env μ, RD T B ρ G H σ env μ ∧ KE T B σ env W (fun _ _ H' _ o => Q o H') ρ G (m env μ)
structure DO (X : Cx) (B : Bs) (W : WX) (e : Option Expr) (m : DEnv → Mu → Res (Option Int)) : Prop where
  run : PO X e (rdO (tx X) B W m)
theorem poImp {e : Option Expr} {t t' : TO} (h : PO X e t) (i : ∀ σ H Q, t' σ H Q → t σ H Q) : PO X e t' := ⟨fun pins s σ H Q I q => h.run pins s σ H Q I (i σ H Q q)⟩
def dNoPart : DEnv → Mu → Res (Option Int) := fun _ μ => ret none μ
def fPart : D → Mu → Res (Option Int)
  | .int i, μ => ret (some i) μ
  | _, _ => none
def dPart (m : DEx) : DEnv → Mu → Res (Option Int) := fun env μ => bindR (m env μ) fPart
theorem do_none : DO X B W none dNoPart := ⟨poImp po_none fun σ H Q ⟨ρ, G, env, μ, R, k⟩ => k ρ G H (fun _ _ h => h) (.refl _) R⟩
theorem do_some {e : Expr} {m : DEx} (h : DE X B W e m) : DO X B W (some e) (dPart m) := by
  refine ⟨poImp (po_some h.run) fun σ H Q ⟨ρ, G, env, μ, R, k⟩ => rd_then (f := fPart) R k fun ρ1 G1 H1 μ1 x d s p R1 hx k1 => ?_⟩
  unfold fPart at k1
  split at k1
  · exact ⟨_, int_inv hx, k1 ρ1 G1 H1 (fun _ _ h => h) (.refl _) R1⟩
  · exact k1.elim
def fSl (d : D) (lo hi : Option Int) (μ : Mu) : Res D := match d with
  | .lst l => ret (.new (cutD l lo hi)) μ
  | .bor l => ret (.new (cutD l lo hi)) μ
  | .tup l => ret (.tup (cutD l lo hi)) μ
  | .scr l => ret (.new (cutD l lo hi)) μ
  | _ => none
def dSl (m : DEx) (lo hi : DEnv → Mu → Res (Option Int)) : DEx := fun env μ => bindR (m env μ) fun d μ => bindR (lo env μ) fun l μ => bindR (hi env μ) fun h μ => fSl (hold d) l h μ
theorem de_slice {e : Expr} {lo hi : Option Expr} {pos p2 : Pos} {m : DEx} {ml mh : DEnv → Mu → Res (Option Int)} (he : DE X B W e m) (hl : DO X B W lo ml) (hh : DO X B W hi mh) : DE X B W (.Subscript e (.Slice lo hi none p2) pos) (dSl m ml mh) := by
  refine ⟨peImp (pe_slice sl_two he.run hl.run hh.run) fun σ H Q ⟨ρ, G, env, μ, R, k⟩ => ?_⟩
  refine rd_then (f := fun d μ => bindR (ml env μ) fun l μ => bindR (mh env μ) fun h μ => fSl (hold d) l h μ) R k fun ρ1 G1 H1 μ1 x d s p R1 hx k1 => ?_
  refine ⟨ρ1, G1, env, μ1, R1, (KE.bind (f := fun l μ => bindR (mh env μ) fun h μ => fSl (hold d) l h μ) k1).imp fun ρ2 G2 H2 μ2 l s2 p2 R2 k2 => ?_⟩
  refine ⟨ρ2, G2, env, μ2, R2, (KE.bind (f := fun h μ => fSl (hold d) l h μ) k2).imp fun ρ3 G3 H3 μ3 h s3 p3 R3 k3 => ?_⟩
  have hx3 := (hx.mono s2 p2).mono s3 p3
  have one : ∀ {d : D} {l' : List D}, seqL d = some l' → HeldR (tx X) ρ3 G3 σ env x d → KE (tx X) B σ env W (PX (tx X) B σ env Q) ρ3 G3 (ret (.new (cutD l' l h)) μ3) → rSl2 X.K x l h H3 Q := fun {d l'} e hx k => by
    obtain ⟨a, us, rfl, q, z, r⟩ := seqL_inv R3 hx e
    exact .inl ⟨a, us, rfl, .of q, k.newL R3 (cut_reps r) (Nat.le_trans (cut_len _ _ _) z)⟩
  unfold fSl at k3
  split at k3
  · rename_i l' e; rw [e] at hx3; exact one rfl hx3 k3
  · rename_i l' e; rw [e] at hx3; exact one rfl hx3 k3
  · rename_i l' e
    rw [e] at hx3
    obtain ⟨a, us, rfl, q, z, r⟩ := tup_inv hx3
    have hlen := r.length
    refine .inr ⟨a, us, rfl, (sqG_mono R3.gh q).sq, fun ⟨h1, h2⟩ => ?_, fun _ => k3.newT R3 (cut_reps r) (Nat.le_trans (cut_len _ _ _) z)⟩
    have e1 : cutD l' l h = l' := by
      unfold cutD
      rw [← hlen, h1, h2]; simp [hlen]
    rw [e1] at k3
    exact k3.here R3 (.ofR (rep_tup q z r))
  · rename_i l' e
    rw [e] at hx3
    have hx3 : Rep (tx X) ρ3 G3 x (.scr l') := hx3
    unfold Rep at hx3
    obtain ⟨a, us, rfl, q, z, r⟩ := hx3
    exact .inl ⟨a, us, rfl, sqL_mono R3.gh q, k3.newL R3 (cut_reps r) (Nat.le_trans (cut_len _ _ _) z)⟩
  · exact k3.elim
end

/-! ### statements -/
inductive Fl where
  | nx | ret (d : D) | brk | ct
abbrev RS := Option (Out Fl × DEnv × Mu)
abbrev DSt := DEnv → Mu → RS
def KS (T : Tx) (B : Bs) (W : WX) (D : Ends) (ρ : List Addr) (G : Hp) : RS → Prop
  | some (.val .nx, env', μ') => ∀ σ' ρ' G' H', Same G G' → Pre ρ ρ' → RD T B ρ' G' H' σ' env' μ' → D.nx σ' H'
  | some (.val .brk, env', μ') => ∀ σ' ρ' G' H', Same G G' → Pre ρ ρ' → RD T B ρ' G' H' σ' env' μ' → D.bk σ' H'
  | some (.val .ct, env', μ') => ∀ σ' ρ' G' H', Same G G' → Pre ρ ρ' → RD T B ρ' G' H' σ' env' μ' → D.ct σ' H'
  | some (.val (.ret d), _, μ') => ∀ σ' env' ρ' G' H' v, Same G G' → Pre ρ ρ' → RD T B ρ' G' H' σ' env' μ' → RepX T B ρ' G' H' σ' env' v d → D.rt v H'
  | some (.exc x, env', μ') => ∀ σ' ρ' G' H' cls dd, Same G G' → Pre ρ ρ' → RD T B ρ' G' H' σ' env' μ' → ExR T ρ' G' H' cls dd x → W cls dd σ' H'
  | none => False
def rdS (T : Tx) (B : Bs) (W : WX) (m : DSt) : TS := fun D σ H => ∃ ρ G env μ, RD T B ρ G H σ env μ ∧ KS T B W D ρ G (m env μ)
structure DS (X : Cx) (B : Bs) (W : WX) (st : Stmt) (m : DSt) : Prop where
  run : PS X st (rdS (tx X) B W m)
structure DSs (X : Cx) (B : Bs) (W : WX) (sts : List Stmt) (m : DSt) : Prop where
  run : PSs X sts (rdS (tx X) B W m)
section
variable {X : Cx} {B : Bs} {W : WX} {T : Tx} {st : Stmt} {sts : List Stmt}
theorem psImp {t t' : TS} (h : PS X st t) (i : ∀ D σ H, t' D σ H → t D σ H) : PS X st t' := ⟨fun pins s σ H D I q => h.run pins s σ H D I (i D σ H q)⟩
theorem pssImp {t t' : TS} (h : PSs X sts t) (i : ∀ D σ H, t' D σ H → t D σ H) : PSs X sts t' := ⟨fun pins s σ H D I q => h.run pins s σ H D I (i D σ H q)⟩
theorem KS.weak {D : Ends} {ρ ρ' : List Addr} {G G' : Hp} {r : RS} (h : KS T B W D ρ G r) (s : Same G G') (p : Pre ρ ρ') : KS T B W D ρ' G' r := by
  match r, h with
  | some (.val .nx, env, μ), h => exact fun σ2 ρ2 G2 H2 s2 p2 R => h σ2 ρ2 G2 H2 (s.trans s2) (p.trans p2) R
  | some (.val .brk, env, μ), h => exact fun σ2 ρ2 G2 H2 s2 p2 R => h σ2 ρ2 G2 H2 (s.trans s2) (p.trans p2) R
  | some (.val .ct, env, μ), h => exact fun σ2 ρ2 G2 H2 s2 p2 R => h σ2 ρ2 G2 H2 (s.trans s2) (p.trans p2) R
  | some (.val (.ret d), env, μ), h => exact fun σ2 e2 ρ2 G2 H2 v s2 p2 R => h σ2 e2 ρ2 G2 H2 v (s.trans s2) (p.trans p2) R
  | some (.exc x, env, μ), h => exact fun σ2 ρ2 G2 H2 c d s2 p2 R => h σ2 ρ2 G2 H2 c d (s.trans s2) (p.trans p2) R
/-- a value, then a statement's rest -/
@[reducible] def bindS {α : Type} (env : DEnv) (r : Res α) (f : α → Mu → RS) : RS := match r with
  | some (.val a, μ) => f a μ
  | some (.exc x, μ) => some (.exc x, env, μ)
  | none => none
theorem KS.bind {α : Type} {D : Ends} {ρ : List Addr} {G : Hp} {σ : L2.St} {env : DEnv} {r : Res α} {f : α → Mu → RS} (h : KS T B W D ρ G (bindS env r f)) : KE T B σ env W (fun ρ1 G1 _ μ1 a => KS T B W D ρ1 G1 (f a μ1)) ρ G r := by
  match r, h with
  | some (.val a, μ), h => exact fun ρ2 G2 H2 s2 p2 R => KS.weak (r := f a μ) h s2 p2
  | some (.exc x, μ), h => exact fun ρ2 G2 H2 c d s2 p2 R e => h σ ρ2 G2 H2 c d s2 p2 R e
def dSkip : DSt := fun env μ => some (.val .nx, env, μ)
def dSeq (a b : DSt) : DSt := fun env μ => match a env μ with
  | some (.val .nx, env', μ') => b env' μ'
  | r => r
theorem dss_nil : DSs X B W [] dSkip := ⟨pssImp pss_nil fun D σ H ⟨ρ, G, env, μ, R, k⟩ => k σ ρ G H (fun _ _ h => h) (.refl _) R⟩
theorem dss_cons {a b : DSt} (h : DS X B W st a) (g : DSs X B W sts b) : DSs X B W (st :: sts) (dSeq a b) := by
  refine ⟨pssImp (pss_cons h.run g.run) fun D σ H ⟨ρ, G, env, μ, R, k⟩ => ⟨ρ, G, env, μ, R, ?_⟩⟩
  unfold dSeq at k
  cases hr : a env μ with
  | none => rw [hr] at k; exact k.elim
  | some q =>
    obtain ⟨o, e', μ'⟩ := q
    rw [hr] at k
    cases o with
    | exc x => exact k
    | val f =>
      cases f with
      | nx => exact fun σ' ρ' G' H' s p R' => ⟨ρ', G', e', μ', R', KS.weak (r := b e' μ') k s p⟩
      | ret d => exact k
      | brk => exact k
      | ct => exact k
theorem dss_one {a : DSt} (h : DS X B W st a) : DSs X B W [st] a := ⟨pss_one h.run⟩
/-! ### small ones -/
theorem ds_pass {pos : Pos} : DS X B W (.Pass pos) dSkip := ⟨psImp ps_pass fun D σ H ⟨ρ, G, env, μ, R, k⟩ => k σ ρ G H (fun _ _ h => h) (.refl _) R⟩
def dBreak : DSt := fun env μ => some (.val .brk, env, μ)
def dCont : DSt := fun env μ => some (.val .ct, env, μ)
theorem ds_break {pos : Pos} : DS X B W (.Break pos) dBreak := ⟨psImp ps_break fun D σ H ⟨ρ, G, env, μ, R, k⟩ => k σ ρ G H (fun _ _ h => h) (.refl _) R⟩
theorem ds_cont {pos : Pos} : DS X B W (.Continue pos) dCont := ⟨psImp ps_continue fun D σ H ⟨ρ, G, env, μ, R, k⟩ => k σ ρ G H (fun _ _ h => h) (.refl _) R⟩
def unbor : D → D
  | .bor l => .new l
  | d => d
def dRet (m : DEx) : DSt := fun env μ => bindS env (m env μ) fun d μ => some (.val (.ret (unbor d)), env, μ)
/-- a list of one's own is given away -/
theorem RepX.unbor {ρ : List Addr} {G H : Hp} {σ : L2.St} {env : DEnv} {μ : Mu} {v : V} {d : D} (R : RD T B ρ G H σ env μ) (h : RepX T B ρ G H σ env v d) : ∃ env', RD T B ρ G H σ env' μ ∧ RepX T B ρ G H σ env' v (unbor d) := by
  cases d with
  | bor l =>
    obtain ⟨i, p, e1, e2, rfl⟩ := h
    obtain ⟨p', vs, e3, e4, e5, e6, e7, e8, e9⟩ := R.slot i _ e1
    rw [e2] at e3; cases e3
    have R' : RD T B ρ G H (σ.set i (some (.ref p))) (env.set i .no) μ := R.setG (fun _ => by simp) fun d' e => by cases e
    have eσ : σ.set i (some (.ref p)) = σ := by
      apply List.ext_getElem?
      intro j
      by_cases q : i = j
      · subst q
        rw [List.getElem?_set_self (List.getElem?_eq_some_iff.mp e2).1, e2]
      · rw [List.getElem?_set_ne q]
    rw [eσ] at R'
    refine ⟨env.set i .no, R', p, vs, rfl, e4, e5, e6, e7, e8, e9, fun j l' h1 h2 => ?_, fun q hq e => ?_⟩
    · obtain ⟨n, o⟩ := own_of_set (fun _ => by simp) h1
      exact n (R.own j i l' l p o e1 h2 e2)
    · have z := (R.xo q hq).2.2.2.2 i l e1
      rw [e] at z
      exact z e2
  | _ => exact ⟨env, R, h⟩
theorem ds_ret {e : Expr} {m : DEx} {pos : Pos} (h : DE X B W e m) : DS X B W (.Return (some e) pos) (dRet m) := by
  refine ⟨psImp (ps_ret h.run) fun D σ H ⟨ρ, G, env, μ, R, k⟩ => ⟨ρ, G, env, μ, R, (KS.bind k).imp fun ρ1 G1 H1 μ1 d s p R1 k1 v hv => ?_⟩⟩
  obtain ⟨env', R2, h2⟩ := hv.unbor R1
  exact k1 σ env' ρ1 G1 H1 v (fun _ _ h => h) (.refl _) R2 h2
def dRetN : DSt := fun env μ => some (.val (.ret .non), env, μ)
theorem ds_retN {pos : Pos} : DS X B W (.Return none pos) dRetN := ⟨psImp ps_retN fun D σ H ⟨ρ, G, env, μ, R, k⟩ => k σ env ρ G H .non (fun _ _ h => h) (.refl _) R (.ofR rep_non)⟩
def dDrop (m : DEx) : DSt := fun env μ => bindS env (m env μ) fun _ μ => some (.val .nx, env, μ)
theorem ds_expr {e : Expr} {m : DEx} {pos : Pos} (h : DE X B W e m) (hs : swapsWith e none pos.line X.env = pure false := by rfl) : DS X B W (.Expr e pos) (dDrop m) :=
  ⟨psImp (ps_expr h.run hs) fun D σ H ⟨ρ, G, env, μ, R, k⟩ => ⟨ρ, G, env, μ, R, (KS.bind k).imp fun ρ1 G1 H1 μ1 d s p R1 k1 v hv => k1 σ ρ1 G1 H1 (fun _ _ h => h) (.refl _) R1⟩⟩
def dIfS (t : DEnv → Mu → Res Bool) (a b : DSt) : DSt := fun env μ => bindS env (t env μ) fun c μ => if c = true then a env μ else b env μ
theorem ds_if {c : Expr} {t : DEnv → Mu → Res Bool} {s1 s2 : List Stmt} {a b : DSt} {pos : Pos} (hc : DT X B W c t) (h1 : DSs X B W s1 a) (h2 : DSs X B W s2 b) : DS X B W (.If c s1 s2 pos) (dIfS t a b) := by
  refine ⟨psImp (ps_if hc.run h1.run h2.run) fun D σ H ⟨ρ, G, env, μ, R, k⟩ => ⟨ρ, G, env, μ, R, (KS.bind k).imp fun ρ1 G1 H1 μ1 c s p R1 k1 => ?_⟩⟩
  cases c with
  | true => exact ⟨ρ1, G1, env, μ1, R1, k1⟩
  | false => exact ⟨ρ1, G1, env, μ1, R1, k1⟩
/-! ### stores -/
def dAsg (m : DEx) (t : DTg) : DSt := fun env μ => bindS env (m env μ) fun d μ => if nobor d then (match t env (hold d) with
    | some env' => some (.val .nx, env', μ)
    | none => none) else none
theorem ds_asgG {te : TE} {g : TG} {m : DEx} {t : DTg} {is : List Nat} (h : PS X st (tAsg te g)) (i : ∀ σ H Q, rdE (tx X) B W m σ H Q → te σ H Q) (gd : GD X.K X.mg g t is) : DS X B W st (dAsg m t) := by
  refine ⟨psImp h fun D σ H ⟨ρ, G, env, μ, R, k⟩ => i σ H _ ⟨ρ, G, env, μ, R, (KS.bind k).imp fun ρ1 G1 H1 μ1 d s p R1 k1 v hv => ?_⟩⟩
  split at k1
  · rename_i hb
    split at k1
    · rename_i env' he
      obtain ⟨G2, s2, R2, h2⟩ := hv.hold R1
      exact gd.ok B ρ1 G2 H1 σ env μ1 v _ env' _ R2 (h2.rep (hold_nobor hb)) he fun σ' R3 _ _ => k1 σ' ρ1 G2 H1 s2 (.refl _) R3
    · exact k1.elim
  · exact k1.elim
theorem ds_set {i : Nat} {x : Str} {e : Expr} {m : DEx} {pos pos' : Pos} (hN : X.N.Nodup) (hi : X.N[i]? = some x) (hx : Loc X.env.scope x) (he : DE X B W e m) (hs : swapsWith e (some (.Name x pos')) pos.line X.env = pure false := by rfl)
    (hf : X.fn x = true ∨ X.env.scope.names.lookup x = some .local := by first | exact .inl rfl | exact .inr rfl | assumption) : DS X B W (.Assign [.Name x pos'] e pos) (dAsg m (tName i)) :=
  ds_asgG (ps_set hN hi hx he.run hs hf) (fun _ _ _ h => h) gd_name
/-! ### for -/
def forRun (tg : DTg) (body : DSt) : List D → DEnv → Mu → RS
  | [], env, μ => some (.val .nx, env, μ)
  | d :: ds, env, μ => (match tg env d with
    | none => none
    | some env1 => (match body env1 μ with
      | some (.val .nx, env2, μ2) => forRun tg body ds env2 μ2
      | some (.val .ct, env2, μ2) => forRun tg body ds env2 μ2
      | some (.val .brk, env2, μ2) => some (.val .nx, env2, μ2)
      | r => r))
def dFor (it : DEnv → Mu → Res (List D)) (tg : DTg) (body : DSt) : DSt := fun env μ => bindS env (it env μ) fun ds μ => forRun tg body ds env μ
theorem rd_for {J : It} {g : TG} {tg : DTg} {is : List Nat} {body : DSt} {De : Ends} {ρ1 : List Addr} {G1 H1 : Hp} {σ : L2.St} {env : DEnv} {μ1 : Mu} {ds : List D} (gd : GD T.K T.mg g tg is) (R1 : RD T B ρ1 G1 H1 σ env μ1) (wk : WalkD T J ρ1 G1 ds)
    (k : KS T B W De ρ1 G1 (forRun tg body ds env μ1)) : ∃ Wv : Nat → Nat → L2.St → Hp → Prop, (∃ m, Wv 0 m σ H1) ∧ ∀ i m σ H, Wv i m σ H →
      (J.stop i H ∧ De.nx σ H) ∨ (J.go i H ∧ ∃ N : L2.St → Hp → Prop, (∀ σ' H', N σ' H' → ∃ m', m' < m ∧ Wv (i + 1) m' σ' H') ∧ ∀ x H', J.yld i H x H' → g x σ H' fun σ2 H2 => rdS T B W body { De with nx := N, ct := N, bk := De.nx } σ2 H2) := by
  refine ⟨fun i m σ H => ∃ ρ' G' env' μ', m = ds.length - i ∧ i ≤ ds.length ∧ Same G1 G' ∧ Pre ρ1 ρ' ∧ RD T B ρ' G' H σ env' μ' ∧ KS T B W De ρ' G' (forRun tg body (ds.drop i) env' μ'), ⟨ds.length, ρ1, G1, env, μ1, by omega, Nat.zero_le _, fun _ _ h => h, .refl _, R1, k⟩, ?_⟩
  rintro i m σ' H' ⟨ρ', G', env', μ', rfl, hi, s, p, R, k⟩
  by_cases hlt : i < ds.length
  · have hd : ds[i]? = some ds[i] := by simp [hlt]
    obtain ⟨jg, jy⟩ := wk.go i _ hd ρ' G' H' s p R.gh
    refine .inr ⟨jg, fun σ2 H2 => ∃ ρ2 G2 env2 μ2, Same G1 G2 ∧ Pre ρ1 ρ2 ∧ RD T B ρ2 G2 H2 σ2 env2 μ2 ∧ KS T B W De ρ2 G2 (forRun tg body (ds.drop (i + 1)) env2 μ2),
      fun σ2 H2 ⟨ρ2, G2, env2, μ2, h1, h2, h3, h4⟩ => ⟨ds.length - (i + 1), by omega, ρ2, G2, env2, μ2, rfl, hlt, h1, h2, h3, h4⟩, fun x H'' hy => ?_⟩
    have item : ∃ G2, Same G' G2 ∧ RD T B ρ' G2 H'' σ' env' μ' ∧ Rep T ρ' G2 x ds[i] := by
      rcases jy x H'' hy with ⟨e, r⟩ | ⟨q, ws, l', hn, e, ex, ed, r, z⟩
      · exact ⟨G', fun _ _ h => h, by rw [e]; exact R, r⟩
      · have gn := (R.fresh_ hn).1
        exact ⟨_, same_upd gn, by rw [e]; exact R.alloc hn, by rw [ex, ed]; exact rep_tup (.inl upd_same) z (r.mono (same_upd gn) (.refl _))⟩
    obtain ⟨G2, s2, R2, rx⟩ := item
    rw [List.drop_eq_getElem_cons hlt] at k
    unfold forRun at k
    split at k
    · exact k.elim
    · rename_i env1 he1
      refine gd.ok B ρ' G2 H'' σ' env' μ' x _ env1 _ R2 rx he1 fun σ2 R3 _ _ => ⟨ρ', G2, env1, μ', R3, ?_⟩
      split at k
      · rename_i env2 μ2 hb
        rw [hb]
        exact fun σ3 ρ3 G3 H3 s3 p3 R4 => ⟨ρ3, G3, env2, μ2, (s.trans s2).trans s3, p.trans p3, R4, k.weak (s2.trans s3) p3⟩
      · rename_i env2 μ2 hb
        rw [hb]
        exact fun σ3 ρ3 G3 H3 s3 p3 R4 => ⟨ρ3, G3, env2, μ2, (s.trans s2).trans s3, p.trans p3, R4, k.weak (s2.trans s3) p3⟩
      · rename_i env2 μ2 hb
        rw [hb]
        exact fun σ3 ρ3 G3 H3 s3 p3 R4 => k σ3 ρ3 G3 H3 (s2.trans s3) p3 R4
      · rename_i n1 n2 n3
        cases hb : body env1 μ' with
        | none => rw [hb] at k; exact k.elim
        | some q =>
          obtain ⟨o, e2, μ2⟩ := q
          rw [hb] at k
          cases o with
          | exc x => exact fun σ3 ρ3 G3 H3 c d s3 p3 R4 => k σ3 ρ3 G3 H3 c d (s2.trans s3) p3 R4
          | val f =>
            cases f with
            | nx => exact absurd hb (n1 _ _)
            | ct => exact absurd hb (n2 _ _)
            | brk => exact absurd hb (n3 _ _)
            | ret d => exact fun σ3 e3 ρ3 G3 H3 v s3 p3 R4 => k σ3 e3 ρ3 G3 H3 v (s2.trans s3) p3 R4
  · have e : i = ds.length := by omega
    subst e
    rw [List.drop_length] at k
    exact .inl ⟨wk.stop ρ' G' H' s p R.gh, k σ' ρ' G' H' (fun _ _ h => h) (.refl _) R⟩
theorem ds_for {tg iter : Expr} {body : List Stmt} {it : DEnv → Mu → Res (List D)} {g : TG} {t : DTg} {is : List Nat} {b : DSt} {pos : Pos} (hp : PassesOwn (model X.prog X.w) X.A X.env X.xe) (hc : X.calm = true) (hi : DI X B W tg iter it) (hg : PG X tg g) (gd : GD X.K X.mg g t is) (hb : DSs X B W body b)
    (hs : ∀ x, foldedSetIterable iter X.env x = pure x := by intro _; rfl) : DS X B W (.For tg iter body [] pos) (dFor it t b) :=
  ⟨psImp (ps_for hp hc hi.run hg hb.run hs) fun D σ H ⟨ρ, G, env, μ, R, k⟩ => ⟨ρ, G, env, μ, R, (KS.bind k).imp fun ρ1 G1 H1 μ1 ds s p R1 k1 J wk => rd_for gd R1 wk k1⟩⟩
end
end Dv

/-! DvI: what a def means; a def by its body; calls. -/
namespace Dv
open PySem PySem.Spec PyProof.Rows L2
abbrev Fn := List D → Mu → Res D
/-- a call's value: a list of nobody's, or what is frozen -/
def RepO (T : Tx) (ρ : List Addr) (G H H0 : Hp) (v : V) : D → Prop
  | .new l => ∃ (p : Addr) (vs : List V), v = .ref p ∧ H p = some (.lst vs) ∧ Reps T ρ G vs l ∧ szl l.length ∧ G p = none ∧ p ∉ ρ ∧ H0 p = none
  | d => Rep T ρ G v d
def KC (T : Tx) (ρ : List Addr) (G H : Hp) (Q : VK) (E : XK) : Res D → Prop
  | some (.val d, μ') => ∀ v ρ' G' H', Ext ρ G H ρ' G' H' → Same G' H' → StR T ρ' G' H' μ' → RepO T ρ' G' H' H v d → Q v H'
  | some (.exc x, μ') => ∀ cls dd ρ' G' H', Ext ρ G H ρ' G' H' → Same G' H' → StR T ρ' G' H' μ' → ExR T ρ' G' H' cls dd x → E cls dd H'
  | none => False
def spD (T : Tx) (n : Nat) (m : Fn) : Sp := fun vs H Q E => vs.length = n ∧ ∃ ρ G ds μ, Same G H ∧ StR T ρ G H μ ∧ Reps T ρ G vs ds ∧ KC T ρ G H Q E (m ds μ)
/-- a def's meaning by its body's -/
def endD : RS → Res D
  | some (.val (.ret d), _, μ) => some (.val d, μ)
  | some (.val .nx, _, μ) => some (.val .non, μ)
  | some (.exc x, _, μ) => some (.exc x, μ)
  | _ => none
def envD (n : Nat) (ds : List D) : DEnv := ds.map SV.v ++ List.replicate (n - ds.length) .no
def defD (n : Nat) (body : DSt) : Fn := fun ds μ => endD (body (envD n ds) μ)
section
variable {T : Tx} {ρ : List Addr} {G H : Hp} {μ : Mu}
theorem start_rd {N : List Str} {vs : List V} {ds : List D} (gh : Same G H) (st : StR T ρ G H μ) (r : Reps T ρ G vs ds) : RD T ⟨H, G, ρ, []⟩ ρ G H (L2.start N vs) (envD N.length ds) μ := by
  have hl := r.length
  have noown : ∀ (i : Nat) (l : List D), (envD N.length ds)[i]? ≠ some (.own l) := by
    intro i l h
    unfold envD at h
    by_cases hi : i < ds.length
    · rw [List.getElem?_append_left (by simpa using hi), List.getElem?_map] at h
      cases e : ds[i]? with
      | none => rw [e] at h; cases h
      | some d => rw [e] at h; cases h
    · rw [List.getElem?_append_right (by simpa using hi), List.getElem?_replicate] at h
      split at h <;> cases h
  refine ⟨gh, .refl _ _ _, by simp [envD, L2.start, hl], fun i s hs => ?_, fun i j l l' p h1 => absurd h1 (noown i l), st, fun q hq => absurd hq List.not_mem_nil, List.nodup_nil⟩
  unfold envD at hs
  by_cases hi : i < ds.length
  · rw [List.getElem?_append_left (by simpa using hi), List.getElem?_map] at hs
    cases e : ds[i]? with
    | none => rw [e] at hs; cases hs
    | some d =>
      rw [e] at hs
      cases hs
      obtain ⟨v, e1, e2⟩ := r.get e
      refine ⟨v, ?_, e2⟩
      unfold L2.start
      rw [List.getElem?_append_left (by rw [List.length_map]; omega), List.getElem?_map, e1]; rfl
  · rw [List.getElem?_append_right (by simpa using hi), List.getElem?_replicate] at hs
    split at hs
    · cases hs; trivial
    · cases hs
theorem repO_of {B : Bs} {σ : L2.St} {env : DEnv} {v : V} {d : D} (h : RepX T B ρ G H σ env v d) (n : nobor d = true) : RepO T ρ G H B.H0 v d := by
  cases d with
  | new l =>
    obtain ⟨p, vs, e1, e2, e3, e4, e5, e6, e7, _⟩ := h
    exact ⟨p, vs, e1, e2, e3, e4, e5, e6, e7⟩
  | bor l => cases n
  | _ => exact h
end
section
variable {P : Program} {w : World} {K : PySem.W.Frag} {mg : Str → Option Value} {base : Heap} {x qual : Str} {params : Arguments} {body : List Stmt} {scope : Scope} {dvs : List V} {kws : List (Str × V)} {f : Addr} {fd : FuncData}
/-- nothing borrowed is handed back -/
def cleanD (m : Fn) : Fn := fun ds μ => match m ds μ with
  | some (.val d, μ') => if nobor d then some (.val d, μ') else none
  | r => r
theorem def_ok {N ps : List Str} {k : Nat} {m : DSt} (F : FunD K x qual params body scope dvs kws f fd) (S : FnScope N ps scope)
    (hbody : ∀ (cdv : Value) (A : Around) (outer : List Env) (s : Shared) (H : Hp) (E : XK) (B : Bs), Room k (A.deeper (envOfC qual scope s.heap.objs.size f cdv)) → DSs (cxOf (L2.CX P w) P w K mg base N qual scope f cdv A outer s H E) B (fun cls d _ H => E cls d H) body m) :
    FnOk P w K mg base (L2.CX P w) (k + 1) f fd ps (spD ⟨K, mg⟩ ps.length (cleanD (defD N.length m))) := by
  refine F.ok S (fun vs H Q E h => h.1) fun cdv A outer s H vs Q E hr h => ?_
  obtain ⟨hl, ρ, G, ds, μ, gh, st, rs, k⟩ := h
  refine ⟨_, (hbody cdv A outer s H E ⟨H, G, ρ, []⟩ hr).run, ρ, G, envD N.length ds, μ, start_rd gh st rs, ?_⟩
  unfold cleanD defD at k
  cases e : m (envD N.length ds) μ with
  | none => rw [e] at k; exact k.elim
  | some q =>
    obtain ⟨o, env', μ'⟩ := q
    rw [e] at k
    cases o with
    | exc x => exact fun σ' ρ' G' H' cls dd s p R er => k cls dd ρ' G' H' R.ext R.gh R.st er
    | val fl =>
      cases fl with
      | nx => exact fun σ' ρ' G' H' s p R => k .non ρ' G' H' R.ext R.gh R.st (show Rep _ _ _ _ _ from rep_non)
      | ret d =>
        have k : KC ⟨K, mg⟩ ρ G H Q E (if nobor d then some (.val d, μ') else none) := k
        split at k
        · rename_i hb
          exact fun σ' env2 ρ' G' H' v s p R hv => k v ρ' G' H' R.ext R.gh R.st (repO_of hv hb)
        · exact k.elim
      | brk => exact k.elim
      | ct => exact k.elim
end
/-! ### calls -/
section
variable {X : Cx} {B : Bs} {W : WX}
/-- behind a call all is as it was but the store -/
theorem RD.after {T : Tx} {ρ ρ' : List Addr} {G G' H H' : Hp} {σ : L2.St} {env : DEnv} {μ μ' : Mu} (R : RD T B ρ G H σ env μ) (e : Ext ρ G H ρ' G' H') (gh : Same G' H') (st : StR T ρ' G' H' μ') : RD T B ρ' G' H' σ env μ' := by
  have keep : ∀ {p : Addr} {o : HO}, H p = some o → G p = none → p ∉ ρ → H' p = some o ∧ G' p = none ∧ p ∉ ρ' := fun {p o} h g n => by
    refine ⟨e.old h n, ?_, fun m => ?_⟩
    · cases q : G' p with
      | none => rfl
      | some o' => have := e.fg p o' q g; rw [h] at this; cases this
    · have := e.fr p m n; rw [h] at this; cases this
  refine ⟨gh, R.ext.trans e, R.len, fun i s hs => ?_, R.own, st, fun q hq => ?_, R.xn⟩
  · have h := R.slot i s hs
    cases s with
    | no => trivial
    | v d =>
      obtain ⟨v, e1, e2⟩ := h
      exact ⟨v, e1, e2.mono e.gg e.pre⟩
    | own l =>
      obtain ⟨p, vs, e1, e2, e3, e4, e5, e6, e7⟩ := h
      obtain ⟨k1, k2, k3⟩ := keep e2 e5 e6
      exact ⟨p, vs, e1, k1, e3.mono e.gg e.pre, e4, k2, k3, e7⟩
  · obtain ⟨e1, e2, e3, e4⟩ := R.xo q hq
    obtain ⟨k1, k2, k3⟩ := keep e1 e2 e3
    exact ⟨k1, k2, k3, e4⟩
theorem repX_after {T : Tx} {ρ ρ' : List Addr} {G G' H H' : Hp} {σ : L2.St} {env : DEnv} {μ : Mu} (R : RD T B ρ G H σ env μ) {v : V} {d : D} (h : RepO T ρ' G' H' H v d) : RepX T B ρ' G' H' σ env v d := by
  cases d with
  | new l =>
    obtain ⟨p, vs, e1, e2, e3, e4, eg, e5, e6⟩ := h
    refine ⟨p, vs, e1, e2, e3, e4, eg, e5, R.ext.none e6, fun i l' h1 h2 => ?_, fun q hq e => ?_⟩
    · obtain ⟨p', us, q1, q2, _⟩ := R.slot i _ h1
      rw [h2] at q1; cases q1
      rw [e6] at q2; cases q2
    · have z := (R.xo q hq).1
      rw [e, e6] at z; cases z
  | bor l => exact (show False from by unfold RepO Rep at h; exact h).elim
  | _ => exact h
/-- a call with values -/
theorem kc_of {T : Tx} {m : Fn} {ρ : List Addr} {G H : Hp} {σ : L2.St} {env : DEnv} {μ : Mu} {Q : VK} {ds : List D} (R : RD T B ρ G H σ env μ) (k : KE T B σ env W (PX T B σ env Q) ρ G (m ds μ)) : KC T ρ G H Q (fun cls d H => W cls d σ H) (m ds μ) := by
  cases e : m ds μ with
  | none => rw [e] at k; exact k.elim
  | some q =>
    obtain ⟨o, μ'⟩ := q
    rw [e] at k
    cases o with
    | val d => exact fun v ρ' G' H' ex gh st ro => k ρ' G' H' ex.gg ex.pre (R.after ex gh st) v (repX_after R ro)
    | exc x => exact fun cls dd ρ' G' H' ex gh st er => k ρ' G' H' cls dd ex.gg ex.pre (R.after ex gh st) er
def fCall (n : Nat) (m : Fn) : FA := fun ds μ => if ds.length = n ∧ ds.all nobor = true then m ds μ else none
theorem sp_call {T : Tx} {n : Nat} {m : Fn} {ρ : List Addr} {G H : Hp} {σ : L2.St} {env : DEnv} {μ : Mu} {Q : VK} {ds : List D} {vs : List V} (R : RD T B ρ G H σ env μ) (hv : HReps T ρ G σ env vs ds) (k : KE T B σ env W (PX T B σ env Q) ρ G (fCall n m ds μ)) :
    spD T n m vs H Q (fun cls d H => W cls d σ H) := by
  unfold fCall at k
  split at k
  · rename_i h
    have r := hv.reps h.2
    exact ⟨by rw [r.length, h.1], ρ, G, ds, μ, R.gh, R.st, r, kc_of R k⟩
  · exact k.elim
theorem de_call {k n : Nat} {f : Addr} {fd : FuncData} {ps : List Str} {m : Fn} {x : Str} {p pos : Pos} {e : Expr} {es : List Expr} {na : DEnv → Mu → Res (List D)} {ds : List Value} {dvs : List V} (F : FnOk X.prog X.w X.K X.mg X.base (L2.CX X.prog X.w) k f fd ps (spD (tx X) n m)) (hr : Room k X.A) (tk : Takes X W) (hg : Gl X x) (hm : X.mg x = some (.ref f)) (hk : PySem.W.keepIn X.K (.ref f) = true)
    (hb : Binds X.K fd ps []) (ha : DA X B W (e :: es) na) (hdb : (x == ("__debug__" : Str)) = false := by decide) (he : starEach (e :: es) X.env = (false, eval e X.env) :: starEach es X.env := by rfl) (hpl : (backTo pos (starEach es X.env)).any (·.1) = false := by rfl) :
    DE X B W (.Call (.Name x p) (e :: es) [] pos) (dCall (fCall n m) na) := by
  refine ⟨peImp (pe_callSD (E := fun σ cls d H => W cls d σ H) F hr hg hm hk hb .nil (fun σ => passAt tk σ) ha.run hdb he hpl) fun σ H Q ⟨ρ, G, env, μ, R, k⟩ => ?_⟩
  refine ⟨ρ, G, env, μ, R, (KE.bind (f := fCall n m) k).imp fun ρ1 G1 H1 μ1 ds s p R1 k1 vs hvs => ?_⟩
  show spD (tx X) n m (vs ++ []) H1 Q _
  rw [List.append_nil]
  exact sp_call R1 hvs k1
/-! ### keywords -/
structure DK (X : Cx) (B : Bs) (W : WX) (kws : List Keyword) (m : DEnv → Mu → Res (List D)) : Prop where
  run : PK X kws (rdA (tx X) B W m)
theorem pkImp {kws : List Keyword} {t t' : TA} (h : PK X kws t) (i : ∀ σ H Q, t' σ H Q → t σ H Q) : PK X kws t' := ⟨fun pos pins s σ H Q I q => h.run pos pins s σ H Q I (i σ H Q q)⟩
theorem dk_nil : DK X B W [] dNil := ⟨pkImp pk_nil fun σ H Q ⟨ρ, G, env, μ, R, k⟩ => k ρ G H (fun _ _ h => h) (.refl _) R [] .nil⟩
theorem dk_cons {nm : Option Str} {e : Expr} {kpos : Pos} {kws : List Keyword} {m : DEx} {n : DEnv → Mu → Res (List D)} (h : DE X B W e m) (g : DK X B W kws n) : DK X B W (⟨nm, e, kpos⟩ :: kws) (dCons m n) := by
  refine ⟨pkImp (pk_cons h.run g.run) fun σ H Q ⟨ρ, G, env, μ, R, k⟩ => ?_⟩
  refine rd_then (f := fun d μ => bindR (n env μ) fun ds μ => ret (hold d :: ds) μ) R k fun ρ1 G1 H1 μ1 x d s p R1 hx k1 => ?_
  refine ⟨ρ1, G1, env, μ1, R1, (KE.bind (f := fun ds μ => ret (hold d :: ds) μ) k1).imp fun ρ2 G2 H2 μ2 ds s2 p2 R2 k2 vs hvs => ?_⟩
  exact k2 ρ2 G2 H2 (fun _ _ h => h) (.refl _) R2 _ (.cons (hx.mono s2 p2) hvs)
theorem HReps.append {T : Tx} {ρ : List Addr} {G : Hp} {σ : L2.St} {env : DEnv} {vs us : List V} {ds es : List D} (h : HReps T ρ G σ env vs ds) (g : HReps T ρ G σ env us es) : HReps T ρ G σ env (vs ++ us) (ds ++ es) := by
  induction h with
  | nil => exact g
  | cons a _ ih => exact .cons a ih
def dCallK (f : FA) (n l : Nat) (na nk : DEnv → Mu → Res (List D)) : DEx := fun env μ => bindR (na env μ) fun ds μ => bindR (nk env μ) fun es μ => if ds.length = n ∧ es.length = l then f (ds ++ es) μ else none
/-- f(a, .., k = b, ..), the keywords in the parameters' order behind the others -/
theorem de_callK {k n0 n : Nat} {f : Addr} {fd : FuncData} {ps ks : List Str} {m : Fn} {x : Str} {p pos : Pos} {e : Expr} {es : List Expr} {kws : List Keyword} {na nk : DEnv → Mu → Res (List D)} (F : FnOk X.prog X.w X.K X.mg X.base (L2.CX X.prog X.w) k f fd ps (spD (tx X) n m)) (hr : Room k X.A) (tk : Takes X W) (hg : Gl X x) (hm : X.mg x = some (.ref f)) (hk : PySem.W.keepIn X.K (.ref f) = true)
    (hb : KBn X.K fd ps n0 ks (fun us ws => us ++ ws) (fun us ws => us ++ ws)) (ha : DA X B W (e :: es) na) (hkw : DK X B W kws nk) (hall : (backToKw pos (keywordEach kws X.env)).all (·.1.isSome) = true := by rfl) (hks : (backToKw pos (keywordEach kws X.env)).filterMap (·.1) = ks := by rfl)
    (hdb : (x == ("__debug__" : Str)) = false := by decide) (he : starEach (e :: es) X.env = (false, eval e X.env) :: starEach es X.env := by rfl)
    (hpl : ((backTo pos (starEach (e :: es) X.env)).any (·.1) || (backToKw pos (keywordEach kws X.env)).any (·.1.isNone)) = false := by rfl) :
    DE X B W (.Call (.Name x p) (e :: es) kws pos) (dCallK (fCall n m) n0 ks.length na nk) := by
  refine ⟨⟨fun pins s σ H Q I ⟨ρ, G, env, μ, R, k⟩ => ?_⟩⟩
  refine wpAny_Call_Name_kw (ld_glob I hg hm ?_ hdb)
  have h1 := (KE.bind (f := fun ds μ => bindR (nk env μ) fun es μ => if ds.length = n0 ∧ es.length = ks.length then fCall n m (ds ++ es) μ else none) k)
  refine PySem.W.callWith_KW (h₀ := X.base) I.ok.mod.kin hk hall (thn (ha.run.run pos pins s σ H (fun vs H1 => rdA (tx X) B W nk σ H1 fun zs H2 => vs.length = n0 ∧ zs.length = ks.length ∧ spD (tx X) n m (vs ++ zs) H2 Q (fun cls d H => W cls d σ H)) I ⟨ρ, G, env, μ, R, h1.imp fun ρ1 G1 H1 μ1 ds s p R1 k1 vs hvs => ?_⟩) fun us s1 ⟨vs, H1, I1, r, q⟩ => ?_) hpl he
  · refine ⟨ρ1, G1, env, μ1, R1, (KE.bind (f := fun es μ => if ds.length = n0 ∧ es.length = ks.length then fCall n m (ds ++ es) μ else none) k1).imp fun ρ2 G2 H2 μ2 es s2 p2 R2 k2 zs hzs => ?_⟩
    split at k2
    · rename_i hl
      exact ⟨by rw [hvs.length, hl.1], by rw [hzs.length, hl.2], sp_call R2 ((hvs.mono s2 p2).append hzs) k2⟩
    · exact k2.elim
  · refine thn (hkw.run.run pos pins s1 σ H1 _ I1 q) fun ws s2 ⟨zs, H2, I2, rz, l1, l2, q2⟩ => ⟨I2.kIn, ?_⟩
    rw [hks]
    have r2 : Vals (vs ++ zs) (us ++ ws) := hb.rel r rz
    refine wpAny_call (codeAny_mono (F.run X.A X.stack s2 H2 ⟨us, ks.zip ws⟩ (us ++ ws) (vs ++ zs) Q (fun cls d H => W cls d σ H) hr I2.env0 (hb.to s2 us ws I2.kIn (r.length.symm.trans l1) (rz.length.symm.trans l2)) r2 q2) fun rr s' hq => ?_)
    cases rr with
    | error e => exact passAt tk σ pins H2 s2 e s' I2 hq
    | ok fl =>
      cases fl with
      | ret u => exact I2.after hq
      | next => exact False.elim hq
      | brk => exact False.elim hq
      | cont => exact False.elim hq
end
end Dv

/-! DvJ: stores side by side, comprehensions stored, the drawer, calls of oneself. -/
namespace Dv
open PySem PySem.Spec PyProof.Rows L2
section
variable {X : Cx} {B : Bs} {W : WX}
/-! ### a, b = x, y -/
def dPar2 (i j : Nat) (n : DEnv → Mu → Res (List D)) : DSt := fun env μ => bindS env (n env μ) fun ds μ => match ds with
  | [d, e] => if nobor d = true ∧ nobor e = true then some (.val .nx, (env.set i (.v d)).set j (.v e), μ) else none
  | _ => none
def dPar3 (i j l : Nat) (n : DEnv → Mu → Res (List D)) : DSt := fun env μ => bindS env (n env μ) fun ds μ => match ds with
  | [d, e, f] => if nobor d = true ∧ nobor e = true ∧ nobor f = true then some (.val .nx, ((env.set i (.v d)).set j (.v e)).set l (.v f), μ) else none
  | _ => none
theorem hreps3 {T : Tx} {ρ : List Addr} {G : Hp} {σ : L2.St} {env : DEnv} {vs : List V} {d e f : D} (h : HReps T ρ G σ env vs [d, e, f]) : ∃ v u w, vs = [v, u, w] ∧ HeldR T ρ G σ env v d ∧ HeldR T ρ G σ env u e ∧ HeldR T ρ G σ env w f := by
  cases h with
  | cons a b =>
    obtain ⟨u, w, rfl, q, q'⟩ := hreps2 b
    exact ⟨_, _, _, rfl, a, q, q'⟩
theorem ds_par2 {pos : Pos} {i j : Nat} {x y : Str} {a b : Expr} {n : DEnv → Mu → Res (List D)} {px py pt : Pos} {kt k2 : Nat} {pt2 : Pos} (hc : X.calm = true) (hN : X.N.Nodup) (hi : X.N[i]? = some x) (hj : X.N[j]? = some y) (hij : i ≠ j)
    (hx : List.lookup x X.env.scope.names = some NameKind.local) (hy : List.lookup y X.env.scope.names = some NameKind.local) (ha : DA X B W [a, b] n)
    (hw : swappedStores [Expr.Tuple [Expr.Name x px, Expr.Name y py] kt pt] (Expr.Tuple [a, b] k2 pt2) X.env = pure (some [x, y]))
    (hs : swapsWithSole [Expr.Tuple [Expr.Name x px, Expr.Name y py] kt pt] (Expr.Tuple [a, b] k2 pt2) pos.line X.env = pure false := by rfl) :
    DS X B W (Stmt.Assign [Expr.Tuple [Expr.Name x px, Expr.Name y py] kt pt] (Expr.Tuple [a, b] k2 pt2) pos) (dPar2 i j n) := by
  refine ⟨psImp (ps_par hc hN hi hj hij hx hy ha.run hw hs) fun D σ H ⟨ρ, G, env, μ, R, k⟩ => ⟨ρ, G, env, μ, R, (KS.bind k).imp fun ρ1 G1 H1 μ1 ds s p R1 k1 vs hvs => ?_⟩⟩
  split at k1
  · split at k1
    · rename_i h
      obtain ⟨v, u, rfl, hv, hu⟩ := hreps2 hvs
      exact ⟨v, u, rfl, k1 _ ρ1 G1 H1 (fun _ _ h => h) (.refl _) ((R1.set (hv.rep h.1)).set (hu.rep h.2))⟩
    · exact k1.elim
  · exact k1.elim
theorem ds_par3 {pos : Pos} {i j l : Nat} {x y z : Str} {a b c : Expr} {n : DEnv → Mu → Res (List D)} {px py pz pt : Pos} {kt k2 : Nat} {pt2 : Pos} (hc : X.calm = true) (hN : X.N.Nodup) (hi : X.N[i]? = some x) (hj : X.N[j]? = some y) (hl : X.N[l]? = some z) (hij : i ≠ j) (hil : i ≠ l) (hjl : j ≠ l)
    (hx : List.lookup x X.env.scope.names = some NameKind.local) (hy : List.lookup y X.env.scope.names = some NameKind.local) (hz : List.lookup z X.env.scope.names = some NameKind.local) (ha : DA X B W [a, b, c] n)
    (hw : swappedStores [Expr.Tuple [Expr.Name x px, Expr.Name y py, Expr.Name z pz] kt pt] (Expr.Tuple [a, b, c] k2 pt2) X.env = pure (some [x, y, z]))
    (hs : swapsWithSole [Expr.Tuple [Expr.Name x px, Expr.Name y py, Expr.Name z pz] kt pt] (Expr.Tuple [a, b, c] k2 pt2) pos.line X.env = pure false := by rfl) :
    DS X B W (Stmt.Assign [Expr.Tuple [Expr.Name x px, Expr.Name y py, Expr.Name z pz] kt pt] (Expr.Tuple [a, b, c] k2 pt2) pos) (dPar3 i j l n) := by
  refine ⟨psImp (ps_par3 hc hN hi hj hl hij hil hjl hx hy hz ha.run hw hs) fun D σ H ⟨ρ, G, env, μ, R, k⟩ => ⟨ρ, G, env, μ, R, (KS.bind k).imp fun ρ1 G1 H1 μ1 ds s p R1 k1 vs hvs => ?_⟩⟩
  split at k1
  · split at k1
    · rename_i h
      obtain ⟨v, u, w, rfl, hv, hu, hw⟩ := hreps3 hvs
      exact ⟨v, u, w, rfl, k1 _ ρ1 G1 H1 (fun _ _ h => h) (.refl _) (((R1.set (hv.rep h.1)).set (hu.rep h.2.1)).set (hw.rep h.2.2))⟩
    · exact k1.elim
  · exact k1.elim
/-! ### y = [.. for ..] on one line -/
theorem ds_setLc {i : Nat} {y : Str} {py : Pos} {elt tg iter : Expr} {ifs : List Expr} {scope : Scope} {own : List (Str × Nat)} {pos spos : Pos} {it : DEnv → Mu → Res (List D)} {g : TG} {t : DTg} {is : List Nat} {tt : DEnv → Mu → Res Bool} {el : DEx}
    (hc : X.calm = true) (hN : X.N.Nodup) (hy : X.N[i]? = some y) (hyl : List.lookup y X.env.scope.names = some NameKind.local) (hsw : swapsWith (elt.ListComp [⟨tg, iter, ifs, 0⟩] scope pos) (some (Expr.Name y py)) spos.line X.env = pure true)
    (hi : DI X B W tg iter it) (ok : BlkOk X.N X.env.scope scope own) (gd : GD X.K X.mg g t is) (his : ∀ i ∈ is, i ∈ own.map (·.2))
    (hg : ∀ (s : Shared) (H : Hp) (C : Addr) (cl : List (Str × Addr)) (fp : List Addr), PG (X.blk s H scope (compEnvC scope cl C X.env) fp) tg g)
    (ht : ∀ (s : Shared) (H : Hp) (C : Addr) (cl : List (Str × Addr)) (fp : List Addr) (B : Bs), DTs (X.blk s H scope (compEnvC scope cl C X.env) fp) B W0 ifs tt)
    (he : ∀ (s : Shared) (H : Hp) (C : Addr) (cl : List (Str × Addr)) (fp : List Addr) (B : Bs), DE (X.blk s H scope (compEnvC scope cl C X.env) fp) B W0 elt el) (hs : ∀ x, foldedSetIterable iter X.env x = pure x := by intro _; rfl) :
    DS X B W (.Assign [.Name y py] (.ListComp elt [⟨tg, iter, ifs, 0⟩] scope pos) spos) (dAsg (dLc it (own.map (·.2)) t tt el) (tName i)) :=
  ds_asgG (ps_setLc (te := exE (tx X) el) (tt := exT (tx X) tt) hc hN hy hyl hsw hi.run ok hg (fun s H C cl fp => pt_ex (ht s H C cl fp)) (fun s H C cl fp => pe_ex (he s H C cl fp)) hs) (fun _ _ _ h => rd_tLc gd his h) gd_name
/-! ### the drawer -/
theorem reps_ints {T : Tx} {ρ : List Addr} {G : Hp} : ∀ ns : List Int, Reps T ρ G (ns.map V.int) (ns.map D.int)
  | [] => .nil
  | n :: ns => .cons rep_int (reps_ints ns)
def srcGet (s : Src) (i : Int) : Option D :=
  if i = 0 then (if szl s.cells.length then some (.lst (s.cells.map D.int)) else none)
  else if i = 1 then some (.int s.at_) else if i = 2 then some (.int s.big) else if i = 3 then some (.int s.seed) else if i = 4 then some (.int s.cnt) else none
def srcSet (s : Src) (i v : Int) : Option Src :=
  if i = 1 then some { s with at_ := v } else if i = 2 then some { s with big := v } else if i = 3 then some { s with seed := v } else if i = 4 then some { s with cnt := v } else none
def fIxS : F2
  | .obj k, .int i, μ => (match μ[k]? with
    | some (.src s) => (match srcGet s i with
      | some d => ret d μ
      | none => none)
    | _ => none)
  | a, b, μ => fIx a b μ
theorem obj_inv {T : Tx} {ρ : List Addr} {G : Hp} {σ : L2.St} {env : DEnv} {x : V} {k : Nat} (h : HeldR T ρ G σ env x (.obj k)) : ∃ a, x = .ref a ∧ ρ[k]? = some a := by
  have h : Rep T ρ G x (.obj k) := h
  unfold Rep at h; exact h
theorem opd_ixS : OpD (tx X) (rIx X.K) fIxS := by
  intro B W σ env ρ G H μ x y d d' Q R hx hy k
  unfold fIxS at k
  split at k
  · rename_i kk i
    split at k
    · rename_i s hs
      split at k
      · rename_i d hd
        obtain ⟨a, rfl, ha⟩ := obj_inv hx
        obtain ⟨a', ea, r⟩ := R.st.at_ kk _ hs
        rw [ha] at ea; cases ea
        obtain ⟨l, e1, e2⟩ := r
        have e3 := int_inv hy
        unfold srcGet at hd
        split at hd
        · rename_i h0
          split at hd
          · rename_i hz
            cases hd
            exact .inl ⟨a, _, i, .ref l, rfl, e3, .of e1, by subst h0; rfl, k.here R (.ofR (rep_lst e2 (by simpa using hz) (reps_ints _)))⟩
          · cases hd
        · split at hd
          · rename_i h0; cases hd
            exact .inl ⟨a, _, i, .int s.at_, rfl, e3, .of e1, by subst h0; rfl, k.here R (.ofR rep_int)⟩
          · split at hd
            · rename_i h0; cases hd
              exact .inl ⟨a, _, i, .int s.big, rfl, e3, .of e1, by subst h0; rfl, k.here R (.ofR rep_int)⟩
            · split at hd
              · rename_i h0; cases hd
                exact .inl ⟨a, _, i, .int s.seed, rfl, e3, .of e1, by subst h0; rfl, k.here R (.ofR rep_int)⟩
              · split at hd
                · rename_i h0; cases hd
                  exact .inl ⟨a, _, i, .int s.cnt, rfl, e3, .of e1, by subst h0; rfl, k.here R (.ofR rep_int)⟩
                · cases hd
      · exact k.elim
    · exact k.elim
  · exact opd_ix B W σ env ρ G H μ x y _ _ Q R hx hy k
theorem RD.setSrc {T : Tx} {ρ : List Addr} {G H : Hp} {σ : L2.St} {env : DEnv} {μ : Mu} {k : Nat} {a l : Addr} {s s' : Src} (R : RD T B ρ G H σ env μ) (ha : ρ[k]? = some a) (hs : μ[k]? = some (.src s)) (e1 : H a = some (.lst (srcV l s))) (e2 : G l = some (.lst (s.cells.map V.int))) (hc : s'.cells = s.cells) :
    RD T B ρ G (upd H a (.lst (srcV l s'))) σ env (μ.set k (.src s')) := by
  have am : a ∈ ρ := List.mem_of_getElem? ha
  have ga := R.st.off a am
  have hk : k < μ.length := (List.getElem?_eq_some_iff.mp hs).1
  refine ⟨fun b u e => ?_, ⟨R.ext.gg, R.ext.pre, fun b u e => ?_, R.ext.fg, R.ext.fr⟩, R.len, fun i t ht => ?_, R.own, ⟨by rw [List.length_set]; exact R.st.len, R.st.nd, R.st.off, fun j m hm => ?_⟩, fun q hq => ?_, R.xn⟩
  · by_cases q : b = a
    · subst q; rw [ga] at e; cases e
    · rw [upd_ne q]; exact R.gh b u e
  · by_cases q : b = a
    · subst q
      refine ⟨_, upd_same, fun n => ?_⟩
      have := R.ext.fr b am n
      rw [this] at e; cases e
    · rw [upd_ne q]; exact R.ext.keep b u e
  · have h := R.slot i t ht
    cases t with
    | no => trivial
    | v d => exact h
    | own l' =>
      obtain ⟨p, vs, q1, q2, q3, q4, q5, q6, q7⟩ := h
      have z : p ≠ a := fun z => q6 (z ▸ am)
      exact ⟨p, vs, q1, by rw [upd_ne z]; exact q2, q3, q4, q5, q6, q7⟩
  · by_cases q : k = j
    · subst q
      rw [List.getElem?_set_self hk] at hm
      cases hm
      exact ⟨a, ha, l, upd_same, by rw [hc]; exact e2⟩
    · rw [List.getElem?_set_ne q] at hm
      obtain ⟨a', ea, r⟩ := R.st.at_ j m hm
      refine ⟨a', ea, ?_⟩
      have z : a' ≠ a := fun z => by
        subst z
        have hj : j < ρ.length := (List.getElem?_eq_some_iff.mp ea).1
        have hkr : k < ρ.length := (List.getElem?_eq_some_iff.mp ha).1
        have := (List.getElem?_inj hkr R.st.nd).mp (ha.trans ea.symm)
        exact q this
      exact r.to (fun _ _ e => e) fun o e1 => by rw [upd_ne z]; exact e1
  · obtain ⟨q1, q2, q3, q4⟩ := R.xo q hq
    have z : q.1 ≠ a := fun z => q3 (z ▸ am)
    exact ⟨by rw [upd_ne z]; exact q1, q2, q3, q4⟩
def fSetS (env : DEnv) : D → D → D → Mu → RS
  | .int v, .obj k, .int i, μ => (match μ[k]? with
    | some (.src s) => (match srcSet s i v with
      | some s' => some (.val .nx, env, μ.set k (.src s'))
      | none => none)
    | _ => none)
  | _, _, _, _ => none
def dSetS (me mo mi : DEx) : DSt := fun env μ => bindS env (me env μ) fun d μ => bindS env (mo env μ) fun o μ => bindS env (mi env μ) fun i μ => fSetS env (hold d) (hold o) (hold i) μ
/-- one evaluation, then a statement's rest -/
theorem rd_thenS {T : Tx} {De : Ends} {σ : L2.St} {env : DEnv} {ρ : List Addr} {G H : Hp} {μ : Mu} {m : DEx} {f : D → Mu → RS} {Q : VK}
    (R : RD T B ρ G H σ env μ) (k : KS T B W De ρ G (bindS env (m env μ) f))
    (h : ∀ ρ1 G1 H1 μ1 x d, Same G G1 → Pre ρ ρ1 → RD T B ρ1 G1 H1 σ env μ1 → HeldR T ρ1 G1 σ env x (hold d) → KS T B W De ρ1 G1 (f d μ1) → Q x H1) : rdE T B W m σ H Q := by
  refine ⟨ρ, G, env, μ, R, (KS.bind k).imp fun ρ1 G1 H1 μ1 d s p R1 k1 x hx => ?_⟩
  obtain ⟨G2, s2, R2, h2⟩ := hx.hold R1
  exact h ρ1 G2 H1 μ1 x d (s.trans s2) p R2 h2 (k1.weak s2 (.refl _))
theorem srcV_set {l : Addr} {s s' : Src} {i v : Int} (h : srcSet s i v = some s') : s'.cells = s.cells ∧ ∃ j, ixN (srcV l s).length i = some j ∧ (srcV l s).set j (.int v) = srcV l s' := by
  unfold srcSet at h
  split at h
  · rename_i h0; cases h; subst h0; exact ⟨rfl, 1, rfl, rfl⟩
  · split at h
    · rename_i h0; cases h; subst h0; exact ⟨rfl, 2, rfl, rfl⟩
    · split at h
      · rename_i h0; cases h; subst h0; exact ⟨rfl, 3, rfl, rfl⟩
      · split at h
        · rename_i h0; cases h; subst h0; exact ⟨rfl, 4, rfl, rfl⟩
        · cases h
theorem ds_setS {o i e : Expr} {mo mi me : DEx} {tpos pos : Pos} (he : DE X B W e me) (ho : DE X B W o mo) (hi : DE X B W i mi)
    (h1 : ∀ v : Value, assign (o.Subscript i tpos) X.env v = (do let ov ← holding [v] (eval o X.env); let iv ← holding [v, ov] (eval i X.env); standAt tpos; holding [v, ov, iv] (setItem ov iv v); release [v, ov, iv] []) := by intro _; rfl)
    (h2 : swapsWithSole [o.Subscript i tpos] e pos.line X.env = pure false := by rfl) (h3 : swappedStores [o.Subscript i tpos] e X.env = pure none := by rfl) (h4 : (assignEach [o.Subscript i tpos] X.env).map (·.2) = [assign (o.Subscript i tpos) X.env] := by rfl) :
    DS X B W (.Assign [.Subscript o i tpos] e pos) (dSetS me mo mi) := by
  refine ⟨psImp (ps_asg he.run (pg_sub ho.run hi.run set_list h1) h2 h3 h4) fun De σ H ⟨ρ, G, env, μ, R, k⟩ => ?_⟩
  refine rd_thenS (f := fun d μ => bindS env (mo env μ) fun o μ => bindS env (mi env μ) fun i μ => fSetS env (hold d) (hold o) (hold i) μ) R k fun ρ1 G1 H1 μ1 x d s p R1 hx k1 => ?_
  refine rd_thenS (f := fun o μ => bindS env (mi env μ) fun i μ => fSetS env (hold d) (hold o) (hold i) μ) R1 k1 fun ρ2 G2 H2 μ2 y d2 s2 p2 R2 hy k2 => ?_
  refine rd_thenS (f := fun i μ => fSetS env (hold d) (hold d2) (hold i) μ) R2 k2 fun ρ3 G3 H3 μ3 z d3 s3 p3 R3 hz k3 => ?_
  have hx := (hx.mono s2 p2).mono s3 p3
  have hy := hy.mono s3 p3
  generalize hold d = d at *
  generalize hold d2 = d2 at *
  generalize hold d3 = d3 at *
  unfold fSetS at k3
  split at k3
  · split at k3
    · rename_i s hs
      split at k3
      · rename_i s' hset
        obtain ⟨a, rfl, ha⟩ := obj_inv hy
        obtain ⟨a', ea, r⟩ := R3.st.at_ _ _ hs
        rw [ha] at ea; cases ea
        obtain ⟨l, e1, e2⟩ := r
        obtain ⟨hc, j, q1, q2⟩ := srcV_set (l := l) hset
        refine ⟨a, _, _, j, rfl, int_inv hz, e1, q1, ?_⟩
        rw [int_inv hx, q2]
        exact k3 σ ρ3 G3 _ (fun _ _ h => h) (.refl _) (R3.setSrc ha hs e1 e2 hc)
      · exact k3.elim
    · exact k3.elim
  · exact k3.elim
end
/-! ### a drawer is made -/
def adopt (m : Fn) : Fn := fun ds μ => match m ds μ with
  | some (.val (.new [.lst cs, .int a, .int b, .int c, .int d]), μ') => (match asInts cs with
    | some ns => some (.val (.obj μ'.length), μ' ++ [.src ⟨ns, a, b, c, d⟩])
    | none => none)
  | _ => none
section
variable {T : Tx} {ρ : List Addr} {G H : Hp} {μ : Mu}
theorem sp_adopt {n : Nat} {m : Fn} {vs : List V} {Q : VK} {E : XK} (h : spD T n (adopt m) vs H Q E) : spD T n m vs H Q E := by
  obtain ⟨hl, ρ, G, ds, μ, gh, st, rs, k⟩ := h
  refine ⟨hl, ρ, G, ds, μ, gh, st, rs, ?_⟩
  unfold adopt at k
  split at k
  · rename_i cs a b c d μ' hm
    rw [hm]
    split at k
    · rename_i ns hns
      intro v ρ' G' H' ex gh' st' ro
      obtain ⟨p, us, rfl, hp, r, z, gp, pn, h0⟩ := ro
      obtain ⟨v0, r0, rfl, q0, r⟩ := r.inv
      obtain ⟨v1, r1, rfl, q1, r⟩ := r.inv
      obtain ⟨v2, r2, rfl, q2, r⟩ := r.inv
      obtain ⟨v3, r3, rfl, q3, r⟩ := r.inv
      obtain ⟨v4, r4, rfl, q4, r⟩ := r.inv
      have r5 := r.inv0
      subst r5
      unfold Rep at q0 q1 q2 q3 q4
      obtain ⟨l, ws, rfl, gl, zl, rl⟩ := q0
      subst q1 q2 q3 q4
      have ew := asInts_inv hns rl
      subst ew
      have pre : Pre ρ' (ρ' ++ [p]) := fun k x e => by rw [List.getElem?_append_left (List.getElem?_eq_some_iff.mp e).1]; exact e
      refine k (.ref p) (ρ' ++ [p]) G' H' ⟨ex.gg, ex.pre.trans pre, ex.keep, ex.fg, fun x hx n => ?_⟩ gh' ⟨by simp [st'.len], ?_, fun x hx => ?_, fun j mm hj => ?_⟩ ?_
      · rcases List.mem_append.mp hx with hx | hx
        · exact ex.fr x hx n
        · rw [List.mem_singleton.mp hx]; exact h0
      · rw [List.nodup_append]
        exact ⟨st'.nd, by simp, fun x hx y hy e => pn (by rw [List.mem_singleton.mp hy] at e; rw [← e]; exact hx)⟩
      · rcases List.mem_append.mp hx with hx | hx
        · exact st'.off x hx
        · rw [List.mem_singleton.mp hx]; exact gp
      · by_cases hlt : j < μ'.length
        · rw [List.getElem?_append_left hlt] at hj
          obtain ⟨x, e1, e2⟩ := st'.at_ j mm hj
          exact ⟨x, pre _ _ e1, e2⟩
        · have ej : j = μ'.length := by
            have := (List.getElem?_eq_some_iff.mp hj).1
            simp at this; omega
          subst ej
          rw [List.getElem?_append_right (Nat.le_refl _)] at hj
          simp at hj
          subst hj
          exact ⟨p, by rw [← st'.len]; simp, l, hp, gl⟩
      · show Rep _ _ _ _ _
        unfold Rep
        exact ⟨p, rfl, by rw [← st'.len]; simp⟩
    · exact k.elim
  · exact k.elim
end
section
variable {P : Program} {w : World} {K : PySem.W.Frag} {mg : Str → Option Value} {base : Heap} {CX : CXT} {k : Nat} {f : Addr} {fd : FuncData} {ps : List Str} {sp sp' : Sp}
theorem ok_weak (F : FnOk P w K mg base CX k f fd ps sp) (i : ∀ vs H Q E, sp' vs H Q E → sp vs H Q E) : FnOk P w K mg base CX k f fd ps sp' :=
  ⟨fun vs H Q E h => F.len vs H Q E (i _ _ _ _ h), fun A outer s H args us vs Q E a b c d h => F.run A outer s H args us vs Q E a b c d (i _ _ _ _ h)⟩
theorem ok_adopt {n : Nat} {m : Fn} (F : FnOk P w K mg base CX k f fd ps (spD ⟨K, mg⟩ n m)) : FnOk P w K mg base CX k f fd ps (spD ⟨K, mg⟩ n (adopt m)) := ok_weak F fun _ _ _ _ h => sp_adopt h
/-- a def of which nothing is said -/
def noFn : Fn := fun _ _ => none
theorem ok_none (k : Nat) (f : Addr) (fd : FuncData) (ps : List Str) : FnOk P w K mg base CX k f fd ps (spD ⟨K, mg⟩ ps.length noFn) :=
  ⟨fun vs H Q E h => h.1, fun A outer s H args us vs Q E a b c d ⟨_, ρ, G, ds, μ, _, _, _, k⟩ => k.elim⟩
end
end Dv

/-! DvK: defs by name, calls by name; more operators. -/
namespace Dv
open PySem PySem.Spec PyProof.Rows L2
section
variable {X : Cx} {B : Bs} {W : WX}
def fDiv : F2
  | .int i, .int j, μ => if 0 < j ∧ j < 1073741824 then ret (.int (i / j)) μ else none
  | _, _, _ => none
theorem opd_div : OpD (tx X) (rI CDiv fun i j => .int (i / j)) fDiv := by
  intro B W σ env ρ G H μ x y d d' Q R hx hy k
  unfold fDiv at k
  split at k
  · split at k
    · rename_i h0
      exact ⟨_, _, int_inv hx, int_inv hy, h0, k.here R (.ofR rep_int)⟩
    · exact k.elim
  · exact k.elim
def fPow : F2
  | .int i, .int j, μ => if 0 ≤ j ∧ j ≤ 1000000 ∧ i.natAbs < 18446744073709551616 then ret (.int (i ^ j.toNat)) μ else none
  | _, _, _ => none
theorem opd_pow : OpD (tx X) (rI CPow fun i j => .int (i ^ j.toNat)) fPow := by
  intro B W σ env ρ G H μ x y d d' Q R hx hy k
  unfold fPow at k
  split at k
  · split at k
    · rename_i h0
      exact ⟨_, _, int_inv hx, int_inv hy, ⟨h0.1, h0.2.1, by have := h0.2.2; simpa using this⟩, k.here R (.ofR rep_int)⟩
    · exact k.elim
  · exact k.elim
theorem unitsOk5 {k : Nat} {A : Around} (h : Room k A) : A.units + 65 < cLine := by have := h.un; omega
theorem unitsOk {k : Nat} {A : Around} (h : Room k A) : A.units + 64 < cLine := by have := h.un; omega
end
section
variable {P : Program} {w : World} {K : PySem.W.Frag} {mg : Str → Option Value} {base : Heap}
theorem takes_cx {N : List Str} {qual : Str} {scope : Scope} {f : Addr} {cdv : Value} {A : Around} {outer : List Env} {s : Shared} {H : Hp} {E : XK} :
    Takes (cxOf (L2.CX P w) P w K mg base N qual scope f cdv A outer s H E) (fun cls d _ H => E cls d H) := takes_of rfl rfl rfl rfl
/-- a def, by its name: what it does, how it takes its arguments -/
structure Callee (P : Program) (w : World) (K : PySem.W.Frag) (mg : Str → Option Value) (base : Heap) (x : Str) (ps : List Str) (kb : List (Nat × List Str)) (k : Nat) (m : Fn) : Prop where
  ex : ∃ (f : Addr) (fd : FuncData), mg x = some (.ref f) ∧ PySem.W.keepIn K (.ref f) = true ∧ Binds K fd ps [] ∧ (∀ q ∈ kb, KBn K fd ps q.1 q.2 (fun us ws => us ++ ws) (fun us ws => us ++ ws)) ∧ FnOk P w K mg base (L2.CX P w) k f fd ps (spD ⟨K, mg⟩ ps.length m)
theorem vals_append {vs : List V} {us : List Value} {zs : List V} {ws : List Value} (h : Vals vs us) (g : Vals zs ws) : Vals (vs ++ zs) (us ++ ws) := by
  induction h with
  | nil => exact g
  | cons a _ ih => exact .cons a ih
theorem kbn_of {x qual : Str} {params : Arguments} {body : List Stmt} {scope : Scope} {f : Addr} {fd : FuncData} {ps : List Str} {n : Nat} {ks : List Str} (F : FunD K x qual params body scope [] [] f fd)
    (h : ∀ (kV doc pm : Value) (an : Option Addr) (cdv ct : Value) (us ws : List Value), us.length = n → ws.length = ks.length → bindArgs (PySem.W.fnOf x qual params body scope .none kV doc pm an cdv ct) ⟨us, ks.zip ws⟩ = pure (ps.zip (us ++ ws))) :
    KBn K fd ps n ks (fun us ws => us ++ ws) (fun us ws => us ++ ws) := by
  obtain ⟨oc, od, dV, kV, doc, pm, an, cdv, ct, osl, rfl, _, _, hd, _⟩ := F.ex
  rcases hd with ⟨_, rfl⟩ | ⟨h0, _⟩
  · exact ⟨fun s us ws _ h1 h2 => BindsTo.of_eq (h kV doc pm an cdv ct us ws h1 h2), vals_append⟩
  · exact absurd rfl h0
theorem callee {x qual y : Str} {params : Arguments} {body : List Stmt} {scope : Scope} {f : Addr} {fd : FuncData} {N ps : List Str} {kb : List (Nat × List Str)} {k : Nat} {m : DSt} (hm : mg y = some (.ref f)) (F : FunD K x qual params body scope [] [] f fd) (S : FnScope N ps scope)
    (hb : ∀ (kV doc pm : Value) (an : Option Addr) (cdv ct : Value) (us : List Value), us.length = ps.length → bindArgs (PySem.W.fnOf x qual params body scope .none kV doc pm an cdv ct) ⟨us, []⟩ = pure (ps.zip us))
    (hkb : ∀ q ∈ kb, ∀ (kV doc pm : Value) (an : Option Addr) (cdv ct : Value) (us ws : List Value), us.length = q.1 → ws.length = q.2.length → bindArgs (PySem.W.fnOf x qual params body scope .none kV doc pm an cdv ct) ⟨us, q.2.zip ws⟩ = pure (ps.zip (us ++ ws)))
    (hbody : ∀ (cdv : Value) (A : Around) (outer : List Env) (s : Shared) (H : Hp) (E : XK) (B : Bs), Room k (A.deeper (envOfC qual scope s.heap.objs.size f cdv)) → DSs (cxOf (L2.CX P w) P w K mg base N qual scope f cdv A outer s H E) B (fun cls d _ H => E cls d H) body m) :
    Callee P w K mg base y ps kb (k + 1) (cleanD (defD N.length m)) :=
  ⟨f, fd, hm, F.kp, F.bindsN hb, fun q hq => kbn_of F (hkb q hq), def_ok F S hbody⟩
theorem Callee.adopt {y : Str} {ps : List Str} {kb : List (Nat × List Str)} {k : Nat} {m : Fn} (C : Callee P w K mg base y ps kb k m) : Callee P w K mg base y ps kb k (adopt m) := by
  obtain ⟨f, fd, h1, h2, h3, h4, h5⟩ := C.ex
  exact ⟨f, fd, h1, h2, h3, h4, ok_adopt h5⟩
/-- nothing is said -/
theorem callee0 {x qual y : Str} {params : Arguments} {body : List Stmt} {scope : Scope} {f : Addr} {fd : FuncData} {ps : List Str} {kb : List (Nat × List Str)} {k : Nat} (hm : mg y = some (.ref f)) (F : FunD K x qual params body scope [] [] f fd)
    (hb : ∀ (kV doc pm : Value) (an : Option Addr) (cdv ct : Value) (us : List Value), us.length = ps.length → bindArgs (PySem.W.fnOf x qual params body scope .none kV doc pm an cdv ct) ⟨us, []⟩ = pure (ps.zip us))
    (hkb : ∀ q ∈ kb, ∀ (kV doc pm : Value) (an : Option Addr) (cdv ct : Value) (us ws : List Value), us.length = q.1 → ws.length = q.2.length → bindArgs (PySem.W.fnOf x qual params body scope .none kV doc pm an cdv ct) ⟨us, q.2.zip ws⟩ = pure (ps.zip (us ++ ws))) :
    Callee P w K mg base y ps kb k noFn :=
  ⟨f, fd, hm, F.kp, F.bindsN hb, fun q hq => kbn_of F (hkb q hq), ok_none k f fd ps⟩
end
section
variable {X : Cx} {B : Bs} {W : WX}
theorem de_callN {k n : Nat} {ps : List Str} {kb : List (Nat × List Str)} {m : Fn} {x : Str} {p pos : Pos} {e : Expr} {es : List Expr} {na : DEnv → Mu → Res (List D)} (C : Callee X.prog X.w X.K X.mg X.base x ps kb k m) (hr : Room k X.A) (tk : Takes X W) (hg : Gl X x) (ha : DA X B W (e :: es) na) (hn : ps.length = n := by rfl)
    (hdb : (x == ("__debug__" : Str)) = false := by decide) (he : starEach (e :: es) X.env = (false, eval e X.env) :: starEach es X.env := by rfl) (hpl : (backTo pos (starEach es X.env)).any (·.1) = false := by rfl) :
    DE X B W (.Call (.Name x p) (e :: es) [] pos) (dCall (fCall n m) na) := by
  subst hn
  obtain ⟨f, fd, h1, h2, h3, h4, h5⟩ := C.ex
  exact de_call (ds := []) (dvs := []) h5 hr tk hg h1 h2 h3 ha hdb he hpl
theorem de_callKN {k n0 n l : Nat} {ps ks : List Str} {kb : List (Nat × List Str)} {m : Fn} {x : Str} {p pos : Pos} {e : Expr} {es : List Expr} {kws : List Keyword} {na nk : DEnv → Mu → Res (List D)} (C : Callee X.prog X.w X.K X.mg X.base x ps kb k m) (hr : Room k X.A) (tk : Takes X W) (hg : Gl X x)
    (hb : (n0, ks) ∈ kb) (ha : DA X B W (e :: es) na) (hkw : DK X B W kws nk) (hn : ps.length = n := by rfl) (hl : ks.length = l := by rfl) (hall : (backToKw pos (keywordEach kws X.env)).all (·.1.isSome) = true := by rfl) (hks : (backToKw pos (keywordEach kws X.env)).filterMap (·.1) = ks := by rfl)
    (hdb : (x == ("__debug__" : Str)) = false := by decide) (he : starEach (e :: es) X.env = (false, eval e X.env) :: starEach es X.env := by rfl)
    (hpl : ((backTo pos (starEach (e :: es) X.env)).any (·.1) || (backToKw pos (keywordEach kws X.env)).any (·.1.isNone)) = false := by rfl) :
    DE X B W (.Call (.Name x p) (e :: es) kws pos) (dCallK (fCall n m) n0 l na nk) := by
  subst hn hl
  obtain ⟨f, fd, h1, h2, h3, h4, h5⟩ := C.ex
  exact de_callK h5 hr tk hg h1 h2 (h4 _ hb) ha hkw hall hks hdb he hpl
end
end Dv

/-! DvL: short forms of the rules, for printed derivations. -/
namespace Dv
open PySem PySem.Spec PyProof.Rows L2
section
variable {X : Cx} {B : Bs} {W : WX}
theorem vv (i : Nat) {x : Str} {pos : Pos} (h : X.N[i]? = some x := by rfl) (h2 : Vis X.env.scope x := by first | exact .inl rfl | exact .inr (.inl rfl) | exact .inr (.inr rfl) | rfl | decide +kernel) (h3 : (x == Str.ofString "__debug__") = false := by rfl) (h4 : (x == Str.ofString "__classdict__") = false := by rfl) : DE X B W (.Name x pos) (dVar i) := de_var (pv i h h2 h3 h4)
theorem boot_len' : bootBuiltins "len" = some (.builtin "len") := by kernel_rfl
theorem len_ {p pos : Pos} {e : Expr} {es : List Expr} {n : DEnv → Mu → Res (List D)} (hm : X.mg "len" = none) (ha : DA X B W (e :: es) n) (hg : Gl X "len" := by rfl) (he : starEach (e :: es) X.env = (false, eval e X.env) :: starEach es X.env := by rfl) (hpl : (backTo pos (starEach es X.env)).any (·.1) = false := by rfl) : DE X B W (.Call (.Name "len" p) (e :: es) [] pos) (dCall fLen n) := de_callB (call_len) ca_len hg hm boot_len' ha (by decide) (by decide) he hpl
theorem boot_sum' : bootBuiltins "sum" = some (.builtin "sum") := by kernel_rfl
theorem sum_ {p pos : Pos} {e : Expr} {es : List Expr} {n : DEnv → Mu → Res (List D)} (hm : X.mg "sum" = none) (ha : DA X B W (e :: es) n) (hg : Gl X "sum" := by rfl) (hc : X.calm = true := by rfl) (he : starEach (e :: es) X.env = (false, eval e X.env) :: starEach es X.env := by rfl) (hpl : (backTo pos (starEach es X.env)).any (·.1) = false := by rfl) : DE X B W (.Call (.Name "sum" p) (e :: es) [] pos) (dCall fSum n) := de_callB (cr_sum hc) ca_sum hg hm boot_sum' ha (by decide) (by decide) he hpl
theorem boot_all' : bootBuiltins "all" = some (.builtin "all") := by kernel_rfl
theorem all_ {p pos : Pos} {e : Expr} {es : List Expr} {n : DEnv → Mu → Res (List D)} (hm : X.mg "all" = none) (ha : DA X B W (e :: es) n) (hg : Gl X "all" := by rfl) (hc : X.calm = true := by rfl) (he : starEach (e :: es) X.env = (false, eval e X.env) :: starEach es X.env := by rfl) (hpl : (backTo pos (starEach es X.env)).any (·.1) = false := by rfl) : DE X B W (.Call (.Name "all" p) (e :: es) [] pos) (dCall fAll n) := de_callB (cr_all hc) ca_all hg hm boot_all' ha (by decide) (by decide) he hpl
theorem boot_any' : bootBuiltins "any" = some (.builtin "any") := by kernel_rfl
theorem any_ {p pos : Pos} {e : Expr} {es : List Expr} {n : DEnv → Mu → Res (List D)} (hm : X.mg "any" = none) (ha : DA X B W (e :: es) n) (hg : Gl X "any" := by rfl) (hc : X.calm = true := by rfl) (he : starEach (e :: es) X.env = (false, eval e X.env) :: starEach es X.env := by rfl) (hpl : (backTo pos (starEach es X.env)).any (·.1) = false := by rfl) : DE X B W (.Call (.Name "any" p) (e :: es) [] pos) (dCall fAny n) := de_callB (cr_any hc) ca_any hg hm boot_any' ha (by decide) (by decide) he hpl
theorem boot_int' : bootBuiltins "int" = some (.type "int") := by kernel_rfl
theorem int_ {p pos : Pos} {e : Expr} {es : List Expr} {n : DEnv → Mu → Res (List D)} (hm : X.mg "int" = none) (ha : DA X B W (e :: es) n) (hg : Gl X "int" := by rfl) (he : starEach (e :: es) X.env = (false, eval e X.env) :: starEach es X.env := by rfl) (hpl : (backTo pos (starEach es X.env)).any (·.1) = false := by rfl) : DE X B W (.Call (.Name "int" p) (e :: es) [] pos) (dCall fInt n) := de_callTy (call_int1) ca_int hg hm boot_int' ha (by decide) (by decide) he hpl
theorem boot_list' : bootBuiltins "list" = some (.type "list") := by kernel_rfl
theorem list_ {p pos : Pos} {e : Expr} {es : List Expr} {n : DEnv → Mu → Res (List D)} (hm : X.mg "list" = none) (ha : DA X B W (e :: es) n) (hg : Gl X "list" := by rfl) (he : starEach (e :: es) X.env = (false, eval e X.env) :: starEach es X.env := by rfl) (hpl : (backTo pos (starEach es X.env)).any (·.1) = false := by rfl) : DE X B W (.Call (.Name "list" p) (e :: es) [] pos) (dCall fList n) := de_callTy (call_list_of) ca_list hg hm boot_list' ha (by decide) (by decide) he hpl
theorem boot_tuple' : bootBuiltins "tuple" = some (.type "tuple") := by kernel_rfl
theorem tuple_ {p pos : Pos} {e : Expr} {es : List Expr} {n : DEnv → Mu → Res (List D)} (hm : X.mg "tuple" = none) (ha : DA X B W (e :: es) n) (hg : Gl X "tuple" := by rfl) (he : starEach (e :: es) X.env = (false, eval e X.env) :: starEach es X.env := by rfl) (hpl : (backTo pos (starEach es X.env)).any (·.1) = false := by rfl) : DE X B W (.Call (.Name "tuple" p) (e :: es) [] pos) (dCall fTuple n) := de_callTy (call_tuple_of) ca_tuple hg hm boot_tuple' ha (by decide) (by decide) he hpl
theorem boot_isi' : bootBuiltins "isinstance" = some (.builtin "isinstance") := by kernel_rfl
theorem isi_ {p pos : Pos} {e : Expr} {es : List Expr} {n : DEnv → Mu → Res (List D)} (hm : X.mg "isinstance" = none) (ha : DA X B W (e :: es) n) (hg : Gl X "isinstance" := by rfl) (he : starEach (e :: es) X.env = (false, eval e X.env) :: starEach es X.env := by rfl) (hpl : (backTo pos (starEach es X.env)).any (·.1) = false := by rfl) : DE X B W (.Call (.Name "isinstance" p) (e :: es) [] pos) (dCall fIsi n) := de_callB (call_isi.or (call_isiT.or call_isiK)) ca_isi hg hm boot_isi' ha (by decide) (by decide) he hpl
theorem ty_int {p : Pos} (hm : X.mg "int" = none) (hg : Gl X "int" := by rfl) : DE X B W (.Name "int" p) (dC (.ty "int")) := de_c (pe_bltn hg hm (u := .type "int") (by kernel_rfl) (show RelV (.ty "int") (.type "int") from rfl)) fun _ _ => rep_ty
theorem ty_bool {p : Pos} (hm : X.mg "bool" = none) (hg : Gl X "bool" := by rfl) : DE X B W (.Name "bool" p) (dC (.ty "bool")) := de_c (pe_bltn hg hm (u := .type "bool") (by kernel_rfl) (show RelV (.ty "bool") (.type "bool") from rfl)) fun _ _ => rep_ty
theorem ty_str {p : Pos} (hm : X.mg "str" = none) (hg : Gl X "str" := by rfl) : DE X B W (.Name "str" p) (dC (.ty "str")) := de_c (pe_bltn hg hm (u := .type "str") (by kernel_rfl) (show RelV (.ty "str") (.type "str") from rfl)) fun _ _ => rep_ty
theorem ty_tuple {p : Pos} (hm : X.mg "tuple" = none) (hg : Gl X "tuple" := by rfl) : DE X B W (.Name "tuple" p) (dC (.ty "tuple")) := de_c (pe_bltn hg hm (u := .type "tuple") (by kernel_rfl) (show RelV (.ty "tuple") (.type "tuple") from rfl)) fun _ _ => rep_ty
theorem ty_list {p : Pos} (hm : X.mg "list" = none) (hg : Gl X "list" := by rfl) : DE X B W (.Name "list" p) (dC (.ty "list")) := de_c (pe_bltn hg hm (u := .type "list") (by kernel_rfl) (show RelV (.ty "list") (.type "list") from rfl)) fun _ _ => rep_ty
theorem ix_ {a b : Expr} {ma mb : DEx} {pos : Pos} (ha : DE X B W a ma) (hb : DE X B W b mb) (hs : PlainIx b := by exact fun _ _ => rfl) : DE X B W (.Subscript a b pos) (dBin fIxS ma mb) := de_ix ix_seq opd_ixS ha hb hs
end
end Dv

/-! DvM: the law's end. -/
namespace Dv
open PySem PySem.Spec PyProof.Rows L2
section
variable {P : Program} {w : World} {K : PySem.W.Frag} {mg : Str → Option Value} {base : Heap} {k : Nat} {f : Addr} {fd : FuncData} {ps : List Str} {sp : Sp}
theorem ok_calm (F : FnOk P w K mg base (L2.CX P w) k f fd ps sp) : FnOk P w K mg base CX0 k f fd ps (fun vs H Q _ => sp vs H Q fun _ _ _ => False) := by
  refine ⟨fun vs H Q E h => F.len vs H Q _ h, fun A outer s H args us vs Q E a b c d h => codeAny_mono (F.run A outer s H args us vs Q _ a b c d h) fun r s' hr => ?_⟩
  cases r with
  | error e =>
    obtain ⟨_, _, _, _, _, _, _, _, _, _, _, _, z⟩ := hr
    exact z.elim
  | ok fl =>
    cases fl with
    | ret u => exact hr
    | next => exact hr
    | brk => exact hr
    | cont => exact hr
/-- the law is called -/
theorem sp_start {m : Fn} {μ' : Mu} {H : Hp} {a : Addr} {ns : List Int} (hm : m [.scr (ns.map D.int)] [] = some (.val (.bl true), μ')) (hl : ns.length ≤ 63) (hS : SqL K H a (ns.map V.int)) :
    spD ⟨K, mg⟩ 1 m [.ref a] H (fun v _ => v = .bl true) (fun _ _ _ => False) := by
  refine ⟨rfl, [], H, [.scr (ns.map D.int)], [], fun _ _ h => h, ⟨rfl, List.nodup_nil, fun _ h => absurd h List.not_mem_nil, fun k m h => by simp at h⟩, .cons ?_ .nil, ?_⟩
  · unfold Rep
    exact ⟨a, _, rfl, hS, by rw [List.length_map]; exact Nat.le_trans hl (by decide), reps_ints ns⟩
  · rw [hm]
    intro v ρ' G' H' _ _ _ h
    have h : Rep ⟨K, mg⟩ ρ' G' v (.bl true) := h
    unfold Rep at h; exact h
end
end Dv

/-! DvP: meanings evaluated, by plain lemmas. -/
namespace Dv
open PySem PySem.Spec PyProof.Rows L2
theorem seq_nx {a b : DSt} {env env' : DEnv} {μ μ' : Mu} {r : RS} (h : a env μ = some (.val .nx, env', μ')) (g : b env' μ' = r) : dSeq a b env μ = r := by
  unfold dSeq; rw [h]; exact g
theorem seq_ret {a b : DSt} {env env' : DEnv} {μ μ' : Mu} {d : D} (h : a env μ = some (.val (.ret d), env', μ')) : dSeq a b env μ = some (.val (.ret d), env', μ') := by
  unfold dSeq; rw [h]
theorem ifs_t {t : DEnv → Mu → Res Bool} {a b : DSt} {env : DEnv} {μ μ' : Mu} {r : RS} (h : t env μ = some (.val true, μ')) (g : a env μ' = r) : dIfS t a b env μ = r := by
  unfold dIfS bindS; rw [h]; exact g
theorem ifs_f {t : DEnv → Mu → Res Bool} {a b : DSt} {env : DEnv} {μ μ' : Mu} {r : RS} (h : t env μ = some (.val false, μ')) (g : b env μ' = r) : dIfS t a b env μ = r := by
  unfold dIfS bindS; rw [h]; exact g
theorem asg_ {m : DEx} {t : DTg} {env env' : DEnv} {μ μ' : Mu} {d : D} (h : m env μ = some (.val d, μ')) (n : nobor d = true) (g : t env (hold d) = some env') : dAsg m t env μ = some (.val .nx, env', μ') := by
  unfold dAsg bindS; rw [h]; simp only [n, g, if_true]
theorem ret_ {m : DEx} {env : DEnv} {μ μ' : Mu} {d : D} (h : m env μ = some (.val d, μ')) : dRet m env μ = some (.val (.ret (unbor d)), env, μ') := by
  unfold dRet bindS; rw [h]
theorem clean_ {m : Fn} {ds : List D} {μ μ' : Mu} {d : D} (h : m ds μ = some (.val d, μ')) (n : nobor d = true) : cleanD m ds μ = some (.val d, μ') := by
  unfold cleanD; rw [h]; simp only [n, if_true]
theorem def_ret {n : Nat} {b : DSt} {ds : List D} {env : DEnv} {μ μ' : Mu} {d : D} (h : b (envD n ds) μ = some (.val (.ret d), env, μ')) (hn : nobor d = true) : cleanD (defD n b) ds μ = some (.val d, μ') :=
  clean_ (by unfold defD; rw [h]; rfl) hn
theorem call_ {n : Nat} {m : Fn} {ds : List D} {μ : Mu} {r : Res D} (h : m ds μ = r) (hl : ds.length = n := by rfl) (ha : ds.all nobor = true := by rfl) : fCall n m ds μ = r := by
  unfold fCall; rw [if_pos ⟨hl, ha⟩]; exact h
/-! ### comprehensions -/
theorem lc_map {α : Type} {tg : DTg} {tt : DEnv → Mu → Res Bool} {el : DEx} {env : DEnv} {μ : Mu} (f g : α → D) : ∀ (l : List α), (∀ a ∈ l, ∃ env1, tg env (f a) = some env1 ∧ tt env1 μ = some (.val true, μ) ∧ el env1 μ = some (.val (g a), μ) ∧ nobor (g a) = true) →
    lcRun tg tt el env (l.map f) μ = some (l.map fun a => hold (g a), μ)
  | [], _ => rfl
  | a :: l, h => by
    obtain ⟨env1, h1, h2, h3, h4⟩ := h a List.mem_cons_self
    simp only [List.map_cons]
    unfold lcRun
    simp only [h1, h2, h3, h4, if_true, lc_map f g l fun b hb => h b (List.mem_cons_of_mem _ hb)]
/-- tests that may say no -/
theorem lc_filter {α : Type} {tg : DTg} {tt : DEnv → Mu → Res Bool} {el : DEx} {env : DEnv} {μ : Mu} (f g : α → D) (c : α → Bool) : ∀ (l : List α), (∀ a ∈ l, ∃ env1, tg env (f a) = some env1 ∧ tt env1 μ = some (.val (c a), μ) ∧ el env1 μ = some (.val (g a), μ) ∧ nobor (g a) = true) →
    lcRun tg tt el env (l.map f) μ = some ((l.filter c).map fun a => hold (g a), μ)
  | [], _ => rfl
  | a :: l, h => by
    obtain ⟨env1, h1, h2, h3, h4⟩ := h a List.mem_cons_self
    have ih := lc_filter f g c l fun b hb => h b (List.mem_cons_of_mem _ hb)
    simp only [List.map_cons]
    unfold lcRun
    cases hc : c a with
    | true =>
      rw [hc] at h2
      simp only [h1, h2, h3, h4, if_true, ih, List.filter_cons_of_pos hc, List.map_cons]
    | false =>
      rw [hc] at h2
      simp only [h1, h2, ih, List.filter_cons_of_neg (by simp [hc] : ¬ c a = true)]
/-- each turn may change the store -/
theorem lc_inv {tg : DTg} {tt : DEnv → Mu → Res Bool} {el : DEx} {env : DEnv} (I : Mu → Prop) (R : D → Prop) : ∀ (l : List D), (∀ d ∈ l, ∀ μ, I μ → ∃ env1 x μ', tg env d = some env1 ∧ tt env1 μ = some (.val true, μ) ∧ el env1 μ = some (.val x, μ') ∧ nobor x = true ∧ I μ' ∧ R (hold x)) →
    ∀ μ, I μ → ∃ xs μ', lcRun tg tt el env l μ = some (xs, μ') ∧ xs.length = l.length ∧ I μ' ∧ ∀ x ∈ xs, R x
  | [], _, μ, h => ⟨[], μ, rfl, rfl, h, fun _ hx => absurd hx List.not_mem_nil⟩
  | d :: l, h, μ, hI => by
    obtain ⟨env1, x, μ1, h1, h2, h3, h4, h5, h6⟩ := h d List.mem_cons_self μ hI
    obtain ⟨xs, μ2, e1, e2, e3, e4⟩ := lc_inv I R l (fun b hb => h b (List.mem_cons_of_mem _ hb)) μ1 h5
    refine ⟨hold x :: xs, μ2, ?_, by simp [e2], e3, fun y hy => ?_⟩
    · unfold lcRun
      simp only [h1, h2, h3, h4, if_true, e1]
    · rcases List.mem_cons.mp hy with rfl | hy
      · exact h6
      · exact e4 y hy
theorem dLc_of {it : DEnv → Mu → Res (List D)} {own : List Nat} {tg : DTg} {tt : DEnv → Mu → Res Bool} {el : DEx} {env : DEnv} {μ μ1 μ2 : Mu} {ds l : List D} (no : noOwn env own = true) (hi : it env μ = some (.val ds, μ1)) (hr : lcRun tg tt el (wipeD env own) ds μ1 = some (l, μ2)) : dLc it own tg tt el env μ = some (.val (.new l), μ2) := by
  unfold dLc
  rw [if_pos no, hi]
  simp only [bindR, lcFin, hr]
/-- every turn goes on -/
theorem for_nx {tg : DTg} {body : DSt} (I : DEnv → Mu → Prop) : ∀ (l : List D), (∀ d ∈ l, ∀ env μ, I env μ → ∃ env1 env2 μ2, tg env d = some env1 ∧ body env1 μ = some (.val .nx, env2, μ2) ∧ I env2 μ2) →
    ∀ env μ, I env μ → ∃ env' μ', forRun tg body l env μ = some (.val .nx, env', μ') ∧ I env' μ'
  | [], _, env, μ, h => ⟨env, μ, rfl, h⟩
  | d :: l, h, env, μ, hI => by
    obtain ⟨env1, env2, μ2, h1, h2, h3⟩ := h d List.mem_cons_self env μ hI
    obtain ⟨env3, μ3, e1, e2⟩ := for_nx I l (fun b hb => h b (List.mem_cons_of_mem _ hb)) env2 μ2 h3
    refine ⟨env3, μ3, ?_, e2⟩
    unfold forRun
    simp only [h1, h2, e1]
theorem for_of {it : DEnv → Mu → Res (List D)} {tg : DTg} {b : DSt} {env : DEnv} {μ μ1 : Mu} {ds : List D} {r : RS} (hi : it env μ = some (.val ds, μ1)) (hr : forRun tg b ds env μ1 = r) : dFor it tg b env μ = r := by
  unfold dFor bindS; rw [hi]; exact hr
/-! ### rows of intsD -/
abbrev intsD (l : List Int) : List D := l.map D.int
abbrev tupI (l : List Int) : D := .tup (intsD l)
abbrev lstI (l : List Int) : D := .lst (intsD l)
theorem zip_ints (xs ys : List Int) : List.zipWith pairD (intsD xs) (intsD ys) = (xs.zip ys).map fun q => pairD (.int q.1) (.int q.2) := by
  rw [List.zipWith_map]
  induction xs generalizing ys with
  | nil => rfl
  | cons x xs ih => cases ys with
    | nil => rfl
    | cons y ys => simp [ih]
theorem asInts_intsD : ∀ l : List Int, asInts (intsD l) = some l
  | [] => rfl
  | i :: l => by
    have := asInts_intsD l
    show asInts (D.int i :: intsD l) = _
    unfold asInts
    rw [this]; rfl
theorem plainD_int (n : Nat) (i : Int) : plainD n (.int i) = true := by cases n <;> rfl
theorem plain_ints (n : Nat) (l : List Int) : (intsD l).all (plainD n) = true := by
  rw [List.all_eq_true]; intro d hd
  obtain ⟨i, _, rfl⟩ := List.mem_map.mp hd
  exact plainD_int n i
theorem nobor_ints (l : List Int) : (intsD l).all nobor = true := by
  rw [List.all_eq_true]; intro d hd
  obtain ⟨i, _, rfl⟩ := List.mem_map.mp hd
  rfl
end Dv

/-! DvQ: what the laws' helpers mean, and what that comes to. -/
namespace Dv
open PySem PySem.Spec PyProof.Rows L2
def bDraw : DSt := (dSeq (dIfS (dAndT (dTest (dBin fEq (dBin fIxS (dVar 0) (dC (.int 2))) (dC (.int 0)))) (dTest (dBin (fCmp fun i j => decide (i < j)) (dBin fIxS (dVar 0) (dC (.int 1))) (dCall fLen (dCons (dBin fIxS (dVar 0) (dC (.int 0))) dNil))))) (dSeq (dAsg (dBin fIxS (dBin fIxS (dVar 0) (dC (.int 0))) (dBin fIxS (dVar 0) (dC (.int 1)))) (tName 2))
  (dSeq (dSetS (dBin fAdd (dBin fIxS (dVar 0) (dC (.int 1))) (dC (.int 1))) (dVar 0) (dC (.int 1)))
  (dIfS (dTest (dBin (fCmp fun i j => decide (j ≤ i)) (dVar 2) (dBin fPow (dC (.int 10)) (dC (.int 18))))) (dSetS (dVar 2) (dVar 0) (dC (.int 2))) (dSetS (dBin fMod (dCall fInt (dCons (dBin fAdd (dBin fAdd (dBin fMul (dBin fIxS (dVar 0) (dC (.int 3))) (dC (.int 45053))) (dBin fMul (dBin fMod (dCall fInt (dCons (dVar 2) dNil)) (dC (.int 2147483563))) (dC (.int 50033)))) (dC (.int 67))) dNil)) (dC (.int 2147483587))) (dVar 0) (dC (.int 3)))))) dSkip)
  (dSeq (dIfS (dTest (dBin (fCmp fun i j => decide (j < i)) (dBin fIxS (dVar 0) (dC (.int 2))) (dC (.int 0)))) (dSeq (dAsg (dBin fMod (dCall fInt (dCons (dBin fIxS (dVar 0) (dC (.int 2))) dNil)) (dVar 1)) (tName 3))
  (dSeq (dSetS (dBin fDiv (dBin fIxS (dVar 0) (dC (.int 2))) (dVar 1)) (dVar 0) (dC (.int 2)))
  (dRet (dVar 3)))) dSkip)
  (dSeq (dSetS (dBin fAdd (dBin fIxS (dVar 0) (dC (.int 4))) (dC (.int 1))) (dVar 0) (dC (.int 4)))
  (dSeq (dAsg (dBin fIxS (dVar 0) (dC (.int 3))) (tName 4))
  (dSeq (dSetS (dBin fMod (dCall fInt (dCons (dBin fAdd (dBin fAdd (dBin fAdd (dBin fMul (dVar 4) (dVar 4)) (dBin fMul (dVar 4) (dC (.int 33023)))) (dBin fMul (dBin fIxS (dVar 0) (dC (.int 4))) (dC (.int 1299709)))) (dC (.int 85571))) dNil)) (dC (.int 2147483587))) (dVar 0) (dC (.int 3)))
  (dRet (dBin fMod (dCall fInt (dCons (dBin fAdd (dBin fDiv (dBin fIxS (dVar 0) (dC (.int 3))) (dC (.int 71))) (dBin fMul (dBin fMod (dCall fInt (dCons (dBin fIxS (dVar 0) (dC (.int 3))) dNil)) (dC (.int 7907))) (dC (.int 59)))) dNil)) (dVar 1))))))))
def mDraw : Fn := cleanD (defD 5 bDraw)
def bOf : DSt := (dRet (dBin fIxS (dVar 1) (dCall (fCall 2 mDraw) (dCons (dVar 0) (dCons (dCall fLen (dCons (dVar 1) dNil)) dNil)))))
def mOf : Fn := cleanD (defD 2 bOf)
def bRow : DSt := (dRet (dCall fTuple (dCons (dLc (dArg fRange1 (dCons (dVar 2) dNil)) [3] (tName 3) dYes (dCall (fCall 2 mDraw) (dCons (dVar 0) (dCons (dVar 1) dNil)))) dNil)))
def mRow : Fn := cleanD (defD 4 bRow)
def bSum : DSt := (dRet (dCall fTuple (dCons (dLc (dArg fZip (dCons (dVar 1) (dCons (dVar 2) dNil))) [4, 5] (Dv.tTup 2 (tsCons (tName 4) (tsCons (tName 5) tsNil))) dYes (dBin fMod (dCall fInt (dCons (dBin fAdd (dVar 4) (dBin fMul (dVar 3) (dVar 5))) dNil)) (dVar 0))) dNil)))
def mSum : Fn := cleanD (defD 6 bSum)
def bLead : DSt := (dSeq (dAsg (dLc (dArg fRange1 (dCons (dCall fLen (dCons (dVar 0) dNil)) dNil)) [2] (tName 2) (dTest (dBin fNe (dBin fIxS (dVar 0) (dVar 2)) (dC (.int 0)))) (dVar 2)) (tName 1))
  (dRet (dIf (dTest (dBin fNe (dVar 1) (dLst dNil))) (dBin fIxS (dVar 1) (dC (.int 0))) (dBin fSub (dC (.int 0)) (dC (.int 1))))))
def mLead : Fn := cleanD (defD 3 bLead)
def bLike (f : Fn) : DSt := (dSeq (dIfS (dTest (dCall fIsi (dCons (dVar 1) (dCons (dTup (dCons (dC (.ty "list")) (dCons (dC (.ty "tuple")) dNil))) dNil)))) (dSeq (dIfS (dTest (dBin fNe (dCall fIsi (dCons (dVar 0) (dCons (dC (.ty "list")) dNil))) (dCall fIsi (dCons (dVar 1) (dCons (dC (.ty "list")) dNil))))) (dRet (dC (.bl false))) dSkip)
  (dSeq (dIfS (dTest (dBin fNe (dCall fIsi (dCons (dVar 0) (dCons (dC (.ty "tuple")) dNil))) (dCall fIsi (dCons (dVar 1) (dCons (dC (.ty "tuple")) dNil))))) (dRet (dC (.bl false))) dSkip)
  (dRet (dAndV (dBin fEq (dCall fLen (dCons (dVar 0) dNil)) (dCall fLen (dCons (dVar 1) dNil))) (dCall fAll (dCons (dLc (dArg fZip (dCons (dVar 0) (dCons (dVar 1) dNil))) [2, 3] (Dv.tTup 2 (tsCons (tName 2) (tsCons (tName 3) tsNil))) dYes (dCall (fCall 2 f) (dCons (dVar 2) (dCons (dVar 3) dNil)))) dNil)))))) dSkip)
  (dSeq (dIfS (dOrT (dTest (dBin (fIs false) (dVar 1) (dC .non))) (dTest (dBin (fIs false) (dVar 0) (dC .non)))) (dRet (dAndV (dBin (fIs false) (dVar 1) (dC .non)) (dBin (fIs false) (dVar 0) (dC .non)))) dSkip)
  (dSeq (dIfS (dOrT (dTest (dBin fNe (dCall fIsi (dCons (dVar 0) (dCons (dC (.ty "bool")) dNil))) (dCall fIsi (dCons (dVar 1) (dCons (dC (.ty "bool")) dNil))))) (dTest (dBin fNe (dCall fIsi (dCons (dVar 0) (dCons (dC (.ty "int")) dNil))) (dCall fIsi (dCons (dVar 1) (dCons (dC (.ty "int")) dNil)))))) (dRet (dC (.bl false))) dSkip)
  (dRet (dAndV (dBin fEq (dCall fIsi (dCons (dVar 0) (dCons (dC (.ty "str")) dNil))) (dCall fIsi (dCons (dVar 1) (dCons (dC (.ty "str")) dNil)))) (dBin fEq (dVar 0) (dVar 1)))))))
def mLike : Nat → Fn
  | 0 => noFn
  | n + 1 => cleanD (defD 4 (bLike (mLike n)))
def bAdded : DSt := (dRet (dCall fTuple (dCons (dLc (dArg fZip (dCons (dVar 0) (dCons (dVar 1) dNil))) [3, 4] (Dv.tTup 2 (tsCons (tName 3) (tsCons (tName 4) tsNil))) dYes (dBin fMod (dBin fAdd (dVar 3) (dVar 4)) (dVar 2))) dNil)))
def mAdded : Fn := cleanD (defD 5 bAdded)
def bMultiplied : DSt := (dRet (dCall fTuple (dCons (dLc (dIter (dVar 0)) [3] (tName 3) dYes (dBin fMod (dBin fMul (dVar 3) (dVar 1)) (dVar 2))) dNil)))
def mMultiplied : Fn := cleanD (defD 4 bMultiplied)
def bLeadingPlace : DSt := (dSeq (dFor (dArg fEnum (dCons (dVar 0) dNil)) (Dv.tTup 2 (tsCons (tName 1) (tsCons (tName 2) tsNil))) (dIfS (dTest (dBin fNe (dVar 2) (dC (.int 0)))) (dRet (dVar 1)) dSkip))
  (dRet (dCall fLen (dCons (dVar 0) dNil))))
def mLeadingPlace : Fn := cleanD (defD 3 bLeadingPlace)
def bInverse : DSt := (dRet (dBin fIxS (dLc (dArg fRange2 (dCons (dC (.int 1)) (dCons (dVar 1) dNil))) [2] (tName 2) (dTest (dBin fEq (dBin fMod (dBin fMul (dVar 0) (dVar 2)) (dVar 1)) (dC (.int 1)))) (dVar 2)) (dC (.int 0))))
def mInverse : Fn := cleanD (defD 3 bInverse)
def bScaled : DSt := (dSeq (dAsg (dCall (fCall 1 mLeadingPlace) (dCons (dVar 0) dNil)) (tName 2))
  (dSeq (dIfS (dTest (dBin fEq (dVar 2) (dCall fLen (dCons (dVar 0) dNil)))) (dRet (dCall fTuple (dCons (dVar 0) dNil))) dSkip)
  (dRet (dCall (fCall 3 mMultiplied) (dCons (dVar 0) (dCons (dCall (fCall 2 mInverse) (dCons (dBin fIxS (dVar 0) (dVar 2)) (dCons (dVar 1) dNil))) (dCons (dVar 1) dNil)))))))
def mScaled : Fn := cleanD (defD 3 bScaled)
def bValue : DSt := (dRet (dBin fMod (dCall fSum (dCons (dLc (dArg fZip (dCons (dVar 0) (dCons (dVar 1) dNil))) [3, 4] (Dv.tTup 2 (tsCons (tName 3) (tsCons (tName 4) tsNil))) dYes (dBin fMul (dVar 3) (dVar 4))) dNil)) (dVar 2)))
def mValue : Fn := cleanD (defD 5 bValue)
structure OkS (s : Src) : Prop where
  sz : s.cells.length ≤ 63
  a0 : 0 ≤ s.at_
  s0 : 0 ≤ s.seed
  s1 : s.seed < 2147483587
theorem deq_int (i j : Int) : deq (.int i) (.int j) = decide (i = j) := by
  simp only [deq, toPy, PyData.eqv]; rfl
theorem feq_int (i j : Int) (μ : Mu) : fEq (.int i) (.int j) μ = some (.val (.bl (decide (i = j))), μ) := by
  simp only [fEq, plainD_int, Bool.and_self, if_true, deq_int, Dv.ret]
theorem sg1 (s : Src) : srcGet s 1 = some (.int s.at_) := rfl
theorem sg2 (s : Src) : srcGet s 2 = some (.int s.big) := rfl
theorem sg3 (s : Src) : srcGet s 3 = some (.int s.seed) := rfl
theorem sg4 (s : Src) : srcGet s 4 = some (.int s.cnt) := rfl
theorem sg0 (s : Src) (h : szl s.cells.length) : srcGet s 0 = some (.lst (intsD s.cells)) := by
  unfold srcGet; rw [if_pos rfl, if_pos h]
theorem ss1 (s : Src) (v : Int) : srcSet s 1 v = some { s with at_ := v } := rfl
theorem ss2 (s : Src) (v : Int) : srcSet s 2 v = some { s with big := v } := rfl
theorem ss3 (s : Src) (v : Int) : srcSet s 3 v = some { s with seed := v } := rfl
theorem ss4 (s : Src) (v : Int) : srcSet s 4 v = some { s with cnt := v } := rfl
theorem fmul_int (i j : Int) (μ : Mu) (h : j.natAbs < 18446744073709551616) : fMul (.int i) (.int j) μ = some (.val (.int (i * j)), μ) := by
  simp only [fMul, cmul, decide_eq_true h, Bool.or_true, if_true, Dv.ret]
theorem fmod_int (i j : Int) (μ : Mu) (h : 0 < j) : fMod (.int i) (.int j) μ = some (.val (.int (i % j)), μ) := by
  simp only [fMod, h, if_true, Dv.ret]
theorem fdiv_int (i j : Int) (μ : Mu) (h : 0 < j) (h2 : j < 1073741824) : fDiv (.int i) (.int j) μ = some (.val (.int (i / j)), μ) := by
  simp only [fDiv, h, h2, and_self, if_true, Dv.ret]
theorem fpow_1018 (μ : Mu) : fPow (.int 10) (.int 18) μ = some (.val (.int 1000000000000000000), μ) := by rfl
theorem ix_intsD (l : List Int) (i : Int) (h0 : 0 ≤ i) (h1 : i < l.length) : ∃ x, atI (intsD l) i = some (.int x) ∧ l[i.toNat]? = some x := by
  have hlt : i.toNat < l.length := by omega
  refine ⟨l[i.toNat], ?_, by simp [hlt]⟩
  unfold atI
  have e : ixN (intsD l).length i = some i.toNat := by
    unfold ixN
    rw [List.length_map, if_pos h0, if_pos h1]
  rw [e]
  simp [hlt]
theorem draw_ok (s : Src) (n : Int) (hs : OkS s) (h0 : 0 < n) (h1 : n < 1073741824) : ∃ r s', mDraw [.obj 0, .int n] [.src s] = some (.val (.int r), [.src s']) ∧ 0 ≤ r ∧ r < n ∧ OkS s' := by
  have hz : szl s.cells.length := Nat.le_trans hs.sz (by decide)
  suffices h : ∃ r s' env, bDraw [.v (.obj 0), .v (.int n), .no, .no, .no] [.src s] = some (.val (.ret (.int r)), env, [.src s']) ∧ 0 ≤ r ∧ r < n ∧ OkS s' by
    obtain ⟨r, s', env, e, a, b, c⟩ := h
    exact ⟨r, s', def_ret e rfl, a, b, c⟩
  unfold bDraw
  have hT : (dAndT (dTest (dBin fEq (dBin fIxS (dVar 0) (dC (.int 2))) (dC (.int 0)))) (dTest (dBin (fCmp fun i j => decide (i < j)) (dBin fIxS (dVar 0) (dC (.int 1))) (dCall fLen (dCons (dBin fIxS (dVar 0) (dC (.int 0))) dNil))))) [.v (.obj 0), .v (.int n), .no, .no, .no] [.src s] = some (.val (decide (s.big = 0) && decide (s.at_ < s.cells.length)), [.src s]) := by
    by_cases hb : s.big = 0
    all_goals simp only [dAndT, dTest, fTest, dBin, dC, dVar, bindR, Dv.ret, hold, fIxS, dCall, dCons, dNil, fLen, fCmp, feq_int, List.getElem?_cons_zero, sg1, sg2, sg0 s hz, hb, decide_true, decide_false, Bool.true_and, Bool.false_and, if_true, List.length_map, Bool.false_eq_true, if_false]
  have h2 : ∃ x s1, OkS s1 ∧ (dIfS (dAndT (dTest (dBin fEq (dBin fIxS (dVar 0) (dC (.int 2))) (dC (.int 0)))) (dTest (dBin (fCmp fun i j => decide (i < j)) (dBin fIxS (dVar 0) (dC (.int 1))) (dCall fLen (dCons (dBin fIxS (dVar 0) (dC (.int 0))) dNil))))) (dSeq (dAsg (dBin fIxS (dBin fIxS (dVar 0) (dC (.int 0))) (dBin fIxS (dVar 0) (dC (.int 1)))) (tName 2))
    (dSeq (dSetS (dBin fAdd (dBin fIxS (dVar 0) (dC (.int 1))) (dC (.int 1))) (dVar 0) (dC (.int 1)))
    (dIfS (dTest (dBin (fCmp fun i j => decide (j ≤ i)) (dVar 2) (dBin fPow (dC (.int 10)) (dC (.int 18))))) (dSetS (dVar 2) (dVar 0) (dC (.int 2))) (dSetS (dBin fMod (dCall fInt (dCons (dBin fAdd (dBin fAdd (dBin fMul (dBin fIxS (dVar 0) (dC (.int 3))) (dC (.int 45053))) (dBin fMul (dBin fMod (dCall fInt (dCons (dVar 2) dNil)) (dC (.int 2147483563))) (dC (.int 50033)))) (dC (.int 67))) dNil)) (dC (.int 2147483587))) (dVar 0) (dC (.int 3)))))) dSkip) [.v (.obj 0), .v (.int n), .no, .no, .no] [.src s] = some (.val .nx, [.v (.obj 0), .v (.int n), x, .no, .no], [.src s1]) := by
    by_cases hc : (decide (s.big = 0) && decide (s.at_ < s.cells.length)) = true
    · have hc' : s.big = 0 ∧ s.at_ < s.cells.length := by simpa using hc
      obtain ⟨c, e1, e2⟩ := ix_intsD s.cells s.at_ hs.a0 hc'.2
      by_cases hg : 1000000000000000000 ≤ c
      · refine ⟨.v (.int c), { s with at_ := s.at_ + 1, big := c }, ⟨hs.sz, by have := hs.a0; show 0 ≤ s.at_ + 1; omega, hs.s0, hs.s1⟩, ?_⟩
        refine ifs_t (μ' := [.src s]) (by rw [hT, hc]) ?_
        simp only [dSeq, dIfS, bindS, dSetS, fSetS, dAsg, tName, nobor, fIx, dTest, fTest, dBin, dC, dVar, bindR, Dv.ret, hold, fIxS, dCall, dCons, dNil, fLen, fCmp, fAdd, fpow_1018, List.getElem?_cons_zero, List.getElem?_cons_succ, List.set_cons_zero, List.set_cons_succ, sg1, sg2, sg3, sg4, ss1, ss2, ss3, ss4, sg0 s hz, e1, hg, decide_true, if_true]
      · refine ⟨.v (.int c), { s with at_ := s.at_ + 1, seed := (s.seed * 45053 + c % 2147483563 * 50033 + 67) % 2147483587 }, ⟨hs.sz, by have := hs.a0; show 0 ≤ s.at_ + 1; omega, by show 0 ≤ _ % 2147483587; omega, by show _ % 2147483587 < _; omega⟩, ?_⟩
        refine ifs_t (μ' := [.src s]) (by rw [hT, hc]) ?_
        simp only [dSeq, dIfS, bindS, dSetS, fSetS, dAsg, tName, nobor, fIx, dTest, fTest, dBin, dC, dVar, bindR, Dv.ret, hold, fIxS, dCall, dCons, dNil, fLen, fInt, fCmp, fAdd, fpow_1018, List.getElem?_cons_zero, List.getElem?_cons_succ, List.set_cons_zero, List.set_cons_succ, sg1, sg2, sg3, sg4, ss1, ss2, ss3, ss4, sg0 s hz, e1, hg, decide_true, decide_false, if_true, if_false, Bool.false_eq_true, fmul_int _ 45053 _ (by decide), fmul_int _ 50033 _ (by decide), fmod_int _ 2147483587 _ (by decide), fmod_int _ 2147483563 _ (by decide)]
    · refine ⟨.no, s, hs, ?_⟩
      refine ifs_f (μ' := [.src s]) (by rw [hT, Bool.eq_false_iff.mpr hc]) rfl
  obtain ⟨x, s1, hs1, e1⟩ := h2
  by_cases hb : 0 < s1.big
  · refine ⟨s1.big % n, { s1 with big := s1.big / n }, [.v (.obj 0), .v (.int n), x, .v (.int (s1.big % n)), .no], ?_, Int.emod_nonneg _ (by omega), Int.emod_lt_of_pos _ h0, ⟨hs1.sz, hs1.a0, hs1.s0, hs1.s1⟩⟩
    refine seq_nx e1 (seq_ret (d := .int (s1.big % n)) (ifs_t (μ' := [.src s1]) ?_ ?_))
    · simp only [dTest, fTest, dBin, dC, dVar, bindR, Dv.ret, hold, fIxS, fCmp, List.getElem?_cons_zero, List.getElem?_cons_succ, sg2, hb, decide_true]
    · simp only [dSeq, dRet, unbor, bindS, dSetS, fSetS, dAsg, tName, nobor, dBin, dC, dVar, bindR, Dv.ret, hold, fIxS, dCall, dCons, dNil, fInt, List.getElem?_cons_zero, List.getElem?_cons_succ, List.set_cons_zero, List.set_cons_succ, sg2, ss2, if_true, fmod_int _ n _ h0, fdiv_int _ n _ h0 h1]
  · refine ⟨((s1.seed * s1.seed + s1.seed * 33023 + (s1.cnt + 1) * 1299709 + 85571) % 2147483587 / 71 + (s1.seed * s1.seed + s1.seed * 33023 + (s1.cnt + 1) * 1299709 + 85571) % 2147483587 % 7907 * 59) % n, { s1 with cnt := s1.cnt + 1, seed := (s1.seed * s1.seed + s1.seed * 33023 + (s1.cnt + 1) * 1299709 + 85571) % 2147483587 }, [.v (.obj 0), .v (.int n), x, .no, .v (.int s1.seed)], ?_, ?_, ?_, ⟨hs1.sz, hs1.a0, ?_, ?_⟩⟩
    refine seq_nx e1 (seq_nx (ifs_f (μ' := [.src s1]) (r := some (.val .nx, [.v (.obj 0), .v (.int n), x, .no, .no], [.src s1])) ?_ rfl) ?_)
    · simp only [dTest, fTest, dBin, dC, dVar, bindR, Dv.ret, hold, fIxS, fCmp, List.getElem?_cons_zero, List.getElem?_cons_succ, sg2, hb, decide_false]
    · have q := hs1.s0
      have q2 := hs1.s1
      simp only [dSeq, dRet, unbor, bindS, dSetS, fSetS, dAsg, tName, nobor, dBin, dC, dVar, bindR, Dv.ret, hold, fIxS, dCall, dCons, dNil, fInt, fAdd, List.getElem?_cons_zero, List.getElem?_cons_succ, List.set_cons_zero, List.set_cons_succ, sg3, sg4, ss3, ss4, if_true, fmul_int _ s1.seed _ (by omega), fmul_int _ 33023 _ (by decide), fmul_int _ 1299709 _ (by decide), fmul_int _ 59 _ (by decide), fmod_int _ 2147483587 _ (by decide), fmod_int _ 7907 _ (by decide), fdiv_int _ 71 _ (by decide) (by decide), fmod_int _ n _ h0]
    · exact Int.emod_nonneg _ (by omega)
    · exact Int.emod_lt_of_pos _ h0
    · exact Int.emod_nonneg _ (by decide)
    · exact Int.emod_lt_of_pos _ (by decide)

/-! ### one of several -/
theorem fne_bl (a b : Bool) (μ : Mu) : fNe (.bl a) (.bl b) μ = some (.val (.bl (a != b)), μ) := by
  cases a <;> cases b <;> rfl
theorem feq_bl (a b : Bool) (μ : Mu) : fEq (.bl a) (.bl b) μ = some (.val (.bl (a == b)), μ) := by
  cases a <;> cases b <;> rfl
theorem fne_int (i j : Int) (μ : Mu) : fNe (.int i) (.int j) μ = some (.val (.bl (!decide (i = j))), μ) := by
  simp only [fNe, plainD_int, Bool.and_self, if_true, deq_int, Dv.ret]
theorem atI_of {α : Type} {l : List α} {i : Int} (h0 : 0 ≤ i) (h1 : i < l.length) : atI l i = l[i.toNat]? := by
  unfold atI ixN
  rw [if_pos h0, if_pos h1]; rfl
theorem of_ok (s : Src) (l : List D) (hs : OkS s) (hl : 0 < l.length) (hz : l.length ≤ 1000) (hn : ∀ d ∈ l, nobor d = true) (hn2 : ∀ d ∈ l, unbor d = d) : ∃ d s', d ∈ l ∧ mOf [.obj 0, .lst l] [.src s] = some (.val d, [.src s']) ∧ OkS s' := by
  obtain ⟨r, s', e, r0, r1, ho⟩ := draw_ok s l.length hs (by omega) (by omega)
  have hr : r.toNat < l.length := by omega
  refine ⟨l[r.toNat], s', List.getElem_mem hr, ?_, ho⟩
  refine def_ret (env := [.v (.obj 0), .v (.lst l)]) ?_ (hn _ (List.getElem_mem hr))
  show bOf [.v (.obj 0), .v (.lst l)] [.src s] = _
  have e2 : atI l r = some l[r.toNat] := by rw [atI_of r0 r1]; simp [hr]
  simp only [bOf, dRet, bindS, dBin, dVar, dCall, dCons, dNil, fLen, bindR, Dv.ret, hold, List.getElem?_cons_zero, List.getElem?_cons_succ, fCall, List.length_cons, List.length_nil, List.all_cons, List.all_nil, nobor, Bool.and_self, and_self, if_true, e, fIxS, fIx, e2, hn2 _ (List.getElem_mem hr), Nat.zero_add, Nat.reduceAdd]
end Dv

/-! DvR: rows of ints, likeness. -/
namespace Dv
open PySem PySem.Spec PyProof.Rows L2
/-! ### like -/
def lkD : Nat → D → Bool
  | _, .non => true
  | _, .bl _ => true
  | _, .int _ => true
  | _, .str x => PyData.strOk x
  | n + 1, .tup l => l.all (lkD n)
  | n + 1, .lst l => l.all (lkD n)
  | _, _ => false
theorem lk_nobor {n : Nat} {d : D} (h : lkD n d = true) : nobor d = true := by
  cases d <;> first | rfl | (cases n <;> simp [lkD] at h)
theorem lk_hold {n : Nat} {d : D} (h : lkD n d = true) : hold d = d := by
  cases d <;> first | rfl | (cases n <;> simp [lkD] at h)
theorem zip_self (l : List D) : List.zipWith pairD l l = l.map fun d => pairD d d := by
  induction l with
  | nil => rfl
  | cons a l ih => simp [ih]
theorem asBls_true (l : List D) : asBls (l.map fun _ => D.bl true) = some (l.map fun _ => true) := by
  induction l with
  | nil => rfl
  | cons a l ih =>
    simp only [List.map_cons]
    unfold asBls
    rw [ih]; rfl
theorem asBls_bls (l : List Bool) : asBls (l.map D.bl) = some l := by
  induction l with
  | nil => rfl
  | cons a l ih =>
    simp only [List.map_cons]
    unfold asBls
    rw [ih]; rfl
theorem isi_tup_l (l : List D) (μ : Mu) : fIsi [.tup l, .ty "list"] μ = some (.val (.bl false), μ) := by rfl
theorem isi_tup_t (l : List D) (μ : Mu) : fIsi [.tup l, .ty "tuple"] μ = some (.val (.bl true), μ) := by rfl
theorem isi_lst_l (l : List D) (μ : Mu) : fIsi [.lst l, .ty "list"] μ = some (.val (.bl true), μ) := by rfl
theorem isi_lst_t (l : List D) (μ : Mu) : fIsi [.lst l, .ty "tuple"] μ = some (.val (.bl false), μ) := by rfl
theorem isi_tup_b (l : List D) (μ : Mu) : fIsi [.tup l, .tup [.ty "list", .ty "tuple"]] μ = some (.val (.bl true), μ) := by rfl
theorem isi_lst_b (l : List D) (μ : Mu) : fIsi [.lst l, .tup [.ty "list", .ty "tuple"]] μ = some (.val (.bl true), μ) := by rfl
theorem isi_non_b (μ : Mu) : fIsi [.non, .tup [.ty "list", .ty "tuple"]] μ = some (.val (.bl false), μ) := by rfl
theorem isi_bl_b (b : Bool) (μ : Mu) : fIsi [.bl b, .tup [.ty "list", .ty "tuple"]] μ = some (.val (.bl false), μ) := by rfl
theorem isi_int_b (b : Int) (μ : Mu) : fIsi [.int b, .tup [.ty "list", .ty "tuple"]] μ = some (.val (.bl false), μ) := by rfl
theorem isi_str_b (b : Str) (μ : Mu) : fIsi [.str b, .tup [.ty "list", .ty "tuple"]] μ = some (.val (.bl false), μ) := by rfl
theorem isi_bl (b : Bool) (μ : Mu) (t : String) (ht : t = "int" ∨ t = "bool" ∨ t = "str") : fIsi [.bl b, .ty t] μ = some (.val (.bl (decide (t ≠ "str"))), μ) := by
  rcases ht with rfl | rfl | rfl <;> rfl
theorem isi_int (b : Int) (μ : Mu) (t : String) (ht : t = "int" ∨ t = "bool" ∨ t = "str") : fIsi [.int b, .ty t] μ = some (.val (.bl (decide (t = "int"))), μ) := by
  rcases ht with rfl | rfl | rfl <;> rfl
theorem isi_str (b : Str) (μ : Mu) (t : String) (ht : t = "int" ∨ t = "bool" ∨ t = "str") : fIsi [.str b, .ty t] μ = some (.val (.bl (decide (t = "str"))), μ) := by
  rcases ht with rfl | rfl | rfl <;> rfl
theorem feq_bl_self (a : Bool) (μ : Mu) : fEq (.bl a) (.bl a) μ = some (.val (.bl true), μ) := by cases a <;> rfl
theorem fne_bl_self (a : Bool) (μ : Mu) : fNe (.bl a) (.bl a) μ = some (.val (.bl false), μ) := by cases a <;> rfl
theorem deq_str (x : Str) : deq (.str x) (.str x) = true := by
  simp [deq, toPy, PyData.eqv]
theorem feq_str_self (x : Str) (h : PyData.strOk x = true) (μ : Mu) : fEq (.str x) (.str x) μ = some (.val (.bl true), μ) := by
  have hp : plainD 60 (.str x) = true := by unfold plainD; exact h
  simp only [fEq, hp, Bool.and_self, if_true, deq_str, Dv.ret]
theorem like_seq {x y : SV} {n : Nat} {l : List D} {μ : Mu} (hn : ∀ d ∈ l, nobor d = true) (hh : ∀ d ∈ l, hold d = d) (ih : ∀ d ∈ l, mLike n [d, d] μ = some (.val (.bl true), μ)) :
    lcRun (Dv.tTup 2 (tsCons (tName 2) (tsCons (tName 3) tsNil))) dYes (dCall (fCall 2 (mLike n)) (dCons (dVar 2) (dCons (dVar 3) dNil))) [x, y, .no, .no] (List.zipWith pairD l l) μ = some (l.map fun _ => .bl true, μ) := by
  rw [zip_self, lc_map (fun d => pairD d d) (fun _ => .bl true)]
  · rfl
  · intro d hd
    refine ⟨[x, y, .v d, .v d], rfl, rfl, ?_, rfl⟩
    simp only [dCall, dCons, dNil, dVar, bindR, Dv.ret, hh d hd, List.getElem?_cons_zero, List.getElem?_cons_succ, fCall, List.length_cons, List.length_nil, List.all_cons, List.all_nil, hn d hd, Bool.and_self, and_self, if_true, ih d hd, Nat.zero_add, Nat.reduceAdd]
/-- what is like itself -/
theorem like_refl {μ : Mu} : ∀ (n : Nat) (d : D), lkD n d = true → mLike (n + 1) [d, d] μ = some (.val (.bl true), μ) := by
  intro n
  induction n with
  | zero => ?_
  | succ n ih => ?_
  all_goals intro d hd
  all_goals refine def_ret (env := [.v d, .v d, .no, .no]) ?_ rfl
  all_goals show bLike _ [.v d, .v d, .no, .no] μ = _
  all_goals cases d
  all_goals try (simp [lkD] at hd; done)
  all_goals try simp (decide := true) only [bLike, dSeq, dIfS, dRet, dSkip, unbor, bindS, dTest, fTest, dBin, dC, dVar, dOrT, dAndV, bindR, Dv.ret, hold, dCall, dCons, dNil, dTup, fTup, List.all_cons, List.all_nil, nobor, Bool.and_self, and_self, if_true, List.length_cons, List.length_nil, List.getElem?_cons_zero, List.getElem?_cons_succ, isi_non_b, isi_bl_b, isi_int_b, isi_str_b, fIs, isNon, bne_self_eq_false, isi_bl _ _ "bool" (.inr (.inl rfl)), isi_bl _ _ "int" (.inl rfl), isi_bl _ _ "str" (.inr (.inr rfl)), isi_int _ _ "bool" (.inr (.inl rfl)), isi_int _ _ "int" (.inl rfl), isi_int _ _ "str" (.inr (.inr rfl)), isi_str _ _ "bool" (.inr (.inl rfl)), isi_str _ _ "int" (.inl rfl), isi_str _ _ "str" (.inr (.inr rfl)), fne_bl_self, feq_bl_self, feq_int, decide_true, Bool.false_eq_true, if_false, Bool.false_bne]
  case zero.str x => rw [feq_str_self x (by simpa [lkD] using hd)]
  case succ.str x => rw [feq_str_self x (by simpa [lkD] using hd)]
  case succ.tup l =>
    have hl : ∀ d ∈ l, lkD n d = true := List.all_eq_true.mp (by simpa [lkD] using hd)
    have hc : dLc (dArg fZip (dCons (dVar 0) (dCons (dVar 1) dNil))) [2, 3] (Dv.tTup 2 (tsCons (tName 2) (tsCons (tName 3) tsNil))) dYes (dCall (fCall 2 (mLike (n + 1))) (dCons (dVar 2) (dCons (dVar 3) dNil))) [.v (.tup l), .v (.tup l), .no, .no] μ = some (.val (.new (l.map fun _ => .bl true)), μ) :=
      dLc_of rfl rfl (like_seq (fun d hd => lk_nobor (hl d hd)) (fun d hd => lk_hold (hl d hd)) fun d hd => ih d (hl d hd))
    have ha : fAll [.lst (l.map fun _ => .bl true)] μ = some (.val (.bl true), μ) := by
      have e : (l.map fun _ => true).all id = true := by rw [List.all_map]; exact List.all_eq_true.mpr fun _ _ => rfl
      simp only [fAll, seqL, asBls_true, e, Dv.ret]
    simp (decide := true) only [isi_tup_b, isi_tup_l, isi_tup_t, hc, ha, fne_bl_self, feq_int, decide_true, if_true, Bool.false_eq_true, if_false, fLen, List.getElem?_cons_zero, List.getElem?_cons_succ, hold]
  case succ.lst l =>
    have hl : ∀ d ∈ l, lkD n d = true := List.all_eq_true.mp (by simpa [lkD] using hd)
    have hc : dLc (dArg fZip (dCons (dVar 0) (dCons (dVar 1) dNil))) [2, 3] (Dv.tTup 2 (tsCons (tName 2) (tsCons (tName 3) tsNil))) dYes (dCall (fCall 2 (mLike (n + 1))) (dCons (dVar 2) (dCons (dVar 3) dNil))) [.v (.lst l), .v (.lst l), .no, .no] μ = some (.val (.new (l.map fun _ => .bl true)), μ) :=
      dLc_of rfl rfl (like_seq (fun d hd => lk_nobor (hl d hd)) (fun d hd => lk_hold (hl d hd)) fun d hd => ih d (hl d hd))
    have ha : fAll [.lst (l.map fun _ => .bl true)] μ = some (.val (.bl true), μ) := by
      have e : (l.map fun _ => true).all id = true := by rw [List.all_map]; exact List.all_eq_true.mpr fun _ _ => rfl
      simp only [fAll, seqL, asBls_true, e, Dv.ret]
    simp (decide := true) only [isi_lst_b, isi_lst_l, isi_lst_t, hc, ha, fne_bl_self, feq_int, decide_true, if_true, Bool.false_eq_true, if_false, fLen, List.getElem?_cons_zero, List.getElem?_cons_succ, hold]
end Dv

/-! DvS: what the helpers of rows answer. -/
namespace Dv
open PySem PySem.Spec PyProof.Rows L2
theorem hold_new (l : List D) : hold (.new l) = .lst l := rfl
theorem hold_lst (l : List D) : hold (.lst l) = .lst l := rfl
theorem hold_tup (l : List D) : hold (.tup l) = .tup l := rfl
theorem hold_bor (l : List D) : hold (.bor l) = .bor l := rfl
theorem hold_int (i : Int) : hold (.int i) = .int i := rfl
theorem hold_bl (i : Bool) : hold (.bl i) = .bl i := rfl
theorem hold_str (i : Str) : hold (.str i) = .str i := rfl
theorem hold_obj (i : Nat) : hold (.obj i) = .obj i := rfl
theorem hold_ty (i : String) : hold (.ty i) = .ty i := rfl
theorem hold_non : hold .non = .non := rfl
theorem nobor_new (l : List D) : nobor (.new l) = true := rfl
theorem nobor_lst (l : List D) : nobor (.lst l) = true := rfl
theorem nobor_tup (l : List D) : nobor (.tup l) = true := rfl
theorem nobor_int (i : Int) : nobor (.int i) = true := rfl
theorem nobor_bl (i : Bool) : nobor (.bl i) = true := rfl
theorem nobor_str (i : Str) : nobor (.str i) = true := rfl
theorem nobor_obj (i : Nat) : nobor (.obj i) = true := rfl
theorem nobor_ty (i : String) : nobor (.ty i) = true := rfl
theorem nobor_non : nobor .non = true := rfl
theorem intsD_of {P : Int → Prop} : ∀ {xs : List D}, (∀ d ∈ xs, ∃ x, d = .int x ∧ P x) → ∃ l, xs = intsD l ∧ ∀ x ∈ l, P x
  | [], _ => ⟨[], rfl, fun _ h => absurd h List.not_mem_nil⟩
  | d :: xs, h => by
    obtain ⟨x, rfl, hx⟩ := h d List.mem_cons_self
    obtain ⟨l, rfl, hl⟩ := intsD_of fun d hd => h d (List.mem_cons_of_mem _ hd)
    exact ⟨x :: l, rfl, fun y hy => (List.mem_cons.mp hy).elim (fun e => e ▸ hx) (hl y)⟩
theorem range1_ (n : Int) (μ : Mu) (h0 : 0 ≤ n) (h1 : n ≤ 16777216) : fRange1 [.int n] μ = some (.val (rangeD 0 n), μ) := by
  have a : small62 n = true := by unfold small62; simp; omega
  have b : szl (n - 0).toNat := by show _ ≤ _; omega
  simp only [fRange1, a, b, and_self, if_true, Dv.ret]
theorem range2_ (m n : Int) (μ : Mu) (h0 : 0 ≤ m) (h : m ≤ 16777216) (h2 : 0 ≤ n) (h1 : n ≤ 16777216) : fRange2 [.int m, .int n] μ = some (.val (rangeD m n), μ) := by
  have a : small62 n = true := by unfold small62; simp; omega
  have c : small62 m = true := by unfold small62; simp; omega
  have b : szl (n - m).toNat := by show _ ≤ _; omega
  simp only [fRange2, a, b, c, and_self, if_true, Dv.ret]
theorem mem_rangeD {m n : Int} {d : D} (h : d ∈ rangeD m n) : ∃ i : Int, d = .int i ∧ m ≤ i ∧ i < n := by
  unfold rangeD at h
  obtain ⟨i, hi, rfl⟩ := List.mem_map.mp h
  have := List.mem_range.mp hi
  exact ⟨m + i, rfl, by omega, by omega⟩
theorem row_ok (s : Src) (p n : Int) (hs : OkS s) (h0 : 0 < p) (h1 : p < 1073741824) (n0 : 0 ≤ n) (n1 : n ≤ 1000) :
    ∃ l s', mRow [.obj 0, .int p, .int n] [.src s] = some (.val (tupI l), [.src s']) ∧ (l.length : Int) = n ∧ (∀ x ∈ l, 0 ≤ x ∧ x < p) ∧ OkS s' := by
  obtain ⟨xs, μ', e1, e2, ⟨s', rfl, hs'⟩, e4⟩ := lc_inv (tg := tName 3) (tt := dYes) (el := dCall (fCall 2 mDraw) (dCons (dVar 0) (dCons (dVar 1) dNil))) (env := [.v (.obj 0), .v (.int p), .v (.int n), .no])
    (fun μ => ∃ s, μ = [.src s] ∧ OkS s) (fun d => ∃ x, d = .int x ∧ 0 ≤ x ∧ x < p) (rangeD 0 n) (fun d hd μ ⟨s, e, hs⟩ => by
      subst e
      obtain ⟨r, s', e, a, b, c⟩ := draw_ok s p hs h0 h1
      refine ⟨[.v (.obj 0), .v (.int p), .v (.int n), .v d], .int r, [.src s'], rfl, rfl, ?_, rfl, ⟨s', rfl, c⟩, r, rfl, a, b⟩
      simp (decide := true) only [dSeq, dIfS, dRet, dSkip, dAsg, tName, unbor, bindS, dTest, fTest, dBin, dC, dVar, dNotT, dAndT, dOrT, dAndV, dOrV, dIf, bindR, Dv.ret, hold_new, hold_int, hold_bl, hold_tup, hold_lst, hold_obj, hold_str, hold_non, hold_ty, hold_bor, dCall, dCons, dNil, dIter, fIter, dArg, nobor_new, nobor_int, nobor_bl, nobor_tup, nobor_lst, nobor_obj, nobor_str, nobor_non, nobor_ty, Bool.and_self, and_self, if_true, if_false, Bool.false_eq_true, Bool.not_true, Bool.not_false, List.all_cons, List.all_nil, List.length_cons, List.length_nil, Nat.zero_add, Nat.reduceAdd, List.getElem?_cons_zero, List.getElem?_cons_succ, List.set_cons_zero, List.set_cons_succ, fCall, decide_true, decide_false, e]) [.src s] ⟨s, rfl, hs⟩
  obtain ⟨l, rfl, hl⟩ := intsD_of e4
  refine ⟨l, s', def_ret (env := [.v (.obj 0), .v (.int p), .v (.int n), .no]) ?_ rfl, ?_, hl, hs'⟩
  · show bRow [.v (.obj 0), .v (.int p), .v (.int n), .no] _ = _
    have hc := dLc_of (it := dArg fRange1 (dCons (dVar 2) dNil)) (own := [3]) (env := [.v (.obj 0), .v (.int p), .v (.int n), .no]) (μ := [.src s]) rfl (by
      simp (decide := true) only [dSeq, dIfS, dRet, dSkip, dAsg, tName, unbor, bindS, dTest, fTest, dBin, dC, dVar, dNotT, dAndT, dOrT, dAndV, dOrV, dIf, bindR, Dv.ret, hold_new, hold_int, hold_bl, hold_tup, hold_lst, hold_obj, hold_str, hold_non, hold_ty, hold_bor, dCall, dCons, dNil, dIter, fIter, dArg, nobor_new, nobor_int, nobor_bl, nobor_tup, nobor_lst, nobor_obj, nobor_str, nobor_non, nobor_ty, Bool.and_self, and_self, if_true, if_false, Bool.false_eq_true, Bool.not_true, Bool.not_false, List.all_cons, List.all_nil, List.length_cons, List.length_nil, Nat.zero_add, Nat.reduceAdd, List.getElem?_cons_zero, List.getElem?_cons_succ, List.set_cons_zero, List.set_cons_succ, fCall, decide_true, decide_false, range1_ n _ n0 (by omega)]) e1
    simp (decide := true) only [bRow, hc, dSeq, dIfS, dRet, dSkip, dAsg, tName, unbor, bindS, dTest, fTest, dBin, dC, dVar, dNotT, dAndT, dOrT, dAndV, dOrV, dIf, bindR, Dv.ret, hold_new, hold_int, hold_bl, hold_tup, hold_lst, hold_obj, hold_str, hold_non, hold_ty, hold_bor, dCall, dCons, dNil, dIter, fIter, dArg, nobor_new, nobor_int, nobor_bl, nobor_tup, nobor_lst, nobor_obj, nobor_str, nobor_non, nobor_ty, Bool.and_self, and_self, if_true, if_false, Bool.false_eq_true, Bool.not_true, Bool.not_false, List.all_cons, List.all_nil, List.length_cons, List.length_nil, Nat.zero_add, Nat.reduceAdd, List.getElem?_cons_zero, List.getElem?_cons_succ, List.set_cons_zero, List.set_cons_succ, fCall, decide_true, decide_false, fTuple]
  · rw [List.length_map, rangeD_len] at e2; omega
theorem seqD_hold {X : D} {l : List D} (h : seqD X = some l) : hold X = X ∧ nobor X = true ∧ fIter X = fun μ => some (.val l, μ) := by
  cases X <;> first | cases h; exact ⟨rfl, rfl, rfl⟩ | cases h
theorem fzip_ {X Y : D} {xs ys : List Int} {μ : Mu} (hX : seqD X = some (intsD xs)) (hY : seqD Y = some (intsD ys)) : fZip [X, Y] μ = some (.val ((xs.zip ys).map fun q => pairD (.int q.1) (.int q.2)), μ) := by
  simp only [fZip, hX, hY, Dv.ret, zip_ints]
theorem added_ok {X Y : D} {xs ys : List Int} {p : Int} {μ : Mu} (hX : seqD X = some (intsD xs)) (hY : seqD Y = some (intsD ys)) (hp : 0 < p) :
    mAdded [X, Y, .int p] μ = some (.val (tupI ((xs.zip ys).map fun q => (q.1 + q.2) % p)), μ) := by
  refine def_ret (env := [.v X, .v Y, .v (.int p), .no, .no]) ?_ rfl
  show bAdded [.v X, .v Y, .v (.int p), .no, .no] μ = _
  have hc := dLc_of (it := dArg fZip (dCons (dVar 0) (dCons (dVar 1) dNil))) (own := [3, 4]) (env := [.v X, .v Y, .v (.int p), .no, .no]) (μ := μ) rfl (by
      simp (decide := true) only [dSeq, dIfS, dRet, dSkip, dAsg, tName, unbor, bindS, dTest, fTest, dBin, dC, dVar, dNotT, dAndT, dOrT, dAndV, dOrV, dIf, bindR, Dv.ret, hold_new, hold_int, hold_bl, hold_tup, hold_lst, hold_obj, hold_str, hold_non, hold_ty, hold_bor, dCall, dCons, dNil, dIter, fIter, dArg, nobor_new, nobor_int, nobor_bl, nobor_tup, nobor_lst, nobor_obj, nobor_str, nobor_non, nobor_ty, Bool.and_self, and_self, if_true, if_false, Bool.false_eq_true, Bool.not_true, Bool.not_false, List.all_cons, List.all_nil, List.length_cons, List.length_nil, Nat.zero_add, Nat.reduceAdd, List.getElem?_cons_zero, List.getElem?_cons_succ, List.set_cons_zero, List.set_cons_succ, fCall, decide_true, decide_false, (seqD_hold hX).1, (seqD_hold hY).1, fzip_ hX hY]) (lc_map (fun q : Int × Int => pairD (.int q.1) (.int q.2)) (fun q => .int ((q.1 + q.2) % p)) (xs.zip ys) (tt := dYes) (tg := Dv.tTup 2 (tsCons (tName 3) (tsCons (tName 4) tsNil))) (el := dBin fMod (dBin fAdd (dVar 3) (dVar 4)) (dVar 2)) (μ := μ) (fun q hq => by
        refine ⟨[.v X, .v Y, .v (.int p), .v (.int q.1), .v (.int q.2)], rfl, rfl, ?_, rfl⟩
        simp (decide := true) only [dSeq, dIfS, dRet, dSkip, dAsg, tName, unbor, bindS, dTest, fTest, dBin, dC, dVar, dNotT, dAndT, dOrT, dAndV, dOrV, dIf, bindR, Dv.ret, hold_new, hold_int, hold_bl, hold_tup, hold_lst, hold_obj, hold_str, hold_non, hold_ty, hold_bor, dCall, dCons, dNil, dIter, fIter, dArg, nobor_new, nobor_int, nobor_bl, nobor_tup, nobor_lst, nobor_obj, nobor_str, nobor_non, nobor_ty, Bool.and_self, and_self, if_true, if_false, Bool.false_eq_true, Bool.not_true, Bool.not_false, List.all_cons, List.all_nil, List.length_cons, List.length_nil, Nat.zero_add, Nat.reduceAdd, List.getElem?_cons_zero, List.getElem?_cons_succ, List.set_cons_zero, List.set_cons_succ, fCall, decide_true, decide_false, fAdd, fmod_int _ _ _ hp]))
  simp (decide := true) only [bAdded, hc, dSeq, dIfS, dRet, dSkip, dAsg, tName, unbor, bindS, dTest, fTest, dBin, dC, dVar, dNotT, dAndT, dOrT, dAndV, dOrV, dIf, bindR, Dv.ret, hold_new, hold_int, hold_bl, hold_tup, hold_lst, hold_obj, hold_str, hold_non, hold_ty, hold_bor, dCall, dCons, dNil, dIter, fIter, dArg, nobor_new, nobor_int, nobor_bl, nobor_tup, nobor_lst, nobor_obj, nobor_str, nobor_non, nobor_ty, Bool.and_self, and_self, if_true, if_false, Bool.false_eq_true, Bool.not_true, Bool.not_false, List.all_cons, List.all_nil, List.length_cons, List.length_nil, Nat.zero_add, Nat.reduceAdd, List.getElem?_cons_zero, List.getElem?_cons_succ, List.set_cons_zero, List.set_cons_succ, fCall, decide_true, decide_false, fTuple, tupI, intsD, List.map_map, Function.comp_def]
theorem sum_ok {X Y : D} {xs ys : List Int} {p f : Int} {μ : Mu} (hX : seqD X = some (intsD xs)) (hY : seqD Y = some (intsD ys)) (hp : 0 < p) (hf : ∀ y ∈ ys, 0 ≤ y ∧ y < 1000000) :
    mSum [.int p, X, Y, .int f] μ = some (.val (tupI ((xs.zip ys).map fun q => (q.1 + f * q.2) % p)), μ) := by
  refine def_ret (env := [.v (.int p), .v X, .v Y, .v (.int f), .no, .no]) ?_ rfl
  show bSum [.v (.int p), .v X, .v Y, .v (.int f), .no, .no] μ = _
  have hc := dLc_of (it := dArg fZip (dCons (dVar 1) (dCons (dVar 2) dNil))) (own := [4, 5]) (env := [.v (.int p), .v X, .v Y, .v (.int f), .no, .no]) (μ := μ) rfl (by
      simp (decide := true) only [dSeq, dIfS, dRet, dSkip, dAsg, tName, unbor, bindS, dTest, fTest, dBin, dC, dVar, dNotT, dAndT, dOrT, dAndV, dOrV, dIf, bindR, Dv.ret, hold_new, hold_int, hold_bl, hold_tup, hold_lst, hold_obj, hold_str, hold_non, hold_ty, hold_bor, dCall, dCons, dNil, dIter, fIter, dArg, nobor_new, nobor_int, nobor_bl, nobor_tup, nobor_lst, nobor_obj, nobor_str, nobor_non, nobor_ty, Bool.and_self, and_self, if_true, if_false, Bool.false_eq_true, Bool.not_true, Bool.not_false, List.all_cons, List.all_nil, List.length_cons, List.length_nil, Nat.zero_add, Nat.reduceAdd, List.getElem?_cons_zero, List.getElem?_cons_succ, List.set_cons_zero, List.set_cons_succ, fCall, decide_true, decide_false, (seqD_hold hX).1, (seqD_hold hY).1, fzip_ hX hY]) (lc_map (fun q : Int × Int => pairD (.int q.1) (.int q.2)) (fun q => .int ((q.1 + f * q.2) % p)) (xs.zip ys) (tt := dYes) (tg := Dv.tTup 2 (tsCons (tName 4) (tsCons (tName 5) tsNil))) (el := dBin fMod (dCall fInt (dCons (dBin fAdd (dVar 4) (dBin fMul (dVar 3) (dVar 5))) dNil)) (dVar 0)) (μ := μ) (fun q hq => by
        have hy := hf _ (List.of_mem_zip hq).2
        refine ⟨[.v (.int p), .v X, .v Y, .v (.int f), .v (.int q.1), .v (.int q.2)], rfl, rfl, ?_, rfl⟩
        simp (decide := true) only [dSeq, dIfS, dRet, dSkip, dAsg, tName, unbor, bindS, dTest, fTest, dBin, dC, dVar, dNotT, dAndT, dOrT, dAndV, dOrV, dIf, bindR, Dv.ret, hold_new, hold_int, hold_bl, hold_tup, hold_lst, hold_obj, hold_str, hold_non, hold_ty, hold_bor, dCall, dCons, dNil, dIter, fIter, dArg, nobor_new, nobor_int, nobor_bl, nobor_tup, nobor_lst, nobor_obj, nobor_str, nobor_non, nobor_ty, Bool.and_self, and_self, if_true, if_false, Bool.false_eq_true, Bool.not_true, Bool.not_false, List.all_cons, List.all_nil, List.length_cons, List.length_nil, Nat.zero_add, Nat.reduceAdd, List.getElem?_cons_zero, List.getElem?_cons_succ, List.set_cons_zero, List.set_cons_succ, fCall, decide_true, decide_false, fAdd, fInt, fmul_int _ q.2 _ (by omega), fmod_int _ _ _ hp]))
  simp (decide := true) only [bSum, hc, dSeq, dIfS, dRet, dSkip, dAsg, tName, unbor, bindS, dTest, fTest, dBin, dC, dVar, dNotT, dAndT, dOrT, dAndV, dOrV, dIf, bindR, Dv.ret, hold_new, hold_int, hold_bl, hold_tup, hold_lst, hold_obj, hold_str, hold_non, hold_ty, hold_bor, dCall, dCons, dNil, dIter, fIter, dArg, nobor_new, nobor_int, nobor_bl, nobor_tup, nobor_lst, nobor_obj, nobor_str, nobor_non, nobor_ty, Bool.and_self, and_self, if_true, if_false, Bool.false_eq_true, Bool.not_true, Bool.not_false, List.all_cons, List.all_nil, List.length_cons, List.length_nil, Nat.zero_add, Nat.reduceAdd, List.getElem?_cons_zero, List.getElem?_cons_succ, List.set_cons_zero, List.set_cons_succ, fCall, decide_true, decide_false, fTuple, tupI, intsD, List.map_map, Function.comp_def]
theorem multiplied_ok {X : D} {xs : List Int} {p f : Int} {μ : Mu} (hX : seqD X = some (intsD xs)) (hp : 0 < p) (h0 : 0 ≤ f) (h1 : f < 1000000) :
    mMultiplied [X, .int f, .int p] μ = some (.val (tupI (xs.map fun x => x * f % p)), μ) := by
  refine def_ret (env := [.v X, .v (.int f), .v (.int p), .no]) ?_ rfl
  show bMultiplied [.v X, .v (.int f), .v (.int p), .no] μ = _
  have hc := dLc_of (it := dIter (dVar 0)) (own := [3]) (env := [.v X, .v (.int f), .v (.int p), .no]) (μ := μ) rfl (by
      simp (decide := true) only [dSeq, dIfS, dRet, dSkip, dAsg, tName, unbor, bindS, dTest, fTest, dBin, dC, dVar, dNotT, dAndT, dOrT, dAndV, dOrV, dIf, bindR, Dv.ret, hold_new, hold_int, hold_bl, hold_tup, hold_lst, hold_obj, hold_str, hold_non, hold_ty, hold_bor, dCall, dCons, dNil, dIter, dArg, nobor_new, nobor_int, nobor_bl, nobor_tup, nobor_lst, nobor_obj, nobor_str, nobor_non, nobor_ty, Bool.and_self, and_self, if_true, if_false, Bool.false_eq_true, Bool.not_true, Bool.not_false, List.all_cons, List.all_nil, List.length_cons, List.length_nil, Nat.zero_add, Nat.reduceAdd, List.getElem?_cons_zero, List.getElem?_cons_succ, List.set_cons_zero, List.set_cons_succ, fCall, decide_true, decide_false, (seqD_hold hX).2.2]) (lc_map D.int (fun x => .int (x * f % p)) xs (tt := dYes) (tg := tName 3) (el := dBin fMod (dBin fMul (dVar 3) (dVar 1)) (dVar 2)) (μ := μ) (fun q hq => by
        refine ⟨[.v X, .v (.int f), .v (.int p), .v (.int q)], rfl, rfl, ?_, rfl⟩
        simp (decide := true) only [dSeq, dIfS, dRet, dSkip, dAsg, tName, unbor, bindS, dTest, fTest, dBin, dC, dVar, dNotT, dAndT, dOrT, dAndV, dOrV, dIf, bindR, Dv.ret, hold_new, hold_int, hold_bl, hold_tup, hold_lst, hold_obj, hold_str, hold_non, hold_ty, hold_bor, dCall, dCons, dNil, dIter, fIter, dArg, nobor_new, nobor_int, nobor_bl, nobor_tup, nobor_lst, nobor_obj, nobor_str, nobor_non, nobor_ty, Bool.and_self, and_self, if_true, if_false, Bool.false_eq_true, Bool.not_true, Bool.not_false, List.all_cons, List.all_nil, List.length_cons, List.length_nil, Nat.zero_add, Nat.reduceAdd, List.getElem?_cons_zero, List.getElem?_cons_succ, List.set_cons_zero, List.set_cons_succ, fCall, decide_true, decide_false, fmul_int _ f _ (by omega), fmod_int _ _ _ hp]))
  simp (decide := true) only [bMultiplied, hc, dSeq, dIfS, dRet, dSkip, dAsg, tName, unbor, bindS, dTest, fTest, dBin, dC, dVar, dNotT, dAndT, dOrT, dAndV, dOrV, dIf, bindR, Dv.ret, hold_new, hold_int, hold_bl, hold_tup, hold_lst, hold_obj, hold_str, hold_non, hold_ty, hold_bor, dCall, dCons, dNil, dIter, fIter, dArg, nobor_new, nobor_int, nobor_bl, nobor_tup, nobor_lst, nobor_obj, nobor_str, nobor_non, nobor_ty, Bool.and_self, and_self, if_true, if_false, Bool.false_eq_true, Bool.not_true, Bool.not_false, List.all_cons, List.all_nil, List.length_cons, List.length_nil, Nat.zero_add, Nat.reduceAdd, List.getElem?_cons_zero, List.getElem?_cons_succ, List.set_cons_zero, List.set_cons_succ, fCall, decide_true, decide_false, fTuple, tupI, intsD, List.map_map, Function.comp_def]
theorem value_ok {X Y : D} {xs ys : List Int} {p : Int} {μ : Mu} (hX : seqD X = some (intsD xs)) (hY : seqD Y = some (intsD ys)) (hp : 0 < p) (hf : ∀ y ∈ ys, 0 ≤ y ∧ y < 1000000) :
    mValue [X, Y, .int p] μ = some (.val (.int (((xs.zip ys).map fun q => q.1 * q.2).sum % p)), μ) := by
  refine def_ret (env := [.v X, .v Y, .v (.int p), .no, .no]) ?_ rfl
  show bValue [.v X, .v Y, .v (.int p), .no, .no] μ = _
  have hc := dLc_of (it := dArg fZip (dCons (dVar 0) (dCons (dVar 1) dNil))) (own := [3, 4]) (env := [.v X, .v Y, .v (.int p), .no, .no]) (μ := μ) rfl (by
      simp (decide := true) only [dSeq, dIfS, dRet, dSkip, dAsg, tName, unbor, bindS, dTest, fTest, dBin, dC, dVar, dNotT, dAndT, dOrT, dAndV, dOrV, dIf, bindR, Dv.ret, hold_new, hold_int, hold_bl, hold_tup, hold_lst, hold_obj, hold_str, hold_non, hold_ty, hold_bor, dCall, dCons, dNil, dIter, fIter, dArg, nobor_new, nobor_int, nobor_bl, nobor_tup, nobor_lst, nobor_obj, nobor_str, nobor_non, nobor_ty, Bool.and_self, and_self, if_true, if_false, Bool.false_eq_true, Bool.not_true, Bool.not_false, List.all_cons, List.all_nil, List.length_cons, List.length_nil, Nat.zero_add, Nat.reduceAdd, List.getElem?_cons_zero, List.getElem?_cons_succ, List.set_cons_zero, List.set_cons_succ, fCall, decide_true, decide_false, (seqD_hold hX).1, (seqD_hold hY).1, fzip_ hX hY]) (lc_map (fun q : Int × Int => pairD (.int q.1) (.int q.2)) (fun q => .int (q.1 * q.2)) (xs.zip ys) (tt := dYes) (tg := Dv.tTup 2 (tsCons (tName 3) (tsCons (tName 4) tsNil))) (el := dBin fMul (dVar 3) (dVar 4)) (μ := μ) (fun q hq => by
        have hy := hf _ (List.of_mem_zip hq).2
        refine ⟨[.v X, .v Y, .v (.int p), .v (.int q.1), .v (.int q.2)], rfl, rfl, ?_, rfl⟩
        simp (decide := true) only [dSeq, dIfS, dRet, dSkip, dAsg, tName, unbor, bindS, dTest, fTest, dBin, dC, dVar, dNotT, dAndT, dOrT, dAndV, dOrV, dIf, bindR, Dv.ret, hold_new, hold_int, hold_bl, hold_tup, hold_lst, hold_obj, hold_str, hold_non, hold_ty, hold_bor, dCall, dCons, dNil, dIter, fIter, dArg, nobor_new, nobor_int, nobor_bl, nobor_tup, nobor_lst, nobor_obj, nobor_str, nobor_non, nobor_ty, Bool.and_self, and_self, if_true, if_false, Bool.false_eq_true, Bool.not_true, Bool.not_false, List.all_cons, List.all_nil, List.length_cons, List.length_nil, Nat.zero_add, Nat.reduceAdd, List.getElem?_cons_zero, List.getElem?_cons_succ, List.set_cons_zero, List.set_cons_succ, fCall, decide_true, decide_false, fmul_int _ q.2 _ (by omega)]))
  have e : (xs.zip ys).map (fun q => hold (.int (q.1 * q.2))) = intsD ((xs.zip ys).map fun q => q.1 * q.2) := by simp only [intsD, List.map_map, Function.comp_def, hold]
  rw [e] at hc
  simp (decide := true) only [bValue, hc, dSeq, dIfS, dRet, dSkip, dAsg, tName, unbor, bindS, dTest, fTest, dBin, dC, dVar, dNotT, dAndT, dOrT, dAndV, dOrV, dIf, bindR, Dv.ret, hold_new, hold_int, hold_bl, hold_tup, hold_lst, hold_obj, hold_str, hold_non, hold_ty, hold_bor, dCall, dCons, dNil, dIter, fIter, dArg, nobor_new, nobor_int, nobor_bl, nobor_tup, nobor_lst, nobor_obj, nobor_str, nobor_non, nobor_ty, Bool.and_self, and_self, if_true, if_false, Bool.false_eq_true, Bool.not_true, Bool.not_false, List.all_cons, List.all_nil, List.length_cons, List.length_nil, Nat.zero_add, Nat.reduceAdd, List.getElem?_cons_zero, List.getElem?_cons_succ, List.set_cons_zero, List.set_cons_succ, fCall, decide_true, decide_false, fSum, seqL, asInts_intsD, fmod_int _ _ _ hp]
end Dv

/-! DvT: the leading place, inverses, scaled rows. -/
namespace Dv
open PySem PySem.Spec PyProof.Rows L2
/-- the first place that isn't 0 -/
def leadN : List Int → Nat
  | [] => 0
  | x :: l => if x = 0 then leadN l + 1 else 0
theorem leadN_le : ∀ l : List Int, leadN l ≤ l.length
  | [] => Nat.le_refl _
  | x :: l => by
    unfold leadN
    have := leadN_le l
    split
    · simp; omega
    · simp
theorem leadN_ne : ∀ {l : List Int}, leadN l < l.length → ∃ x, l[leadN l]? = some x ∧ x ≠ 0
  | [], h => by simp [leadN] at h
  | x :: l, h => by
    unfold leadN at h ⊢
    split
    · rename_i h0
      rw [if_pos h0] at h
      obtain ⟨y, e, n⟩ := leadN_ne (l := l) (by simp at h; omega)
      exact ⟨y, by simpa using e, n⟩
    · rename_i h0
      exact ⟨x, rfl, h0⟩
theorem leadN_zero : ∀ {l : List Int}, leadN l = l.length → ∀ x ∈ l, x = 0
  | [], _, x, h => absurd h List.not_mem_nil
  | y :: l, h, x, hx => by
    unfold leadN at h
    split at h
    · rename_i h0
      simp at h
      rcases List.mem_cons.mp hx with rfl | hx
      · exact h0
      · exact leadN_zero (l := l) h x hx
    · simp at h
/-- what keeps 0 and no more keeps the place -/
theorem leadN_map (f : Int → Int) : ∀ (l : List Int), (∀ x ∈ l, f x = 0 ↔ x = 0) → leadN (l.map f) = leadN l
  | [], _ => rfl
  | x :: l, h => by
    have e := h x List.mem_cons_self
    have ih := leadN_map f l fun y hy => h y (List.mem_cons_of_mem _ hy)
    simp only [List.map_cons]
    unfold leadN
    by_cases h0 : x = 0
    · rw [if_pos (e.mpr h0), if_pos h0, ih]
    · rw [if_neg (fun z => h0 (e.mp z)), if_neg h0]
theorem leadN_cons (x : Int) (l : List Int) : leadN (x :: l) = if x = 0 then leadN l + 1 else 0 := rfl
theorem lead_for {X : D} {μ : Mu} : ∀ (l : List Int) (k : Nat) (a b : SV), ∃ a' b', forRun (Dv.tTup 2 (tsCons (tName 1) (tsCons (tName 2) tsNil))) (dIfS (dTest (dBin fNe (dVar 2) (dC (.int 0)))) (dRet (dVar 1)) dSkip) (enumD k (intsD l)) [.v X, a, b] μ =
    (if leadN l < l.length then some (.val (.ret (.int (k + leadN l : Nat))), [.v X, a', b'], μ) else some (.val .nx, [.v X, a', b'], μ))
  | [], k, a, b => ⟨a, b, by simp [leadN, enumD, forRun]⟩
  | x :: l, k, a, b => by
    show ∃ a' b', forRun _ _ (pairD (.int k) (.int x) :: enumD (k + 1) (intsD l)) _ μ = _
    have e1 : Dv.tTup 2 (tsCons (tName 1) (tsCons (tName 2) tsNil)) [.v X, a, b] (pairD (.int k) (.int x)) = some [.v X, .v (.int k), .v (.int x)] := rfl
    by_cases h0 : x = 0
    · obtain ⟨a', b', e⟩ := lead_for l (k + 1) (.v (.int k)) (.v (.int x))
      refine ⟨a', b', ?_⟩
      unfold forRun
      rw [e1]
      have e2 : dIfS (dTest (dBin fNe (dVar 2) (dC (.int 0)))) (dRet (dVar 1)) dSkip [.v X, .v (.int k), .v (.int x)] μ = some (.val .nx, [.v X, .v (.int k), .v (.int x)], μ) := by
        simp (decide := true) only [dSeq, dIfS, dRet, dSkip, dAsg, tName, unbor, bindS, dTest, fTest, dBin, dC, dVar, dNotT, dAndT, dOrT, dAndV, dOrV, dIf, bindR, Dv.ret, hold_new, hold_int, hold_bl, hold_tup, hold_lst, hold_obj, hold_str, hold_non, hold_ty, hold_bor, dCall, dCons, dNil, dIter, fIter, dArg, nobor_new, nobor_int, nobor_bl, nobor_tup, nobor_lst, nobor_obj, nobor_str, nobor_non, nobor_ty, Bool.and_self, and_self, if_true, if_false, Bool.false_eq_true, Bool.not_true, Bool.not_false, List.all_cons, List.all_nil, List.length_cons, List.length_nil, Nat.zero_add, Nat.reduceAdd, List.getElem?_cons_zero, List.getElem?_cons_succ, List.set_cons_zero, List.set_cons_succ, fCall, decide_true, decide_false, fne_int, h0]
      simp only [e2]
      rw [e]
      rw [leadN_cons, if_pos h0]
      have e3 : k + 1 + leadN l = k + (leadN l + 1) := by omega
      rw [e3]
      by_cases hl : leadN l < l.length
      · rw [if_pos hl, if_pos (by simp; omega)]
      · rw [if_neg hl, if_neg (by simp; omega)]
    · refine ⟨.v (.int k), .v (.int x), ?_⟩
      unfold forRun
      rw [e1]
      have e2 : dIfS (dTest (dBin fNe (dVar 2) (dC (.int 0)))) (dRet (dVar 1)) dSkip [.v X, .v (.int k), .v (.int x)] μ = some (.val (.ret (.int k)), [.v X, .v (.int k), .v (.int x)], μ) := by
        simp (decide := true) only [dSeq, dIfS, dRet, dSkip, dAsg, tName, unbor, bindS, dTest, fTest, dBin, dC, dVar, dNotT, dAndT, dOrT, dAndV, dOrV, dIf, bindR, Dv.ret, hold_new, hold_int, hold_bl, hold_tup, hold_lst, hold_obj, hold_str, hold_non, hold_ty, hold_bor, dCall, dCons, dNil, dIter, fIter, dArg, nobor_new, nobor_int, nobor_bl, nobor_tup, nobor_lst, nobor_obj, nobor_str, nobor_non, nobor_ty, Bool.and_self, and_self, if_true, if_false, Bool.false_eq_true, Bool.not_true, Bool.not_false, List.all_cons, List.all_nil, List.length_cons, List.length_nil, Nat.zero_add, Nat.reduceAdd, List.getElem?_cons_zero, List.getElem?_cons_succ, List.set_cons_zero, List.set_cons_succ, fCall, decide_true, decide_false, fne_int, h0]
      simp only [e2]
      rw [leadN_cons, if_neg h0, if_pos (by simp)]
      rfl
theorem fenum_ {X : D} {xs : List Int} {μ : Mu} (hX : seqD X = some (intsD xs)) : fEnum [X] μ = some (.val (enumD 0 (intsD xs)), μ) := by
  simp only [fEnum, hX, Dv.ret]
theorem flen_ {X : D} {l : List D} {μ : Mu} (hX : seqD X = some l) : fLen [X] μ = some (.val (.int l.length), μ) := by
  cases X <;> first | cases hX; rfl | cases hX
theorem leading_ok {X : D} {xs : List Int} {μ : Mu} (hX : seqD X = some (intsD xs)) : mLeadingPlace [X] μ = some (.val (.int (leadN xs)), μ) := by
  obtain ⟨a, b, e⟩ := lead_for (X := X) (μ := μ) xs 0 .no .no
  have hi : dArg fEnum (dCons (dVar 0) dNil) [.v X, .no, .no] μ = some (.val (enumD 0 (intsD xs)), μ) := by
    simp only [dSeq, dIfS, dRet, dSkip, dAsg, tName, unbor, bindS, dTest, fTest, dBin, dC, dVar, dNotT, dAndT, dOrT, dAndV, dOrV, dIf, bindR, Dv.ret, hold_new, hold_int, hold_bl, hold_tup, hold_lst, hold_obj, hold_str, hold_non, hold_ty, hold_bor, dCall, dCons, dNil, dIter, fIter, dArg, nobor_new, nobor_int, nobor_bl, nobor_tup, nobor_lst, nobor_obj, nobor_str, nobor_non, nobor_ty, Bool.and_self, and_self, if_true, if_false, Bool.false_eq_true, Bool.not_true, Bool.not_false, List.all_cons, List.all_nil, List.length_cons, List.length_nil, Nat.zero_add, Nat.reduceAdd, List.getElem?_cons_zero, List.getElem?_cons_succ, List.set_cons_zero, List.set_cons_succ, fCall, decide_true, decide_false, (seqD_hold hX).1, fenum_ hX]
  have hf := for_of (tg := Dv.tTup 2 (tsCons (tName 1) (tsCons (tName 2) tsNil))) (b := dIfS (dTest (dBin fNe (dVar 2) (dC (.int 0)))) (dRet (dVar 1)) dSkip) hi e
  by_cases h : leadN xs < xs.length
  · rw [if_pos h, Nat.zero_add] at hf
    exact def_ret (env := [.v X, a, b]) (seq_ret hf) rfl
  · rw [if_neg h] at hf
    have hl : leadN xs = xs.length := by have := leadN_le xs; omega
    refine def_ret (env := [.v X, a, b]) (seq_nx hf ?_) rfl
    simp only [dSeq, dIfS, dRet, dSkip, dAsg, tName, unbor, bindS, dTest, fTest, dBin, dC, dVar, dNotT, dAndT, dOrT, dAndV, dOrV, dIf, bindR, Dv.ret, hold_new, hold_int, hold_bl, hold_tup, hold_lst, hold_obj, hold_str, hold_non, hold_ty, hold_bor, dCall, dCons, dNil, dIter, fIter, dArg, nobor_new, nobor_int, nobor_bl, nobor_tup, nobor_lst, nobor_obj, nobor_str, nobor_non, nobor_ty, Bool.and_self, and_self, if_true, if_false, Bool.false_eq_true, Bool.not_true, Bool.not_false, List.all_cons, List.all_nil, List.length_cons, List.length_nil, Nat.zero_add, Nat.reduceAdd, List.getElem?_cons_zero, List.getElem?_cons_succ, List.set_cons_zero, List.set_cons_succ, fCall, decide_true, decide_false, (seqD_hold hX).1, flen_ hX, List.length_map, hl]
/-! ### inverses -/
structure Prm (p : Int) : Prop where
  is : p = 2 ∨ p = 3 ∨ p = 5 ∨ p = 7
theorem inverse_ok {p a : Int} {μ : Mu} (hp : Prm p) (h0 : 0 < a) (h1 : a < p) : ∃ b, mInverse [.int a, .int p] μ = some (.val (.int b), μ) ∧ 0 < b ∧ b < p ∧ a * b % p = 1 ∧ (a = 1 → b = 1) := by
  rcases hp.is with rfl | rfl | rfl | rfl
  · have : a = 1 := by omega
    subst this; exact ⟨1, rfl, by decide, by decide, by decide, by decide⟩
  · have : a = 1 ∨ a = 2 := by omega
    rcases this with rfl | rfl
    · exact ⟨1, rfl, by decide, by decide, by decide, by decide⟩
    · exact ⟨2, rfl, by decide, by decide, by decide, by decide⟩
  · have : a = 1 ∨ a = 2 ∨ a = 3 ∨ a = 4 := by omega
    rcases this with rfl | rfl | rfl | rfl
    · exact ⟨1, rfl, by decide, by decide, by decide, by decide⟩
    · exact ⟨3, rfl, by decide, by decide, by decide, by decide⟩
    · exact ⟨2, rfl, by decide, by decide, by decide, by decide⟩
    · exact ⟨4, rfl, by decide, by decide, by decide, by decide⟩
  · have : a = 1 ∨ a = 2 ∨ a = 3 ∨ a = 4 ∨ a = 5 ∨ a = 6 := by omega
    rcases this with rfl | rfl | rfl | rfl | rfl | rfl
    · exact ⟨1, rfl, by decide, by decide, by decide, by decide⟩
    · exact ⟨4, rfl, by decide, by decide, by decide, by decide⟩
    · exact ⟨5, rfl, by decide, by decide, by decide, by decide⟩
    · exact ⟨2, rfl, by decide, by decide, by decide, by decide⟩
    · exact ⟨3, rfl, by decide, by decide, by decide, by decide⟩
    · exact ⟨6, rfl, by decide, by decide, by decide, by decide⟩
/-! ### scaled -/
theorem fixS_seq {X : D} {l : List D} {i : Int} {d : D} {μ : Mu} (hX : seqD X = some l) (h : atI l i = some d) : fIxS X (.int i) μ = some (.val d, μ) := by
  cases X <;> first | cases hX; simp only [fIxS, fIx, h, Dv.ret] | cases hX
theorem fTuple_ {X : D} {l : List D} {μ : Mu} (hX : seqD X = some l) : fTuple [X] μ = some (.val (.tup l), μ) := by
  cases X <;> first | cases hX; rfl | cases hX
theorem atI_intsD {l : List Int} {k : Nat} {x : Int} (h : l[k]? = some x) : atI (intsD l) (k : Int) = some (.int x) := by
  have hk := (List.getElem?_eq_some_iff.mp h).1
  rw [atI_of (Int.natCast_nonneg _) (by simpa using hk)]
  simp [h]
theorem scaled0 {X : D} {xs : List Int} {p : Int} {μ : Mu} (hX : seqD X = some (intsD xs)) (h : leadN xs = xs.length) : mScaled [X, .int p] μ = some (.val (tupI xs), μ) := by
  refine def_ret (env := [.v X, .v (.int p), .v (.int (leadN xs))]) ?_ rfl
  show bScaled [.v X, .v (.int p), .no] μ = _
  simp (decide := true) only [bScaled, dSeq, dIfS, dRet, dSkip, dAsg, tName, unbor, bindS, dTest, fTest, dBin, dC, dVar, dNotT, dAndT, dOrT, dAndV, dOrV, dIf, bindR, Dv.ret, hold_new, hold_int, hold_bl, hold_tup, hold_lst, hold_obj, hold_str, hold_non, hold_ty, hold_bor, dCall, dCons, dNil, dIter, fIter, dArg, nobor_new, nobor_int, nobor_bl, nobor_tup, nobor_lst, nobor_obj, nobor_str, nobor_non, nobor_ty, Bool.and_self, and_self, if_true, if_false, Bool.false_eq_true, Bool.not_true, Bool.not_false, List.all_cons, List.all_nil, List.length_cons, List.length_nil, Nat.zero_add, Nat.reduceAdd, List.getElem?_cons_zero, List.getElem?_cons_succ, List.set_cons_zero, List.set_cons_succ, fCall, decide_true, decide_false, (seqD_hold hX).1, (seqD_hold hX).2.1, leading_ok hX, flen_ hX, List.length_map, feq_int, h, fTuple_ hX]
theorem scaled1 {X : D} {xs : List Int} {p x b : Int} {μ : Mu} (hX : seqD X = some (intsD xs)) (hp : 0 < p) (h : leadN xs < xs.length) (hx : xs[leadN xs]? = some x) (hb : mInverse [.int x, .int p] μ = some (.val (.int b), μ)) (b0 : 0 < b) (b1 : b < 1000000) :
    mScaled [X, .int p] μ = some (.val (tupI (xs.map fun y => y * b % p)), μ) := by
  refine def_ret (env := [.v X, .v (.int p), .v (.int (leadN xs))]) ?_ rfl
  show bScaled [.v X, .v (.int p), .no] μ = _
  have hne : ¬ ((leadN xs : Int) = (xs.length : Int)) := by omega
  simp (decide := true) only [bScaled, dSeq, dIfS, dRet, dSkip, dAsg, tName, unbor, bindS, dTest, fTest, dBin, dC, dVar, dNotT, dAndT, dOrT, dAndV, dOrV, dIf, bindR, Dv.ret, hold_new, hold_int, hold_bl, hold_tup, hold_lst, hold_obj, hold_str, hold_non, hold_ty, hold_bor, dCall, dCons, dNil, dIter, fIter, dArg, nobor_new, nobor_int, nobor_bl, nobor_tup, nobor_lst, nobor_obj, nobor_str, nobor_non, nobor_ty, Bool.and_self, and_self, if_true, if_false, Bool.false_eq_true, Bool.not_true, Bool.not_false, List.all_cons, List.all_nil, List.length_cons, List.length_nil, Nat.zero_add, Nat.reduceAdd, List.getElem?_cons_zero, List.getElem?_cons_succ, List.set_cons_zero, List.set_cons_succ, fCall, decide_true, decide_false, (seqD_hold hX).1, (seqD_hold hX).2.1, leading_ok hX, flen_ hX, List.length_map, feq_int, hne, fixS_seq hX (atI_intsD hx), hb, multiplied_ok hX hp (Int.le_of_lt b0) b1]
/-! ### the law's own leading place -/
theorem lead_filter : ∀ xs : List Int, ((List.range xs.length).filter fun i => !decide ((xs[i]?.getD 0) = 0)).head? = if leadN xs < xs.length then some (leadN xs) else none
  | [] => rfl
  | x :: l => by
    rw [List.length_cons, List.range_succ_eq_map, List.filter_cons]
    rw [leadN_cons]
    by_cases h0 : x = 0
    · have ih := lead_filter l
      rw [if_neg (by simp [h0]), if_pos h0, List.filter_map, List.head?_map]
      have e : ((fun i => !decide (((x :: l)[i]?.getD 0) = 0)) ∘ Nat.succ) = fun i => !decide ((l[i]?.getD 0) = 0) := by
        funext i; simp
      rw [e, ih]
      by_cases hl : leadN l < l.length
      · rw [if_pos hl, if_pos (by omega)]; rfl
      · rw [if_neg hl, if_neg (by omega)]; rfl
    · rw [if_pos (by simp [h0]), if_neg h0]; simp
theorem lead_ok {X : D} {xs : List Int} {μ : Mu} (hX : seqD X = some (intsD xs)) (hz : xs.length ≤ 1000) : mLead [X] μ = some (.val (.int (if leadN xs < xs.length then (leadN xs : Int) else -1)), μ) := by
  have hr : rangeD 0 (xs.length : Int) = (List.range xs.length).map fun (i : Nat) => D.int i := by
    unfold rangeD
    have : ((xs.length : Int) - 0).toNat = xs.length := by omega
    rw [this]
    congr 1
    funext i
    rw [Int.zero_add]
  have hc := dLc_of (it := dArg fRange1 (dCons (dCall fLen (dCons (dVar 0) dNil)) dNil)) (own := [2]) (env := [.v X, .no, .no]) (μ := μ) rfl (by
      simp (decide := true) only [dSeq, dIfS, dRet, dSkip, dAsg, tName, unbor, bindS, dTest, fTest, dBin, dC, dVar, dNotT, dAndT, dOrT, dAndV, dOrV, dIf, bindR, Dv.ret, hold_new, hold_int, hold_bl, hold_tup, hold_lst, hold_obj, hold_str, hold_non, hold_ty, hold_bor, dCall, dCons, dNil, dIter, fIter, dArg, nobor_new, nobor_int, nobor_bl, nobor_tup, nobor_lst, nobor_obj, nobor_str, nobor_non, nobor_ty, Bool.and_self, and_self, if_true, if_false, Bool.false_eq_true, Bool.not_true, Bool.not_false, List.all_cons, List.all_nil, List.length_cons, List.length_nil, Nat.zero_add, Nat.reduceAdd, List.getElem?_cons_zero, List.getElem?_cons_succ, List.set_cons_zero, List.set_cons_succ, fCall, decide_true, decide_false, (seqD_hold hX).1, flen_ hX, List.length_map, range1_ _ _ (Int.natCast_nonneg xs.length) (by omega : (xs.length : Int) ≤ 16777216), hr]) (lc_filter (fun (i : Nat) => .int (i : Int)) (fun i => .int (i : Int)) (fun i => !decide ((xs[i]?.getD 0) = 0)) (List.range xs.length) (tt := dTest (dBin fNe (dBin fIxS (dVar 0) (dVar 2)) (dC (.int 0)))) (tg := tName 2) (el := dVar 2) (μ := μ) (fun i hi => by
        have hlt := List.mem_range.mp hi
        have hx : xs[i]? = some xs[i] := by simp [hlt]
        refine ⟨[.v X, .no, .v (.int i)], rfl, ?_, ?_, rfl⟩
        · simp (decide := true) only [dSeq, dIfS, dRet, dSkip, dAsg, tName, unbor, bindS, dTest, fTest, dBin, dC, dVar, dNotT, dAndT, dOrT, dAndV, dOrV, dIf, bindR, Dv.ret, hold_new, hold_int, hold_bl, hold_tup, hold_lst, hold_obj, hold_str, hold_non, hold_ty, hold_bor, dCall, dCons, dNil, dIter, fIter, dArg, nobor_new, nobor_int, nobor_bl, nobor_tup, nobor_lst, nobor_obj, nobor_str, nobor_non, nobor_ty, Bool.and_self, and_self, if_true, if_false, Bool.false_eq_true, Bool.not_true, Bool.not_false, List.all_cons, List.all_nil, List.length_cons, List.length_nil, Nat.zero_add, Nat.reduceAdd, List.getElem?_cons_zero, List.getElem?_cons_succ, List.set_cons_zero, List.set_cons_succ, fCall, decide_true, decide_false, (seqD_hold hX).1, fixS_seq hX (atI_intsD hx), fne_int, hx, Option.getD_some]
        · simp (decide := true) only [dSeq, dIfS, dRet, dSkip, dAsg, tName, unbor, bindS, dTest, fTest, dBin, dC, dVar, dNotT, dAndT, dOrT, dAndV, dOrV, dIf, bindR, Dv.ret, hold_new, hold_int, hold_bl, hold_tup, hold_lst, hold_obj, hold_str, hold_non, hold_ty, hold_bor, dCall, dCons, dNil, dIter, fIter, dArg, nobor_new, nobor_int, nobor_bl, nobor_tup, nobor_lst, nobor_obj, nobor_str, nobor_non, nobor_ty, Bool.and_self, and_self, if_true, if_false, Bool.false_eq_true, Bool.not_true, Bool.not_false, List.all_cons, List.all_nil, List.length_cons, List.length_nil, Nat.zero_add, Nat.reduceAdd, List.getElem?_cons_zero, List.getElem?_cons_succ, List.set_cons_zero, List.set_cons_succ, fCall, decide_true, decide_false]))
  have hf := lead_filter xs
  refine def_ret (env := [.v X, .v (.lst (((List.range xs.length).filter fun i => !decide ((xs[i]?.getD 0) = 0)).map fun (i : Nat) => .int (i : Int))), .no]) ?_ rfl
  show bLead [.v X, .no, .no] μ = _
  have e : (((List.range xs.length).filter fun i => !decide ((xs[i]?.getD 0) = 0)).map fun (i : Nat) => hold (.int (i : Int))) = (((List.range xs.length).filter fun i => !decide ((xs[i]?.getD 0) = 0)).map fun (i : Nat) => D.int (i : Int)) := rfl
  rw [e] at hc
  generalize (List.range xs.length).filter (fun i => !decide ((xs[i]?.getD 0) = 0)) = ps at hc hf
  cases ps with
  | nil =>
    have hn : ¬ leadN xs < xs.length := fun h => by rw [if_pos h] at hf; cases hf
    rw [if_neg hn]
    have en : fNe (.lst []) (.lst []) μ = some (.val (.bl false), μ) := rfl
    simp (decide := true) only [bLead, hc, dSeq, dIfS, dRet, dSkip, dAsg, tName, unbor, bindS, dTest, fTest, dBin, dC, dVar, dNotT, dAndT, dOrT, dAndV, dOrV, dIf, bindR, Dv.ret, hold_new, hold_int, hold_bl, hold_tup, hold_lst, hold_obj, hold_str, hold_non, hold_ty, hold_bor, dCall, dCons, dNil, dIter, fIter, dArg, nobor_new, nobor_int, nobor_bl, nobor_tup, nobor_lst, nobor_obj, nobor_str, nobor_non, nobor_ty, Bool.and_self, and_self, if_true, if_false, Bool.false_eq_true, Bool.not_true, Bool.not_false, List.all_cons, List.all_nil, List.length_cons, List.length_nil, Nat.zero_add, Nat.reduceAdd, List.getElem?_cons_zero, List.getElem?_cons_succ, List.set_cons_zero, List.set_cons_succ, fCall, decide_true, decide_false, dLst, fLst, List.map_nil, en, fSub]
    rfl
  | cons i ps =>
    have hn : leadN xs < xs.length := by
      by_cases h : leadN xs < xs.length
      · exact h
      · rw [if_neg h] at hf; cases hf
    rw [if_pos hn] at hf ⊢
    cases hf
    have en : fNe (.lst (D.int (leadN xs : Int) :: ps.map fun (i : Nat) => D.int (i : Int))) (.lst []) μ = some (.val (.bl true), μ) := by
      have hp : plainD 60 (.lst (D.int (leadN xs : Int) :: ps.map fun (i : Nat) => D.int (i : Int))) = true := by
        unfold plainD
        rw [List.all_cons, plainD_int, Bool.true_and, List.all_eq_true]
        intro d hd
        obtain ⟨i, _, rfl⟩ := List.mem_map.mp hd
        exact plainD_int _ _
      have hp2 : plainD 60 (.lst []) = true := rfl
      simp only [fNe, hp, hp2, Bool.and_self, if_true, Dv.ret]
      rfl
    have ei : fIxS (.lst (D.int (leadN xs : Int) :: ps.map fun (i : Nat) => D.int (i : Int))) (.int 0) μ = some (.val (.int (leadN xs : Int)), μ) := by
      refine fixS_seq rfl ?_
      rw [atI_of (by decide) (by simp)]; rfl
    simp (decide := true) only [bLead, hc, dSeq, dIfS, dRet, dSkip, dAsg, tName, unbor, bindS, dTest, fTest, dBin, dC, dVar, dNotT, dAndT, dOrT, dAndV, dOrV, dIf, bindR, Dv.ret, hold_new, hold_int, hold_bl, hold_tup, hold_lst, hold_obj, hold_str, hold_non, hold_ty, hold_bor, dCall, dCons, dNil, dIter, fIter, dArg, nobor_new, nobor_int, nobor_bl, nobor_tup, nobor_lst, nobor_obj, nobor_str, nobor_non, nobor_ty, Bool.and_self, and_self, if_true, if_false, Bool.false_eq_true, Bool.not_true, Bool.not_false, List.all_cons, List.all_nil, List.length_cons, List.length_nil, Nat.zero_add, Nat.reduceAdd, List.getElem?_cons_zero, List.getElem?_cons_succ, List.set_cons_zero, List.set_cons_succ, fCall, decide_true, decide_false, dLst, fLst, List.map_cons, en, ei]
end Dv

/-! DvU: equality of data, the source, more. -/
namespace Dv
open PySem PySem.Spec PyProof.Rows L2
theorem deq_refl : ∀ (n : Nat) (d : D), lkD n d = true → deq d d = true := by
  intro n
  induction n with
  | zero => ?_
  | succ n ih => ?_
  all_goals intro d hd
  all_goals cases d
  all_goals try (simp [lkD] at hd; done)
  all_goals try (simp [deq, toPy, PyData.eqv]; done)
  all_goals
    rename_i l
    have hl : ∀ d ∈ l, lkD n d = true := List.all_eq_true.mp (by simpa [lkD] using hd)
    have q : ∀ m : List D, (∀ d ∈ m, lkD n d = true) → PyData.eqvAll (toPys m) (toPys m) = true := by
      intro m
      induction m with
      | nil => intro _; rfl
      | cons d m ih2 =>
        intro h
        unfold toPys PyData.eqvAll
        have e1 : PyData.eqv (toPy d) (toPy d) = true := ih d (h d List.mem_cons_self)
        rw [e1, ih2 fun x hx => h x (List.mem_cons_of_mem _ hx)]; rfl
    simp only [deq, toPy, PyData.eqv]
    exact q l hl
theorem lk_int (n : Nat) (i : Int) : lkD n (.int i) = true := by cases n <;> rfl
theorem lk_intsD (n : Nat) (l : List Int) : (intsD l).all (lkD n) = true := by
  rw [List.all_eq_true]; intro d hd
  obtain ⟨i, _, rfl⟩ := List.mem_map.mp hd
  exact lk_int n i
theorem lk_tupI (n : Nat) (l : List Int) : lkD (n + 1) (tupI l) = true := lk_intsD n l
theorem lk_lstI (n : Nat) (l : List Int) : lkD (n + 1) (lstI l) = true := lk_intsD n l
theorem lk_plain : ∀ {n : Nat} {d : D}, lkD n d = true → plainD n d = true := by
  intro n
  induction n with
  | zero => ?_
  | succ n ih => ?_
  all_goals intro d hd
  all_goals cases d
  all_goals try (simp [lkD] at hd; done)
  all_goals try rfl
  all_goals try (simpa [lkD, plainD] using hd)
  all_goals
    rename_i l
    have hl : ∀ d ∈ l, lkD n d = true := List.all_eq_true.mp (by simpa [lkD] using hd)
    unfold plainD
    exact List.all_eq_true.mpr fun d h => ih (hl d h)
theorem lk_up : ∀ {n : Nat} {d : D}, lkD n d = true → lkD (n + 1) d = true := by
  intro n
  induction n with
  | zero => ?_
  | succ n ih => ?_
  all_goals intro d hd
  all_goals cases d
  all_goals try (simp [lkD] at hd; done)
  all_goals try rfl
  all_goals try (simp [lkD] at hd ⊢; exact hd)
  all_goals
    rename_i l
    have hl : ∀ d ∈ l, lkD n d = true := List.all_eq_true.mp (by simpa [lkD] using hd)
    unfold lkD
    exact List.all_eq_true.mpr fun d h => ih (hl d h)
theorem lk_le {n m : Nat} {d : D} (h : lkD n d = true) (hm : n ≤ m) : lkD m d = true := by
  induction hm with
  | refl => exact h
  | step _ ih => exact lk_up ih
theorem feq_self {d : D} (n : Nat) (h : lkD n d = true) (hn : n ≤ 60) (μ : Mu) : fEq d d μ = some (.val (.bl true), μ) := by
  have hp := lk_plain (lk_le h hn)
  simp only [fEq, hp, Bool.and_self, if_true, deq_refl n d h, Dv.ret]
theorem fne_self {d : D} (n : Nat) (h : lkD n d = true) (hn : n ≤ 60) (μ : Mu) : fNe d d μ = some (.val (.bl false), μ) := by
  have hp := lk_plain (lk_le h hn)
  simp only [fNe, hp, Bool.and_self, if_true, deq_refl n d h, Dv.ret, Bool.not_true]
theorem eqvAll_ints : ∀ a b : List Int, PyData.eqvAll (toPys (intsD a)) (toPys (intsD b)) = decide (a = b)
  | [], [] => rfl
  | [], _ :: _ => rfl
  | _ :: _, [] => rfl
  | x :: a, y :: b => by
    show PyData.eqvAll (toPy (.int x) :: toPys (intsD a)) (toPy (.int y) :: toPys (intsD b)) = _
    unfold PyData.eqvAll
    rw [eqvAll_ints a b]
    have : PyData.eqv (toPy (.int x)) (toPy (.int y)) = decide (x = y) := deq_int x y
    rw [this]
    by_cases h1 : x = y <;> by_cases h2 : a = b <;> simp [h1, h2]
theorem feq_tup (a b : List Int) (μ : Mu) : fEq (tupI a) (tupI b) μ = some (.val (.bl (decide (a = b))), μ) := by
  have h1 : plainD 60 (tupI a) = true := lk_plain (lk_le (lk_tupI 0 a) (by decide))
  have h2 : plainD 60 (tupI b) = true := lk_plain (lk_le (lk_tupI 0 b) (by decide))
  have e : deq (tupI a) (tupI b) = decide (a = b) := by
    simp only [deq, tupI, toPy, PyData.eqv]; exact eqvAll_ints a b
  simp only [fEq, h1, h2, Bool.and_self, if_true, e, Dv.ret]
theorem fne_tup (a b : List Int) (μ : Mu) : fNe (tupI a) (tupI b) μ = some (.val (.bl (!decide (a = b))), μ) := by
  have h1 : plainD 60 (tupI a) = true := lk_plain (lk_le (lk_tupI 0 a) (by decide))
  have h2 : plainD 60 (tupI b) = true := lk_plain (lk_le (lk_tupI 0 b) (by decide))
  have e : deq (tupI a) (tupI b) = decide (a = b) := by
    simp only [deq, tupI, toPy, PyData.eqv]; exact eqvAll_ints a b
  simp only [fNe, h1, h2, Bool.and_self, if_true, e, Dv.ret]
/-! ### the drawer's making -/
theorem cut_intsD (l : List Int) (lo hi : Option Int) : cutD (intsD l) lo hi = intsD (cutD l lo hi) := by
  unfold cutD intsD
  rw [List.length_map, List.map_take, List.map_drop]
theorem source_ok (k c : Int) (ns : List Int) (hl : ns.length ≤ 63) :
    ∃ s, adopt (cleanD (defD 1 (dRet (dLst (dCons (dCall fList (dCons (dSl (dVar 0) dNoPart (dPart (dC (.int k)))) dNil)) (dCons (dC (.int 0)) (dCons (dC (.int 0)) (dCons (dC (.int c)) (dCons (dC (.int 0)) dNil))))))))) [.scr (intsD ns)] [] = some (.val (.obj 0), [.src s]) ∧ (0 ≤ c → c < 2147483587 → OkS s) := by
  have hz := cut_len ns none (some k)
  refine ⟨⟨cutD ns none (some k), 0, 0, c, 0⟩, ?_, fun h0 h1 => ⟨Nat.le_trans hz hl, Int.le_refl 0, h0, h1⟩⟩
  have e : cleanD (defD 1 (dRet (dLst (dCons (dCall fList (dCons (dSl (dVar 0) dNoPart (dPart (dC (.int k)))) dNil)) (dCons (dC (.int 0)) (dCons (dC (.int 0)) (dCons (dC (.int c)) (dCons (dC (.int 0)) dNil)))))))) [.scr (intsD ns)] [] = some (.val (.new [.lst (intsD (cutD ns none (some k))), .int 0, .int 0, .int c, .int 0]), []) := by
    refine def_ret (env := [.v (.scr (intsD ns))]) ?_ rfl
    have h : hold (.scr (intsD ns)) = .scr (intsD ns) := rfl
    show dRet _ [.v (.scr (intsD ns))] [] = _
    simp (decide := true) only [dSeq, dIfS, dRet, dSkip, dAsg, tName, unbor, bindS, dTest, fTest, dBin, dC, dVar, dNotT, dAndT, dOrT, dAndV, dOrV, dIf, bindR, Dv.ret, hold_new, hold_int, hold_bl, hold_tup, hold_lst, hold_obj, hold_str, hold_non, hold_ty, hold_bor, dCall, dCons, dNil, dIter, fIter, dArg, nobor_new, nobor_int, nobor_bl, nobor_tup, nobor_lst, nobor_obj, nobor_str, nobor_non, nobor_ty, Bool.and_self, and_self, if_true, if_false, Bool.false_eq_true, Bool.not_true, Bool.not_false, List.all_cons, List.all_nil, List.length_cons, List.length_nil, Nat.zero_add, Nat.reduceAdd, List.getElem?_cons_zero, List.getElem?_cons_succ, List.set_cons_zero, List.set_cons_succ, fCall, decide_true, decide_false, dSl, dNoPart, dPart, fPart, fSl, h, fList, cut_intsD, dLst, fLst]
  unfold adopt
  rw [e]
  simp only [asInts_intsD, List.length_nil, List.nil_append]
/-! ### zeros -/
theorem flat_one (n : Nat) : (List.replicate n [D.int 0]).flatten = intsD (List.replicate n 0) := by
  induction n with
  | zero => rfl
  | succ n ih => rw [List.replicate_succ, List.flatten_cons, ih]; rfl
theorem zeros_ (n : Int) (μ : Mu) (h0 : 1 ≤ n) (h1 : n ≤ 1000) : fMul (.tup [.int 0]) (.int n) μ = some (.val (tupI (List.replicate n.toNat 0)), μ) := by
  have h : 1 ≤ n ∧ n ≤ 1000 ∧ [D.int 0].length ≤ 1000 ∧ [D.int 0] ≠ [] := ⟨h0, h1, by decide, by simp⟩
  simp only [fMul, if_pos h, repL, flat_one, Dv.ret]
theorem zip_zeros (g : Int × Int → Int) : ∀ a : List Int, ((List.replicate a.length 0).zip a).map g = a.map fun x => g (0, x)
  | [] => rfl
  | x :: a => by
    have := zip_zeros g a
    simp [List.replicate_succ, this]
end Dv

/-! DwA: an own error's __init__ that begins with super().__init__(text): the context, the first statement, the def by the rest of its body. -/
namespace Dv
open PySem PySem.Spec PyProof.Rows L2
/-- such a def, the class D in its cell -/
structure SupD (P : Program) (K : PySem.W.Frag) (x qual : Str) (params : Arguments) (body : List Stmt) (scope : Scope) (f : Addr) (fd : FuncData) (D : Addr) : Prop where
  ex : ∃ (oc : Value) (od : Option Addr) (kV doc pm : Value) (an : Option Addr) (cda : Addr) (ct : Value) (osl : Array (Option Value)) (cc : Addr) (cl : Value) (cld : Option Addr) (csl : Array (Option Value)) (ccl : Value) (cdd : Option Addr) (vs : Array Value) (ccs : Array (Option Value)) (file : Str) (tf : Tok),
    fd = PySem.W.ksFn x qual params body scope .none kV doc pm an (.ref cda) ct cc ∧ K.lookup f = some ⟨oc, od, .func fd, osl⟩ ∧ PySem.W.codeIn K (.ref cda) qual = true ∧ K.lookup cda = some ⟨ccl, cdd, .fields vs, ccs⟩ ∧ vs[2]? = some (.str file tf) ∧ (P.main.file == file) = true ∧ K.lookup cc = some ⟨cl, cld, .cell (some (.ref D)), csl⟩
  kp : PySem.W.keepIn K (.ref f) = true
structure SupScope (N ps : List Str) (sc : Scope) : Prop where
  kind : sc.kind = ScopeKind.function
  co : sc.isCoroutine = false
  gen : sc.isGenerator = false
  nd : N.Nodup
  pre : N.take ps.length = ps
  par : ∀ x ∈ ps, sc.names.lookup x = some .local
  nocell : ∀ y ∈ sc.names, y.2 ≠ .cell
  free : ∀ y ∈ sc.names, y.2 = .free → y.1 = "__class__"
  cls : sc.names.lookup ("__class__" : Str) = some .free
  sup : sc.names.lookup ("super" : Str) = some .globalImplicit
abbrev envS (qual : Str) (scope : Scope) (L f : Addr) (cd : Value) (cc : Addr) : Env := PySem.W.ksEnv qual scope L f cd cc
def cxS (P : Program) (w : World) (K : PySem.W.Frag) (mg : Str → Option Value) (base : Heap) (N : List Str) (qual : Str) (scope : Scope) (f : Addr) (cd : Value) (cc : Addr) (A : Around) (outer : List Env) (s : Shared) (H : Hp) (E : XK) : Cx where
  prog := P
  w := w
  K := K
  mg := mg
  base := base
  A := A.deeper (envS qual scope s.heap.objs.size f cd cc)
  N := N
  s_0 := s
  H_0 := H
  env := envS qual scope s.heap.objs.size f cd cc
  outer := outer
  stack := envS qual scope s.heap.objs.size f cd cc :: outer
  ex := []
  calm := true
  fn := fun _ => false
  pn := []
  xe := fun e s' => wpAny (model P w) (A.deeper (envS qual scope s.heap.objs.size f cd cc)) (leaving (envS qual scope s.heap.objs.size f cd cc) e) (fun _ s'' => L2.CX P w outer H s E e s'') (fun e' s'' => L2.CX P w outer H s E e' s'') s'
theorem lookup_mem_nodup {α : Type} {x : Str} {v : α} : ∀ {l : List (Str × α)}, (l.map (·.1)).Nodup → (x, v) ∈ l → l.lookup x = some v
  | [], _, h => absurd h List.not_mem_nil
  | (y, u) :: l, nd, h => by
    rw [List.map_cons, List.nodup_cons] at nd
    rcases List.mem_cons.mp h with e | h
    · cases e; simp [List.lookup]
    · have ne : ¬ x = y := fun e => nd.1 (by rw [← e]; exact List.mem_map.mpr ⟨_, h, rfl⟩)
      have e : (x == y) = false := by simpa using ne
      unfold List.lookup
      rw [e]
      exact lookup_mem_nodup nd.2 h
/-- what stands at the entry comes from the arguments -/
theorem start_get {N : List Str} {vs : List V} {i : Nat} {v : V} (h : (L2.start N vs)[i]? = some (some v)) : vs[i]? = some v := by
  have h : (vs.map some ++ List.replicate (N.length - vs.length) (none : Option V))[i]? = some (some v) := h
  rw [List.getElem?_append, List.length_map] at h
  split at h
  · rw [List.getElem?_map] at h
    cases q : vs[i]? <;> rw [q] at h <;> cases h
    rfl
  · rw [List.getElem?_replicate] at h
    split at h <;> cases h
theorem mem_free {sc : Scope} {y : Str} {k : NameKind} (h : sc.names.lookup y = some k) : (y, k) ∈ sc.names := PySem.mem_of_lookup h
section
variable {P : Program} {w : World} {K : PySem.W.Frag} {mg : Str → Option Value} {base : Heap} {N ps : List Str} {qual : Str} {scope : Scope} {f cc : Addr} {cd : Value} {A : Around} {outer : List Env} {s : Shared} {H : Hp} {E : XK} {us : List Value} {vs : List V} {h1 : Heap}
theorem inv_startS {cl : Value} {cld : Option Addr} {csl : Array (Option Value)} {D : Addr} (S : SupScope N ps scope) (hd : A.handled = none) (e0 : Env0 P w K mg base A outer s H) (hl : vs.length = ps.length) (r : Vals vs us) (hc : K.lookup cc = some ⟨cl, cld, .cell (some (.ref D)), csl⟩)
    (hns : h1.Ns s.heap.objs.size (fun x => (ps.zip us).reverse.lookup x)) (hk : ∀ b o, s.heap.get? b = some o → h1.get? b = some o) (tk : Nat) :
    Inv (cxS P w K mg base N qual scope f cd cc A outer s H E) [] (L2.start N vs) H { s with heap := h1, toks := tk } := by
  have hpl : ps.length ≤ N.length := by have := congrArg List.length S.pre; rw [List.length_take] at this; omega
  have noA : ∀ b : Addr, b ∉ (cxS P w K mg base N qual scope f cd cc A outer s H E).ex := fun b z => absurd (show b ∈ ([] : List Addr) from z) (by simp)
  have one : ∀ {x : Str} {c : Addr}, List.lookup x [(("__class__" : Str), cc)] = some c → x = "__class__" ∧ c = cc := fun {x c} h => by
    have := PySem.mem_of_lookup h
    simp only [List.mem_cons, List.not_mem_nil, or_false, Prod.mk.injEq] at this
    exact this
  have hcell : base.get? cc = some ⟨cl, cld, .cell (some (.ref D)), csl⟩ := e0.mod.kin _ _ hc
  have hcs := e0.bs _ _ hcell
  refine ⟨⟨e0.mod, S.kind, rfl, rfl, Nat.le_refl _, fun y z c h1 h2 => ?_, fun y hy => ?_, fun y c hf _ => (by cases hf), fun _ => hd, Around.frames_deeper e0.frames, .inr ⟨rfl, rfl⟩, fun b z => absurd z (noA b), e0.bs, e0.bsz, fun b _ _ => noA b, fun b z => absurd z (noA b), e0.funs, e0.frf⟩,
    rfl, e0.bare, Un.kept hk, ⟨_, hns, fun i y v h1 h2 h3 => ?_⟩, fun y c h => ⟨some (.ref D), ?_⟩, e0.hok.fresh (Nat.le_refl _), fun y c h => ?_, fun p hp => absurd (show p ∈ ([] : List (Addr × Obj)) from hp) (by simp), e0.hok.kept hk, ?_⟩
  · exact (one h1).1.trans (one h2).1.symm
  · have hy : scope.names.lookup y = some .cell ∨ scope.names.lookup y = some .free := hy
    rcases hy with hy | hy
    · exact absurd rfl (S.nocell _ (mem_free hy))
    · have e := S.free _ (mem_free hy) rfl
      have e : y = "__class__" := e
      subst e
      exact ⟨cc, rfl⟩
  · have ha := start_get h2
    obtain ⟨u, hu, rv⟩ := r.get ha
    have hi : i < vs.length := (List.getElem?_eq_some_iff.mp ha).1
    have hp : ps[i]? = some y := S.pre ▸ ((List.getElem?_take_of_lt (by omega)).trans h1 : (N.take ps.length)[i]? = some y)
    have ndP : ps.Nodup := S.pre ▸ S.nd.sublist (List.take_sublist ps.length N)
    refine ⟨u, rv, .inl ⟨S.par y (List.mem_of_getElem? hp), ?_⟩⟩
    have hm : (y, u) ∈ ps.zip us := List.mem_iff_getElem?.mpr ⟨i, by rw [List.getElem?_zip_eq_some]; exact ⟨hp, hu⟩⟩
    refine lookup_mem_nodup ?_ (List.mem_reverse.mpr hm)
    rw [List.map_reverse]
    have hul : us.length = ps.length := by rw [← Paired.length r]; exact hl
    have : (ps.zip us).map (·.1) = ps := List.map_fst_zip (by omega)
    rw [this]
    exact (List.pairwise_reverse).mpr (ndP.imp fun h => Ne.symm h)
  · have := one h
    rw [this.2]
    exact ⟨_, hk _ _ hcs.1, rfl⟩
  · have := one h
    rw [this.2]
    exact hcs.2
  · unfold L2.start
    show _ = N.length
    rw [List.length_append, List.length_map, List.length_replicate]
    omega
/-! ### errors over ValueError, LookupError, IndexError -/
inductive EBase where
  | ve | le | ie
def EBase.nm : EBase → String
  | .ve => "ValueError"
  | .le => "LookupError"
  | .ie => "IndexError"
def EBase.new : EBase → String
  | .ve => "ValueError.__new__"
  | .le => "LookupError.__new__"
  | .ie => "IndexError.__new__"
def EBase.ini : EBase → String
  | .ve => "ValueError.__init__"
  | .le => "LookupError.__init__"
  | .ie => "IndexError.__init__"
def EBase.tail : EBase → List Value
  | .ve => [.type "ValueError", .type "Exception", .type "BaseException", .type "object"]
  | .le => [.type "LookupError", .type "Exception", .type "BaseException", .type "object"]
  | .ie => [.type "IndexError", .type "LookupError", .type "Exception", .type "BaseException", .type "object"]
theorem EBase.facts : ∀ b : EBase, ExcBaseFacts b.nm b.new b.ini b.tail
  | .ve => F.excBase_ValueError
  | .le => F.excBase_LookupError
  | .ie => F.excBase_IndexError
theorem EBase.store : ∀ b : EBase, StoreFacts b.nm b.tail "object.__setattr__" "object"
  | .ve => F.store_ValueError
  | .le => F.store_LookupError
  | .ie => F.store_IndexError
theorem EBase.kxs : ∀ b : EBase, PySem.W.KxsFacts b.nm b.ini
  | .ve => PySem.W.kxs_ValueError
  | .le => PySem.W.kxs_LookupError
  | .ie => PySem.W.kxs_IndexError
/-- what the written part says of an own error class over the base b -/
structure OexN (K : PySem.W.Frag) (C : Addr) (b : EBase) : Prop where
  cls : ∃ nm q N bs bm sn sub ab col dd k0 k1 k2 k3 k5, K.lookup C = some (excClassObj nm q C N bs bm true sn sub ab col dd k0 k1 k2 k3 k5 b.new) ∧ PySem.W.excTail b.tail bm = true
  sa : PySem.W.findIn K (.ref C) "__setattr__" = some (some (.builtin "object.__setattr__"))
  exC : PySem.W.subIn K (.ref C) (.type "BaseException") = some true
  tyC : PySem.W.typeIn K (.ref C) = some (.type "type")
  kC : PySem.W.keepIn K (.ref C) = true
/-- what the class C of the object that is made has, D the class in the cell -/
structure SupC (K : PySem.W.Frag) (C D : Addr) (b : EBase) : Prop where
  oex : OexN K C b
  clsD : ∃ cd, PySem.W.clsIn K D = some cd
  sub : PySem.W.mroIn K C (.ref D) = some true
  sup : PySem.W.ks_superIn K C D "__init__" = some (some (.builtin b.ini))
  subV : PySem.W.subIn K (.ref C) (.type b.nm) = some true
  nop : PySem.W.nsIn K cStatics "thirdparty.any" = some none
theorem call_mw {b0 : EBase} {C u x t0 : Addr} {rest : List Value} {A : Around} {E : Value → Shared → Prop} {Q : Value → Shared → Prop} {prog : Program} {w : World} {s : Shared} (T : OexN K C b0) (KX : K.In s.heap)
    (hu : s.heap.get? u = some (PySem.W.kxs_mw b0.ini x)) (hx : s.heap.get? x = some (PySem.W.excObj C t0 none .none)) (hz : rest.length ≤ sizeLine)
    (h : ∀ t' h', (∀ b o, b ≠ x → s.heap.get? b = some o → h'.get? b = some o) → h'.get? x = some (PySem.W.excObj C t' none .none) → Q .none { s with heap := h' }) :
    wpAny (model prog w) A (call (.ref u) rest) Q E s := by
  obtain ⟨nm, q, N, bs, bm, sn, sub, ab, col, dd, k0, k1, k2, k3, k5, hC, hbm⟩ := T.cls
  have hC' := KX _ _ hC
  obtain ⟨hh, g, d, tk, os⟩ := s
  refine wpAny_call (codeAny_of_tree ?_)
  show wpAny _ A.in1 (callAny (.ref u) ⟨rest, []⟩) _ _ _
  simp only [callAny]
  refine wpAny_bind (wpAny_load hu ?_)
  simp only [PySem.W.kxs_mw, show (Value.type "method-wrapper" == Value.type "method" || Value.type "method-wrapper" == Value.type "builtin_function_or_method" || Value.type "method-wrapper" == Value.type "method-wrapper") = true by decide, if_true]
  refine PySem.W.KFB.if_so (by decide) ?_
  refine wpAny_bind (PySem.W.check_bound_init b0.facts.toExcCallFacts hC' hx rfl ?_)
  refine wpAny_bind (wpAny_pure (wpAny_pure ?_))
  refine ⟨plainId_quiet b0.facts.init.plain _, codeAny_builtin b0.facts.initEntry ?_⟩
  exact PySem.W.exc_init_tree (cls := .ref C) (t0 := t0) (dv := none) (c2 := .none) (c3 := .none) (b4 := .bool false) hx hz fun h' k e' _ => h _ h' k e'
theorem super_step {b0 : EBase} {σ : L2.St} {H0 : Hp} {s1 : Shared} {a C D cda : Addr} {oc : Value} {od : Option Addr} {fd : FuncData} {osl : Array (Option Value)} {ar : Arg} {ccl : Value} {cdd : Option Addr} {fvs : Array Value} {ccs : Array (Option Value)} {file : Str} {tf : Tok} {cl : Value} {cld : Option Addr} {csl : Array (Option Value)} {body : List Stmt} {p0 p1 p2 p3 p4 pos : Pos} {txt : Str} {j : Nat} {Q : Flow → Shared → Prop} {E' : Value → Shared → Prop}
    (I : Inv (cxS P w K mg base N qual scope f (.ref cda) cc A outer s H0 E) [] σ H s1) (S : SupScope N ps scope) (hf : K.lookup f = some ⟨oc, od, .func fd, osl⟩) (hpar : (fd.params.posonlyargs ++ fd.params.args).head? = some ar) (har : scope.names.lookup ar.arg = some .local) (hN : N[0]? = some ar.arg) (hσ : σ[0]? = some (some (.ref a)))
    (hcode : K.lookup cda = some ⟨ccl, cdd, .fields fvs, ccs⟩) (hvs : fvs[2]? = some (.str file tf)) (hfile : (P.main.file == file) = true) (hcell : K.lookup cc = some ⟨cl, cld, .cell (some (.ref D)), csl⟩) (T : SupC K C D b0) (hmg : mg "super" = none) (htop : (P.main.scope.names.lookup ("super" : Str)).isSome = false) (e : H a = some (exo a C none))
    {pl : Sem Bool} (he : eval (.Call (.Attribute (.Call (.Name "super" p0) [] [] p1) "__init__" p2) [.Constant (.str txt) j p3] [] p4) (envS qual scope s.heap.objs.size f (.ref cda) cc) = (do
      let ov ← attributeBase (.Call (.Name "super" p0) [] [] p1) "__init__" (envS qual scope s.heap.objs.size f (.ref cda) cc) (eval (.Call (.Name "super" p0) [] [] p1) (envS qual scope s.heap.objs.size f (.ref cda) cc))
      standAt p2.atName
      let (f', first) ← holding [ov] (getMethod ov "__init__" pl)
      callWith p4 f' first (backTo p4 (starEach [.Constant (.str txt) j p3] (envS qual scope s.heap.objs.size f (.ref cda) cc))) []))
    (q : ∀ s', Inv (cxS P w K mg base N qual scope f (.ref cda) cc A outer s H0 E) [] σ H s' → Q .next s') :
    _root_.PySem.wpAt (model P w) (A.deeper (envS qual scope s.heap.objs.size f (.ref cda) cc)) (.func body (envS qual scope s.heap.objs.size f (.ref cda) cc)) (exec (.Expr (.Call (.Attribute (.Call (.Name "super" p0) [] [] p1) "__init__" p2) [.Constant (.str txt) j p3] [] p4) pos) (envS qual scope s.heap.objs.size f (.ref cda) cc)) Q E' s1 := by
  have KX : K.In s1.heap := I.kIn
  obtain ⟨m, hn, hlook⟩ := I.loc
  obtain ⟨u, ru, lk⟩ := hlook 0 ar.arg (.ref a) hN hσ (.inl har)
  have ru : u = .ref a := ru
  subst ru
  have hv : m ar.arg = some (.ref a) := by
    rcases lk with ⟨_, h⟩ | ⟨hk, _⟩
    · exact h
    · have hk : scope.names.lookup ar.arg = some .cell ∨ scope.names.lookup ar.arg = some .free := hk
      rw [har] at hk
      rcases hk with hk | hk <;> cases hk
  obtain ⟨t1, ho⟩ := exo_at I.hok e
  obtain ⟨cdD, hD⟩ := T.clsD
  obtain ⟨oD, hD1, hD2⟩ : ∃ oD, s1.heap.get? D = some oD ∧ oD.data = .cls cdD := by
    unfold PySem.W.clsIn at hD
    split at hD
    · rename_i c d cd' sl ho
      cases hD
      exact ⟨_, KX _ _ ho, rfl⟩
    · cases hD
  have hi : interactive (envS qual scope s.heap.objs.size f (.ref cda) cc) = false := I.quiet
  obtain ⟨hp, g, d, t, os⟩ := s1
  refine ks_wpAt_Expr_any (hi := hi) (ks_wpAt_MethodCall (pl := pl) (ks_wpAt_super_base S.sup S.cls (by decide) rfl (KX _ _ hf) rfl hpar rfl (KX _ _ hcode) rfl hvs hfile htop ?_) he)
  obtain ⟨mb, b1, b2⟩ := I.mod.blt
  refine PySem.W.ks_loadName_global S.kind S.sup (Calls.loadGlobal_builtin (I.mod.glob.keeps I.bk) hmg (b1.keeps I.bk) ((b2 "super" (by decide)).trans (by kernel_rfl : bootBuiltins "super" = some (.type "super"))) ⟨rfl, ?_⟩)
  refine wpAny_loadName_free S.kind S.cls rfl ⟨_, KX _ _ hcell, rfl⟩ ?_
  refine wpAny_loadName_local S.kind har hn hv ?_
  refine ks_wpAny_isType_cls hD1 hD2 ⟨rfl, ?_⟩
  refine ks_wpAny_call_super hD1 hD2 ho rfl (fun c z => by cases z) (PySem.W.looks_mroIn KX T.sub) (fun h' e' k => ?_)
  have I2 : Inv (cxS P w K mg base N qual scope f (.ref cda) cc A outer s H0 E) [] σ H ⟨h', g, d, t, os⟩ := I.kept (t' := t) k
  have ho2 := k _ _ ho
  have hin : PySem.W.InstAt h' a (PySem.W.excObj C t1 none .none) C none := ⟨ho2, rfl, rfl, trivial⟩
  obtain ⟨nm, qq, NN, bs, bm, sn, sub, ab, col, dd, k0, k1, k2, k3, k5, hC, hbm⟩ := T.oex.cls
  have hcl : ∃ cdC, PySem.W.clsIn K C = some cdC := by
    have := T.sup
    unfold PySem.W.ks_superIn at this
    cases z : PySem.W.clsIn K C with
    | none => rw [z] at this; cases this
    | some cdC => exact ⟨_, rfl⟩
  obtain ⟨cdC, hcC⟩ := hcl
  have hm := T.sup
  unfold PySem.W.ks_superIn at hm
  rw [hcC] at hm
  refine PySem.W.kxs_getMethod b0.kxs e' (PySem.W.looks_opaque I2.kIn T.nop) (l₀ := cdC.mro) (fun A Q E s k q => wpAny_bind ((PySem.W.looks_clsIn I2.kIn hcC) A _ E s k (wpAny_pure q))) rfl I2.kIn hm (hin.type.andThen (PySem.W.looks_subIn I2.kIn T.subV)) (PySem.W.ks_ne I2.kIn hin hcC) (by decide) ?_
  refine PySem.W.kxs_callWith (i := b0.ini) (x := a) rfl ?_
  refine Calls.evalArgs_plain ?_
  refine spliced_lits (pos := p4) (env := envS qual scope s.heap.objs.size f (.ref cda) cc) [.Constant (.str txt) j p3] [.str txt] _ _ rfl (fun vs tk hvs2 => ⟨Heap.get?_push_at rfl rfl, ?_⟩)
  have hlen : vs.length ≤ sizeLine := by
    cases hvs2 with
    | cons _ h =>
      cases h
      rw [sizeLine_eq]
      show 1 ≤ 16777216
      decide
  have I3 : Inv (cxS P w K mg base N qual scope f (.ref cda) cc A outer s H0 E) [] σ H ⟨h'.push (PySem.W.kxs_mw b0.ini a), g, d, tk, os⟩ := I2.kept (t' := tk) fun b o z => Heap.get?_push_of_some _ z
  refine call_mw T.oex I3.kIn (Heap.get?_push_at rfl rfl) (Heap.get?_push_of_some _ ho2) hlen fun t' h2 k2 e2 => q _ ?_
  have J := I3.write (t' := tk) (x := a) (e := a) (o := exo a C none) (by rw [e]; exact True.intro) (.inl rfl) k2 ⟨_, e2⟩ (exo_ok e2)
  have eu : upd H a (exo a C none) = H := by
    funext b
    by_cases hb : b = a
    · rw [hb, upd_same, e]
    · rw [upd_ne hb]
  rw [eu] at J
  exact J
/-- such a def, by the rest of its body -/
theorem sup_ok {x : Str} {params : Arguments} {rest : List Stmt} {fd : FuncData} {D : Addr} {ar : Arg} {k : Nat} {sp : Sp} {p0 p1 p2 p3 p4 pos : Pos} {txt : Str} {j : Nat} {pl : Sem Bool}
    (F : SupD P K x qual params (.Expr (.Call (.Attribute (.Call (.Name "super" p0) [] [] p1) "__init__" p2) [.Constant (.str txt) j p3] [] p4) pos :: rest) scope f fd D) (S : SupScope N ps scope) (hpar : (params.posonlyargs ++ params.args).head? = some ar) (har : scope.names.lookup ar.arg = some .local) (hN : N[0]? = some ar.arg)
    (hmg : mg "super" = none) (htop : (P.main.scope.names.lookup ("super" : Str)).isSome = false) (len : ∀ vs H Q E, sp vs H Q E → vs.length = ps.length) (first : ∀ vs H Q E, sp vs H Q E → ∃ a C vs' b0, vs = V.ref a :: vs' ∧ H a = some (exo a C none) ∧ SupC K C D b0)
    (he : ∀ env : Env, eval (.Call (.Attribute (.Call (.Name "super" p0) [] [] p1) "__init__" p2) [.Constant (.str txt) j p3] [] p4) env = (do
      let ov ← attributeBase (.Call (.Name "super" p0) [] [] p1) "__init__" env (eval (.Call (.Name "super" p0) [] [] p1) env)
      standAt p2.atName
      let (f', first) ← holding [ov] (getMethod ov "__init__" pl)
      callWith p4 f' first (backTo p4 (starEach [.Constant (.str txt) j p3] env)) []))
    (hrest : ∀ (cda cc : Addr) (A : Around) (outer : List Env) (s : Shared) (H : Hp) (vs : List V) (Q : VK) (E : XK), Room k (A.deeper (envS qual scope s.heap.objs.size f (.ref cda) cc)) → sp vs H Q E →
      ∃ t, PSs (cxS P w K mg base N qual scope f (.ref cda) cc A outer s H E) rest t ∧ t { nx := fun _ H' => Q .non H', rt := Q } (L2.start N vs) H) :
    FnOk P w K mg base (L2.CX P w) (k + 1) f fd ps sp := by
  obtain ⟨oc, od, kV, doc, pm, an, cda, ct, osl, cc, cl, cld, csl, ccl, cdd, fvs, ccs, file, tf, rfl, lk, hcd, hcode, hvs, hfile, hcell⟩ := F.ex
  refine ⟨len, fun A outer s H args us vs Q E hr e0 hb r hsp => ?_⟩
  have hl := len _ _ _ _ hsp
  obtain ⟨a, C, vs', b0, ev, ea, T⟩ := first _ _ _ _ hsp
  have KX : K.In s.heap := e0.mod.kin.keeps fun b o e => (e0.bs b o e).1
  have lim : s.heap.NoLimit := e0.mod.nolimit.keeps fun b o e => (e0.bs b o e).1
  refine ks_codeAny_call_defAt hr.depth (KX _ _ lk) rfl lim (PySem.W.codeRec_of KX hcd) rfl hb S.nocell (fun ⟨n, v⟩ hy => S.par n (List.of_mem_zip hy).1) (fun h1 hns hk => ?_) S.co S.gen S.kind
  have I : Inv (cxS P w K mg base N qual scope f (.ref cda) cc A outer s H E) [] (L2.start N vs) H { s with heap := h1, toks := s.toks + (ps.zip us).length } := inv_startS S hr.hd e0 hl r hcell hns hk _
  obtain ⟨t, ht, hq⟩ := hrest cda cc A outer s H vs Q E (hr.deeper _) hsp
  refine ks_wpAt_execs_cons ?_
  refine super_step I S lk hpar har hN (by rw [ev]; rfl) hcode hvs hfile hcell T hmg htop ea (he _) fun s' J => ?_
  refine wpAt_of_wpAny (wpAny_mono (ht.run [] s' (L2.start N vs) H _ J hq) (fun fl s2 hs => ?_) fun e s2 hs => hs)
  have back : ∀ {σ' : L2.St} {H' : Hp} {v : V} {u : Value}, Inv (cxS P w K mg base N qual scope f (.ref cda) cc A outer s H E) [] σ' H' s2 → RelV v u → Q v H' → CE outer P w H s Q u s2 := fun J rv q => ⟨_, _, J.os, J.bare, J.base, J.hok, rv, q⟩
  cases fl
  · obtain ⟨_, _, J, q⟩ := hs; exact back (v := .non) J rfl q
  · obtain ⟨_, _, _, q⟩ := hs; exact q.elim
  · obtain ⟨_, _, _, q⟩ := hs; exact q.elim
  · obtain ⟨_, _, _, J, rv, q⟩ := hs; exact back J rv q
end
end Dv

/-! DwAA: such errors' fields are stored; such errors are made, with or without arguments. -/
namespace Dv
open PySem PySem.Spec PyProof.Rows L2 Builtin Builtin.ObjectAttr
section
variable {K : PySem.W.Frag} {C : Addr} {b : EBase} {prog : Program} {w : World} {A : Around} {R : Result → Shared → Prop} {hp : Heap} {g : Array GenState} {dr : Drawn} {t : Nat} {os : OsState} {name : Str} {tk : Tok} {v : Value} {x dx : Addr} {fv : Array Value}
theorem OexN.over (T : OexN K C b) : PySem.W.excOver K C b.tail = true := by
  obtain ⟨nm, q, N, bs, bm, sn, sub, ab, col, dd, k0, k1, k2, k3, k5, hC, hbm⟩ := T.cls
  unfold PySem.W.excOver PySem.W.clsIn
  rw [hC]
  show ((C == C) && PySem.W.excTail b.tail bm) = true
  rw [hbm, Bool.and_true]
  exact beq_self_eq_true C
theorem OexN.look (T : OexN K C b) (M : Model) {h : Heap} (KX : K.In h) : ∃ cd, PySem.W.Looks M h (classData C) cd ∧ cd.hasDict = true := by
  obtain ⟨nm, q, N, bs, bm, sn, sub, ab, col, dd, k0, k1, k2, k3, k5, hC, hbm⟩ := T.cls
  refine ⟨⟨nm, bs, .ref C :: bm, N, q, true, sn, sub, ab, col, false⟩, PySem.W.looks_clsIn KX ?_, rfl⟩
  unfold PySem.W.clsIn
  rw [hC]
theorem taker_none (own : PySem.W.findIn K (.ref C) name = some none) : PySem.W.takerIn K C name = some none := by
  unfold PySem.W.takerIn
  rw [own]; rfl
/-- the first field -/
theorem field_first (T : OexN K C b) (KX : K.In hp) (at_ : hp.get? x = some { cls := .ref C, data := .fields fv }) (own : PySem.W.findIn K (.ref C) name = some none)
    (q : ∀ h2 tk2 dx, (∀ c o, c ≠ x → hp.get? c = some o → h2.get? c = some o) → hp.objs.size ≤ dx → dx ≠ x → h2.get? x = some { cls := .ref C, dict := some dx, data := .fields fv } → h2.Ns1 dx (fun y => if y = name then some v else none) → R (.ok (.ret .none)) ⟨h2, g, dr, tk2, os⟩) :
    codeAny (model prog w) A (.call (.builtin "object.__setattr__") ⟨[.ref x, .str name tk, v], []⟩) R ⟨hp, g, dr, t, os⟩ := by
  refine PySem.W.osa_openX (s := ⟨hp, g, dr, t, os⟩) b.store KX (od := none) ⟨at_, rfl, rfl, trivial⟩ T.over (taker_none own) fun bb => ?_
  obtain ⟨cd, lk, hd⟩ := T.look (model prog w) KX
  have fresh : x ≠ hp.objs.size := Nat.ne_of_lt (Heap.lt_size at_)
  obtain ⟨c1, c2, c3, c4, c5, c6, c7, c8, c9, c10, c11⟩ := cd
  cases hd
  unfold storeInOwnDict ownDictForStores
  repeat (first | with_reducible refine PySem.HandSPX.store_in_new ?_ ?_ | with_reducible refine wpAny_loadPart_at at_ ?_ | with_reducible refine lk.at ?_ | wp_step)
  · exact ⟨_, #[], _, (Heap.get?_update_ne _ _ _ _ (Ne.symm fresh)).trans (Heap.get?_push_at rfl rfl), rfl, (fun e he => absurd he (by simp)), fun _ => rfl⟩
  · intro h2 tk2 ns same
    have pushed : (hp.push { cls := .type "dict", data := .dict #[] }).get? x = some { cls := .ref C, data := .fields fv } := Heap.get?_push_of_some _ at_
    refine q h2 tk2 hp.objs.size (fun c o nc e => ?_) (Nat.le_refl _) (Ne.symm fresh) ((same.2 x fresh).trans (Heap.get?_update_self _ pushed rfl)) ns
    rw [same.2 c (Nat.ne_of_lt (Heap.lt_size e)), Heap.get?_update_ne _ _ _ _ nc]
    exact Heap.get?_push_of_some _ e
/-- a further field -/
theorem field_more {m0 : Str → Option Value} {nl : List Str} (T : OexN K C b) (KX : K.In hp) (at_ : hp.get? x = some { cls := .ref C, dict := some dx, data := .fields fv }) (ns : hp.Ns1 dx m0) (wi : Within m0 nl) (few : nl.length ≤ 1000) (own : PySem.W.findIn K (.ref C) name = some none)
    (q : ∀ h2 tk2, (∀ c o, c ≠ dx → hp.get? c = some o → h2.get? c = some o) → h2.Ns1 dx (fun y => if y = name then some v else m0 y) → R (.ok (.ret .none)) ⟨h2, g, dr, tk2, os⟩) :
    codeAny (model prog w) A (.call (.builtin "object.__setattr__") ⟨[.ref x, .str name tk, v], []⟩) R ⟨hp, g, dr, t, os⟩ := by
  obtain ⟨od, _, _, there, _, _⟩ := ns.count wi
  refine PySem.W.osa_openX (s := ⟨hp, g, dr, t, os⟩) b.store KX (od := some od) ⟨at_, rfl, rfl, there⟩ T.over (taker_none own) fun bb => ?_
  obtain ⟨cd, lk, hd⟩ := T.look (model prog w) KX
  obtain ⟨c1, c2, c3, c4, c5, c6, c7, c8, c9, c10, c11⟩ := cd
  cases hd
  unfold storeInOwnDict ownDictForStores
  repeat (first | with_reducible refine PySem.OEX.store_in_old ns wi few ?_ | with_reducible refine wpAny_loadPart_at at_ ?_ | with_reducible refine lk.at ?_ | wp_step)
  intro h2 tk2 ns2 same
  exact q h2 tk2 (fun c o nc e => (same.2 c nc).trans e) ns2
end
section
variable {X : Cx} {pins : List (Addr × Obj)} {σ : L2.St} {H : Hp} {s : Shared} {a C dx : Addr} {b : EBase} {f : Str} {y : V} {u : Value} {fs : List (Str × V)} {Q : Unit → Shared → Prop} {E : Value → Shared → Prop} {A : Around}
theorem set_first (T : OexN X.K C b) (I : Inv X pins σ H s) (e : H a = some (exo a C none)) (own : PySem.W.findIn X.K (.ref C) f = some none) (ry : RelV y u)
    (q : ∀ dx s2, H dx = none → dx ≠ a → Inv X pins σ (upd (upd H dx (exd dx [(f, y)])) a (exo a C (some dx))) s2 → Q () s2) : wpAny (model X.prog X.w) A (setAttr (.ref a) f u) Q E s := by
  obtain ⟨t1, at_⟩ := exo_at I.hok e
  obtain ⟨hp, g, dr, t, os⟩ := s
  refine PySem.W.set_plain I.kIn (od := none) ⟨at_, rfl, rfl, trivial⟩ T.sa (field_first T I.kIn at_ own fun h2 tk2 dx keep new ne at2 ns => ?_)
  have nd : H dx = none := I.hok.fresh new
  have old_ne : ∀ {c : Addr} {o : Obj}, hp.get? c = some o → c ≠ dx := fun z => Nat.ne_of_lt (Nat.lt_of_lt_of_le (Heap.lt_size z) new)
  have no_a : ∀ {c : Addr}, H c = none → c ≠ a := fun n z => by rw [z, e] at n; cases n
  have same : ∀ {c : Addr} {o : HO}, H c = some o → exo a C none ≠ o → upd (upd H dx (exd dx [(f, y)])) a (exo a C (some dx)) c = H c := fun {c o} z d => by
    rw [upd_ne (at_ne e z d), upd_ne (ne_of_none z nd)]
  refine q dx _ nd ne (I.un (t' := tk2) ⟨fun c o z n _ _ => keep c o (no_a n) z, fun c o z n _ _ => ⟨o.slots, keep c o (no_a n) z⟩, fun c o z n _ => ?_, fun c o z _ => ?_, fun c xs z => ?_, fun c o v z => ?_, fun c ps z => ⟨#[], ?_⟩⟩ fun c o z => ?_)
  · rw [upd_ne (no_a n), upd_ne (old_ne z)]; exact n
  · by_cases h : c = a
    · exact ⟨_, h ▸ at2⟩
    · exact ⟨o, keep c o h z⟩
  · rw [same z exo_tup]; exact z
  · rw [same z exo_frz]; exact z
  · rw [same z exo_tbl, z]; simp
  · by_cases h : c = a
    · rw [h] at z ⊢
      rw [upd_same] at z
      cases z
      exact exo_ok at2
    · rw [upd_ne h] at z
      by_cases h2 : c = dx
      · rw [h2] at z ⊢
        rw [upd_same] at z
        cases z
        exact exd_ok ns (relO_put (fs := []) ry fun _ => True.intro)
      · rw [upd_ne h2] at z
        refine (I.hok c o z).stay (fun d v hd => keep d v ?_) (fun d hd => ?_) fun d xs hd => ?_
        · rcases hd with hd | hd
          · exact fun z2 => h (hd ▸ z2)
          · exact at_ne e hd exo_own
        · rw [same hd exo_own]; exact hd
        · rw [same hd exo_tup]; exact hd
theorem set_more (T : OexN X.K C b) (I : Inv X pins σ H s) (e : H a = some (exo a C (some dx))) (ed : H dx = some (exd dx fs)) (few : fs.length ≤ 900) (own : PySem.W.findIn X.K (.ref C) f = some none) (ry : RelV y u)
    (q : ∀ s2, Inv X pins σ (upd H dx (exd dx ((f, y) :: fs))) s2 → Q () s2) : wpAny (model X.prog X.w) A (setAttr (.ref a) f u) Q E s := by
  obtain ⟨t1, at_⟩ := exo_at I.hok e
  obtain ⟨mA, ns, rel⟩ := exd_at I.hok ed
  have wi := within_of rel
  obtain ⟨hp, g, dr, t, os⟩ := s
  obtain ⟨od, _, _, there, _, _⟩ := ns.count wi
  refine PySem.W.set_plain I.kIn (od := some od) ⟨at_, rfl, rfl, there⟩ T.sa (field_more T I.kIn at_ ns wi (by rw [List.length_map]; omega) own fun h2 tk2 keep ns2 => ?_)
  refine q _ (I.write (t' := tk2) (x := dx) (e := dx) (o := exd dx ((f, y) :: fs)) (by rw [ed]; exact True.intro) (.inl rfl) keep ?_ (exd_ok ns2 (relO_put ry rel)))
  obtain ⟨o, _, _, z, _⟩ := ns2
  exact ⟨o, z⟩
end
/-- self.f = e, over any of these bases -/
def tSt (K : PySem.W.Frag) (f : Str) (to te : TE) : TS := fun D σ H => te σ H fun y H1 => to σ H1 fun x H2 => ∃ (a C : Addr) (b : EBase), x = .ref a ∧ OexN K C b ∧ PySem.W.findIn K (.ref C) f = some none ∧
  ((H2 a = some (exo a C none) ∧ ∀ dx, H2 dx = none → dx ≠ a → D.nx σ (upd (upd H2 dx (exd dx [(f, y)])) a (exo a C (some dx)))) ∨
    ∃ (dx : Addr) (fs : List (Str × V)), H2 a = some (exo a C (some dx)) ∧ H2 dx = some (exd dx fs) ∧ fs.length ≤ 900 ∧ D.nx σ (upd H2 dx (exd dx ((f, y) :: fs))))
section
variable {X : Cx} {o e : Expr} {es : List Expr} {to te : TE} {ta : TA} {f x : Str} {p p' pos : Pos}
theorem ps_st (ho : PE X o to) (he : PE X e te) (sw : swapsWith e (some (.Attribute o f p')) pos.line X.env = pure false) : PS X (.Assign [.Attribute o f p'] e pos) (tSt X.K f to te) := by
  constructor
  intro pins s σ H D I h
  refine plainObj_wpAny_Assign_Attribute (thn (he.run pins s σ H _ I h) ?_) sw
  rintro v s1 ⟨y, H1, I1, r1, q1⟩
  refine thn (ho.run pins s1 σ H1 _ I1 q1) ?_
  rintro u s2 ⟨_, H2, I2, r2, a, C, b, rfl, T, own, q⟩
  have eu : u = Value.ref a := r2
  subst eu
  rcases q with ⟨ea, q⟩ | ⟨dx, fs, ea, ed, few, q⟩
  · exact set_first T I2 ea own r1 fun dx s3 n ne J => ⟨σ, _, J, q dx n ne⟩
  · exact set_more T I2 ea ed few own r1 fun s3 J => ⟨σ, _, J, q⟩
/-- the object is laid, its own init runs -/
theorem made_by {CX : CXT} {pins : List (Addr × Obj)} {σ : L2.St} {H1 : Hp} {s1 : Shared} {C fI : Addr} {b : EBase} {k : Nat} {fd : FuncData} {ps : List Str} {sp : Sp} {us : List Value} {vs : List V} {Q : XK} (T : OexN X.K C b) (iC : PySem.W.findIn X.K (.ref C) "__init__" = some (some (.ref fI))) (tI : PySem.W.typeIn X.K (.ref fI) = some (.type "function"))
    (F1 : FnOk X.prog X.w X.K X.mg X.base CX k fI fd ps sp) (hr : Room (k + 1) X.A) (hb : Binds X.K fd ps []) (nox : Passes CX X (fun _ _ _ => False)) (I1 : Inv X pins σ H1 s1) (r1 : Vals vs us) (few : vs.length ≤ 1000)
    (told : ∀ a, H1 a = none → sp (.ref a :: vs) (upd H1 a (exo a C none)) (fun v H2 => v = .non ∧ ∃ (d : Addr) (fs : List (Str × V)), H2 a = some (exo a C (some d)) ∧ H2 d = some (exd d fs) ∧ H1 d = none ∧ Q (.ref C) (some d) (upd (del H2 a) d (.xd fs))) (fun _ _ _ => False)) :
    wpAny (model X.prog X.w) X.A (call (.ref C) us) (fun u s2 => MkP X pins σ Q u s2) X.xe s1 := by
  obtain ⟨nm, q, N, bs, bm, sn, sub, ab, col, dd, k0, k1, k2, k3, k5, hC, tail⟩ := T.cls
  obtain ⟨hp, g, dr, tk, os⟩ := s1
  have up : hp.objs.size ≤ hp.objs.size + 1 := Nat.le_succ _
  have told := told _ (I1.hok.fresh up)
  have grown : ∀ c o, hp.get? c = some o → ((hp.push (PySem.W.kdv_tup us)).push (PySem.HandSPX.excO C hp.objs.size)).get? c = some o := fun c o z => Heap.get?_push_of_some _ (Heap.get?_push_of_some _ z)
  have there : ((hp.push (PySem.W.kdv_tup us)).push (PySem.HandSPX.excO C hp.objs.size)).get? (hp.objs.size + 1) = some (PySem.HandSPX.excO C hp.objs.size) := by heap_get
  have J := I1.laid (t' := tk) (o := exo (hp.objs.size + 1) C none) grown up (exo_ok there)
  have r2 : Vals (V.ref (hp.objs.size + 1) :: vs) (Value.ref (hp.objs.size + 1) :: us) := .cons rfl r1
  have all : (Value.ref (hp.objs.size + 1) :: us).length = ps.length := by rw [← F1.len _ _ _ _ told]; exact r2.length.symm
  have bind := hb ⟨_, g, dr, tk, os⟩ _ J.kIn (by rw [List.append_nil]; exact all)
  rw [List.append_nil] at bind
  have short : us.length ≤ sizeLine := by rw [← Paired.length r1, sizeLine_eq]; omega
  refine wpAny_call (PySem.HandSPX.call_own b.facts (fun Y => PySem.W.excTail_contains Y bm tail) (I1.kIn _ _ hC) (PySem.W.looks_findIn I1.kIn iC) (fun self => PySem.W.bind_fn I1.kIn self tI) short ?_)
  refine codeAny_mono (F1.run _ X.stack _ _ _ _ _ _ _ (hr.make C us []) (J.env0.make C us []) bind r2 told) fun r s2 out => ?_
  match r, out with
  | .error er, out => exact nox pins σ _ _ er s2 J out
  | .ok .next, out => exact False.elim out
  | .ok .brk, out => exact False.elim out
  | .ok .cont, out => exact False.elim out
  | .ok (.ret u), out =>
    obtain ⟨_, H2, o2, bare, un, hok, rv, rfl, d, fs, ea, ed, nd, z⟩ := out
    exact ⟨rv, mk_end (raises_own T.exC T.tyC) I1 up grown un hok o2 bare ea ed nd z⟩
/-- C(e, ..), told so -/
theorem pmk_n {CX : CXT} {C fI : Addr} {b : EBase} {k : Nat} {fd : FuncData} {ps : List Str} {sp : Sp} (T : OexN X.K C b) (iC : PySem.W.findIn X.K (.ref C) "__init__" = some (some (.ref fI))) (tI : PySem.W.typeIn X.K (.ref fI) = some (.type "function"))
    (F1 : FnOk X.prog X.w X.K X.mg X.base CX k fI fd ps sp) (hr : Room (k + 1) X.A) (hb : Binds X.K fd ps []) (nox : Passes CX X (fun _ _ _ => False)) (hg : Gl X x) (hm : X.mg x = some (.ref C)) (ha : PA X (e :: es) ta)
    (hdb : (x == ("__debug__" : Str)) = false) (he : starEach (e :: es) X.env = (false, eval e X.env) :: starEach es X.env) (hpl : (backTo pos (starEach es X.env)).any (·.1) = false) : PMk X (.Call (.Name x p) (e :: es) [] pos) (tMkO C sp [] ta) := by
  intro pins s σ H Q I h
  apply wpAny_Call_Name_kw (ld_glob I hg hm ?_ hdb)
  apply PySem.W.callWith_K (h₀ := X.base) I.ok.mod.kin T.kC ?_ he hpl
  refine thn (ha.run pos pins s σ H _ I h) fun us s1 ⟨vs, H1, I1, r1, few, told⟩ => ⟨I1.kIn, ?_⟩
  exact made_by T iC tI F1 hr hb nox I1 r1 few fun c n => by have := told c n; rwa [List.append_nil] at this
/-- C(), told so -/
theorem pmk_0 {CX : CXT} {C fI : Addr} {b : EBase} {k : Nat} {fd : FuncData} {ps : List Str} {sp : Sp} (T : OexN X.K C b) (iC : PySem.W.findIn X.K (.ref C) "__init__" = some (some (.ref fI))) (tI : PySem.W.typeIn X.K (.ref fI) = some (.type "function"))
    (F1 : FnOk X.prog X.w X.K X.mg X.base CX k fI fd ps sp) (hr : Room (k + 1) X.A) (hb : Binds X.K fd ps []) (nox : Passes CX X (fun _ _ _ => False)) (hg : Gl X x) (hm : X.mg x = some (.ref C))
    (hdb : (x == ("__debug__" : Str)) = false) : PMk X (.Call (.Name x p) [] [] pos) (tMkO C sp [] fun σ H Q => Q [] H) := by
  intro pins s σ H Q I ⟨few, told⟩
  apply wpAny_Call_Name_kw (ld_glob I hg hm ?_ hdb)
  exact PySem.W.callWith_K0 I.kIn T.kC (made_by T iC tI F1 hr hb nox I .nil few fun c n => told c n)
end
end Dv

/-! DwB: own errors as values: what can be raised can be held, its fields read. -/
namespace Dv
open PySem PySem.Spec PyProof.Rows L2
theorem exv_ok {P : Program} {w : World} {H : Hp} {h : Heap} {a C d : Addr} {oe : Obj} {vs : Array Value} (ha : h.get? a = some oe) (hc : oe.cls = .ref C) (hd : oe.dict = some d) (hf : oe.data = Data.fields vs) : ObjOk P w H h a (exv a C d) := by
  refine ⟨⟨oe, vs, ha, hc, hd, hf⟩, ⟨oe, ha⟩, ?_⟩
  rintro g1 g2 ⟨o, v, q1, q2⟩ keep
  exact ⟨o, v, keep o q1, q2⟩
theorem exv_at {P : Program} {w : World} {H : Hp} {h : Heap} {a C d : Addr} (hok : HOk P w H h) (he : H a = some (exv a C d)) : ∃ oe vs, h.get? a = some oe ∧ oe.cls = .ref C ∧ oe.dict = some d ∧ oe.data = Data.fields vs :=
  (show _ ∧ _ from hok a _ he).1
/-- an error that is made stands as a value -/
def tHeld (t : L2.St → Hp → XK → Prop) : TE := fun σ H Q => t σ H fun cls d H1 => ∃ C dd : Addr, cls = .ref C ∧ d = some dd ∧ ∀ a, H1 a = none → Q (.ref a) (upd H1 a (exv a C dd))
theorem pe_held {X : Cx} {e : Expr} {t : L2.St → Hp → XK → Prop} (h : PMk X e t) : PE X e (tHeld t) := by
  constructor
  intro pins s σ H Q I hq
  refine thn (h pins s σ H _ I hq) fun u s' made => ?_
  obtain ⟨a, oe, vs, sI, H', cls, d, eu, J, grown, free, there, ⟨z1, z2⟩, data, _, none', hos, hbare, _, C, dd, ec, ed, q⟩ := made
  subst eu ec ed
  have J' : Inv X pins σ (upd H' a (exv a C dd)) s' := by
    have U : Un X.fs [] H' (upd H' a (exv a C dd)) sI.heap s'.heap := Un.laidN grown free none'
    have K' : HOk X.prog X.w (upd H' a (exv a C dd)) s'.heap := J.hok.laidN grown none' (exv_ok there z1 z2 data)
    exact J.call' (ch := []) hos ⟨fun b o x y f g => grown b o x, fun b o x y f g => ⟨o.slots, grown b o x⟩, U.free, U.there, U.tups, U.frzs, U.tbls⟩ K' hbare fun b z => absurd z List.not_mem_nil
  exact ⟨.ref a, _, J', rfl, q a none'⟩
/-- e.f, e an error of ours -/
def tXv (K : PySem.W.Frag) (f : Str) (te : TE) : TE := fun σ H Q => te σ H fun x H1 => ∃ (a C d : Addr) (fs : List (Str × V)) (v : V), x = .ref a ∧ XfC K C ∧ PySem.W.findIn K (.ref C) f = some none ∧ H1 a = some (exv a C d) ∧ H1 d = some (.xd fs) ∧ fs.lookup f = some v ∧ Q v H1
theorem pe_xv {X : Cx} {e : Expr} {te : TE} {pos : Pos} {n : Str} (he : PE X e te) (plain : attributeBase e n X.env (eval e X.env) = eval e X.env := by rfl) : PE X (.Attribute e n pos) (tXv X.K n te) := by
  constructor
  intro pins s σ H Q I hq
  refine attr_of plain (thn (he.run pins s σ H _ I hq) fun u s1 back => ?_)
  obtain ⟨x, H1, J, rel, a, C, d, fs, v, rfl, T, own, ea, ed, known, q⟩ := back
  have eu : u = Value.ref a := rel
  subst eu
  obtain ⟨oe, vs, at_, cl, di, data⟩ := exv_at J.hok ea
  obtain ⟨mA, ns, fields⟩ := (show ∃ mA, s1.heap.Ns1 d mA ∧ ∀ f, RelO (fs.lookup f) (mA f) from J.hok d _ ed)
  obtain ⟨od, got, look⟩ := lookIn_ns ns
  obtain ⟨r, hr, rr⟩ := RelO.some_of (v := v) (o := mA n) (known ▸ fields n)
  have inst : PySem.W.InstAt s1.heap a oe C (some od) := ⟨at_, cl, by unfold PySem.W.notCls; rw [data], by rw [di]; exact got⟩
  refine HandSPX.exc_get J.kIn inst T.ga T.gg T.exC (PySem.W.findObj_own T.hdC own rfl ?_) (handed_of rr) ⟨v, H1, J.tok _, rr, q⟩
  rw [look, hr]
end Dv

/-! DwC: what a caught error is, by itself; try with one clause for three classes at once, the error by a name. -/
namespace Dv
open PySem PySem.Spec PyProof.Rows L2
/-- the error at a has been caught in X's def: the state behind it, and the error in flight over the ground B -/
def Caught (X : Cx) (pins : List (Addr × Obj)) (a : Addr) (cls : Value) (d : Option Addr) (σ : L2.St) (H : Hp) (s : Shared) : Prop :=
  ∃ (B : Heap) (sI : Shared), Inv X pins σ H sI ∧ (∀ b o, sI.heap.get? b = some o → b ∉ frs X.stack → B.get? b = some o) ∧ sI.heap.UpToSlots s.heap ∧ HandSPX.FlyingZ B (X.env :: X.outer) a (Zc cls d) s.heap ∧ H a = none ∧ s.os = sI.os ∧ AllBare s.gens
section
variable {X : Cx} {pins : List (Addr × Obj)} {a : Addr} {cls : Value} {d : Option Addr} {σ : L2.St} {H : Hp} {s : Shared}
theorem Caught.inv (c : Caught X pins a cls d σ H s) : Inv X pins σ H s :=
  let ⟨_, _, J, nb, up, fl, _, os, ag⟩ := c
  J.landed nb fl.1 up os ag
theorem Caught.none_ (c : Caught X pins a cls d σ H s) : H a = none := let ⟨_, _, _, _, _, _, z, _⟩ := c; z
theorem Caught.grow {h' : Heap} (c : Caught X pins a cls d σ H s) (k : ∀ b o, s.heap.get? b = some o → h'.get? b = some o) : Caught X pins a cls d σ H { s with heap := h' } := by
  obtain ⟨B, sI, J, nb, up, ⟨f1, f2, f3, oe, vs, T, oT, ts, g1, g2, g3, g4, g5, g6, g7, g8, g9⟩, z, os, ag⟩ := c
  refine ⟨B, sI, J, nb, up.trans fun b o e _ => ⟨o.slots, k b o e⟩, ⟨fun b o e => k b o (f1 b o e), f2, ?_, oe, vs, T, oT, ts, k _ _ g1, g2, g3, g4, g5, g6, k _ _ g7, g8, g9⟩, z, os, ag⟩
  exact f3.of_keeps fun b o e _ => ⟨o, k b o e, rfl⟩
/-- the object, and the suite's state -/
theorem Caught.suite (c : Caught X pins a cls d σ H s) (hs : X.stack = X.env :: X.outer) (hf : X.env.frame = some X.env.locals) :
    ∃ oe : Obj, s.heap.get? a = some oe ∧ Zc cls d oe ∧ (∃ vs, oe.data = .fields vs) ∧ Inv (X.suite a ((a, oe) :: (X.pn ++ pins))) [] σ H s := by
  have J := c.inv
  obtain ⟨B, _, _, _, _, fl, z, _, _⟩ := c
  obtain ⟨oe, vs, at_, zc, data⟩ := fl.there
  have off : a ∉ frs X.stack := by
    rw [hs]
    intro m
    obtain ⟨_, o, e, nf⟩ := fl.2.2.1.mem m
    exact nf vs (by rw [← Option.some.inj (at_.symm.trans e)]; exact data)
  have off1 : a ≠ X.env.locals := by
    rintro rfl
    exact off (by rw [hs]; exact List.mem_filterMap.mpr ⟨_, .head _, hf⟩)
  have off2 : a ∉ X.fs := by
    intro m
    obtain ⟨v, v1, v2⟩ := List.mem_filterMap.mp m
    exact off (by rw [hs]; exact List.mem_filterMap.mpr ⟨v, .tail _ v1, v2⟩)
  exact ⟨oe, at_, zc, ⟨vs, data⟩, J.suite at_ data z off1 off2⟩
/-- the error joins what is tracked, as a value -/
theorem Caught.value {C dd : Addr} (c : Caught X pins a (.ref C) (some dd) σ H s) (hs : X.stack = X.env :: X.outer) (hf : X.env.frame = some X.env.locals) (hex : X.ex = []) : Inv (X.suite a (X.pn ++ pins)) [] σ (upd H a (exv a C dd)) s := by
  obtain ⟨oe, at_, zc, ⟨vs, data⟩, S⟩ := c.suite hs hf
  have J := c.inv
  obtain ⟨B, sI, JI, nb, _, fl, z, _, _⟩ := c
  have off : a ∉ frs X.stack := by
    rw [hs]
    intro m
    obtain ⟨_, o, e, nf⟩ := fl.2.2.1.mem m
    exact nf vs (by rw [← Option.some.inj (at_.symm.trans e)]; exact data)
  have newI : sI.heap.get? a = none := by
    cases e : sI.heap.get? a with
    | none => rfl
    | some o => exact absurd (nb a o e off) (by rw [fl.2.1]; simp)
  have new0 : ∀ b o, X.s_0.heap.get? b = some o → b ≠ a := by
    rintro b o e rfl
    obtain ⟨o', e'⟩ := JI.base.there b o e (by rw [hex]; simp)
    rw [newI] at e'; cases e'
  have ne : ∀ {b : Addr} {u : HO}, H b = some u → b ≠ a := fun {b u} e q => by rw [q, z] at e; cases e
  have was := S.pin (a, oe) (List.mem_append_left _ (.head _))
  refine ⟨J.ok.suite a _, S.os, S.bare, ⟨J.base.keep, J.base.slot, fun b o e n x => ?_, J.base.there, fun b xs e => ?_, fun b o u e => ?_, fun b ps e => ?_⟩, S.loc, S.cell, ?_, fun x c' e => ?_, fun p hp => ?_, J.hok.laidN (fun _ _ y => y) z (exv_ok at_ zc.1 zc.2 data), S.len⟩
  · rw [upd_ne (new0 b o e)]; exact J.base.free b o e n x
  · have q := J.base.tups b xs e
    rw [upd_ne (ne q)]; exact q
  · have q := J.base.frzs b o u e
    rw [upd_ne (ne q)]; exact q
  · obtain ⟨more, q⟩ := J.base.tbls b ps e
    exact ⟨more, by rw [upd_ne (ne q)]; exact q⟩
  · have q : X.env.locals ≠ a := fun e => was.2.2.1 e.symm
    show upd H a _ X.env.locals = none
    rw [upd_ne q]; exact J.free
  · have q : c' ≠ a := by
      rintro rfl
      obtain ⟨v, o, e1, e2⟩ := S.cell x c' e
      rw [at_] at e1; cases e1
      exact was.2.2.2.2 _ e2
    rw [upd_ne q]; exact S.freeC x c' e
  · have hp' : p ∈ X.pn ++ pins := by simpa using hp
    have q := J.pin p hp'
    have q0 := (JI.pin p hp').1
    have n : p.1 ≠ a := fun e => by rw [e, newI] at q0; cases q0
    exact ⟨q.1, by rw [upd_ne n]; exact q.2.1, q.2.2⟩
/-- behind the suite -/
theorem unsuite_ {σ' : L2.St} {H' : Hp} (S : Inv (X.suite a (X.pn ++ pins)) [] σ' H' s) (ok : X.Ok) : Inv X pins σ' H' s :=
  ⟨ok, S.os, S.bare, S.base, S.loc, S.cell, S.free, S.freeC, fun p hp => S.pin p (List.mem_append_left _ hp), S.hok, S.len⟩
/-- it comes to rest -/
theorem Caught.rest {M : Model} {A : Around} {E : Value → Shared → Prop} {Q : Unit → Shared → Prop} (c : Caught X pins a cls d σ H s) (q : ∀ h', Caught X pins a cls d σ H { s with heap := h' } → Q () { s with heap := h' }) : wpAny M A (setFlight (.ref a) none) Q E s := by
  obtain ⟨B, sI, J, nb, up, fl, z, os, ag⟩ := c
  exact HandSPX.lands_againZ fl fun h' fl' up' => q h' ⟨B, sI, J, nb, up.trans up', fl', z, os, ag⟩
/-- it goes on -/
theorem Caught.on {W : WX} {Q : Flow → Shared → Prop} (c : Caught X pins a cls d σ H s) (hs : X.stack = X.env :: X.outer) (hf : X.env.frame = some X.env.locals) (tk : Takes X W) (w : W cls d σ H) : wpAny (model X.prog X.w) X.A (handleBy (.ref a) X.env []) Q X.xe s := by
  refine wpAny_handleBy_nil ?_
  obtain ⟨B, sI, J, nb, up, fl, z, os, ag⟩ := c
  obtain ⟨_, _, _, oe, vs, T, _, _, at_, _, data, second, _⟩ := id fl
  unfold PySem.passOn
  refine wpAny_bind (wpAny_field at_ data second ?_)
  have some_ : ¬ ((Value.ref T == Value.none) = true) := by simp
  rw [if_neg some_]
  have go : wpAny (model X.prog X.w) X.A (setFlight (.ref a) (some X.env.locals)) (fun _ s4 => wpAny (model X.prog X.w) X.A (throw (.ref a) : Sem Flow) Q X.xe s4) X.xe s := by
    refine HandSPX.setFlight_upZ fl fun h4 held up4 => wpAny_throw (tk _ _ ?_)
    exact ⟨a, B, sI, pins, σ, H, cls, d, rfl, J, nb, up.trans up4, .inr (.inr (hs ▸ held)), z, os, ag, w⟩
  rw [← hf] at go
  first
    | exact wpAny_bind (wpAny_pure (wpAny_bind go))
    | exact wpAny_bind go
/-- out of the try's body -/
theorem caught_of {xe : Value → Shared → Prop} {W : WX} {u : Value} {Q : Unit → Shared → Prop} {E : Value → Shared → Prop} (ok : X.Ok) (hs : X.stack = X.env :: X.outer) (hf : X.env.frame = some X.env.locals) (x : XE (X.tr (X.pn ++ pins) xe) W u s)
    (q : ∀ a cls d σ H s3, u = .ref a → W cls d σ H → Caught X pins a cls d σ H s3 → Q () s3) : wpAny (model X.prog X.w) X.A (noteFrame u X.env) (fun _ s3 => wpAny (model X.prog X.w) X.A (setFlight u none) Q E s3) E s := by
  obtain ⟨a, B, sI, _, σ, H, cls, d, rfl, J, nb, up, sky, z, os, ag, w⟩ := x
  have sky2 : Sky B (X.env :: X.outer) a (Zc cls d) X.env.locals s.heap := hs ▸ sky
  have fr : X.A.frames = some (X.env :: X.outer) := hs ▸ ok.frames
  refine Sky.land Zc.steady fr hf sky2 fun h3 fl up3 => q a cls d σ H _ rfl w ⟨B, sI, J.ofTry ok, nb, up.trans up3, fl, z, os, ag⟩
end
/-! ### except (A, B, C) as n -/
def wTup (K : PySem.W.Frag) (cs : List Value) (i : Nat) (ts : TS) (Wout : WX) (De : Ends) : WX := fun cls d σ H =>
  ∃ b, PySem.W.exmAny K cls cs = some b ∧ (if b = true then ∃ C dd : Addr, cls = .ref C ∧ d = some dd ∧ ∀ a, H a = none → ts ⟨fun σ' => De.nx (σ'.set i none), De.rt, fun σ' => De.bk (σ'.set i none), fun σ' => De.ct (σ'.set i none)⟩ (σ.set i (some (.ref a))) (upd H a (exv a C dd)) else Wout cls d σ H)
section
variable {X : Cx} {i : Nat} {n x1 x2 x3 : Str} {c1 c2 c3 : Value} {body suite : List Stmt} {b₀ : Stmt} {q1 q2 q3 tp pos pos' : Pos} {kk : Nat} {tb : WX → TS} {ts : TS} {Wout : WX}
/-- the three classes, side by side in a new tuple -/
theorem tuple3 {pins : List (Addr × Obj)} {σ : L2.St} {H : Hp} {s : Shared} {M : Value → Shared → Prop} {E : Value → Shared → Prop} (I : Inv X pins σ H s) (hc1 : Names X x1 c1) (hc2 : Names X x2 c2) (hc3 : Names X x3 c3)
    (q : M (.ref s.heap.objs.size) { s with heap := s.heap.push { cls := .type "tuple", data := .seq [c1, c2, c3].toArray } }) : wpAny (model X.prog X.w) X.A (eval (.Tuple [.Name x1 q1, .Name x2 q2, .Name x3 q3] kk tp) X.env) M E s := by
  have one : ∀ {x : Str} {c : Value} {p : Pos} {M' : Value → Shared → Prop}, Names X x c → M' c s → wpAny (model X.prog X.w) X.A (eval (.Name x p) X.env) M' E s := by
    rintro x c p M' ⟨g1, g2, g3⟩ hM
    rcases g3 with g | ⟨g, g', g''⟩
    · exact ld_glob I g1 g hM g2
    · exact ld_blt I g1 g g' hM g'' g2
  refine wpAny_Tuple_spliced (spliced_more (one hc1 ?_))
  refine spliced_more (one hc2 ?_)
  refine spliced_more (one hc3 ?_)
  exact spliced_none ⟨by rw [sizeLine_eq]; show 3 ≤ 16777216; decide, q⟩
theorem ps_try_tup3 (hs : X.stack = X.env :: X.outer) (hf : X.env.frame = some X.env.locals) (hex : X.ex = []) (hN : X.N.Nodup) (hi : X.N[i]? = some n) (hln : X.env.kindOf n = some .local) (hc1 : Names X x1 c1) (hc2 : Names X x2 c2) (hc3 : Names X x3 c3) (tk : Takes X Wout)
    (hb : ∀ (W : WX) (pn : List (Addr × Obj)) (xe : Value → Shared → Prop), Takes (X.tr pn xe) W → PassesOwn (model X.prog X.w) X.A X.env xe → PSs (X.tr pn xe) body (tb W))
    (hsu : ∀ (a : Addr) (pn : List (Addr × Obj)), PSs (X.suite a pn) (b₀ :: suite) ts) :
    PS X (.Try body [.ExceptHandler (some (.Tuple [.Name x1 q1, .Name x2 q2, .Name x3 q3] kk tp)) (some n) (b₀ :: suite) pos'] [] [] pos) (fun De σ H => tb (wTup X.K [c1, c2, c3] i ts Wout De) De σ H) := by
  constructor
  intro pins s σ H De I h
  have ok := I.ok
  apply wpAny_Try_except
  let hd := [ExceptHandler.ExceptHandler (some (.Tuple [.Name x1 q1, .Name x2 q2, .Name x3 q3] kk tp)) (some n) (b₀ :: suite) pos']
  let xe : Value → Shared → Prop := fun e s₁ => wpAny (model X.prog X.w) X.A (noteFrame e X.env) (fun _ s₂ => wpAny (model X.prog X.w) X.A (setFlight e none) (fun _ s₃ => wpAny (model X.prog X.w) X.A (handleBy e X.env hd) (SP X pins De) X.xe s₃) X.xe s₂) X.xe s₁
  have takes : Takes (X.tr (X.pn ++ pins) xe) (wTup X.K [c1, c2, c3] i ts Wout De) := by
    intro u s' x
    refine caught_of (pins := pins) ok hs hf x fun a cls d σ' H' s3 eu ⟨b, told, w⟩ c => ?_
    subst eu
    obtain ⟨oe, at_, zc, data, S⟩ := c.suite hs hf
    refine wpAny_handleBy_cons (codeAny_handlers_test (tuple3 (X := X.suite a ((a, oe) :: (X.pn ++ pins))) S hc1 hc2 hc3 ?_)) (by rintro ⟨⟩)
    have grown : ∀ b o, s3.heap.get? b = some o → (s3.heap.push { cls := .type "tuple", data := .seq [c1, c2, c3].toArray }).get? b = some o := fun b o e => Heap.get?_push_of_some _ e
    have c' := c.grow grown
    have typ : PySem.W.Looks (model X.prog X.w) (s3.heap.push { cls := .type "tuple", data := .seq [c1, c2, c3].toArray }) (typeOf (.ref a)) cls := fun A Q E s k q => wpAny_typeOf_ref (k _ _ (grown _ _ at_)) (zc.1 ▸ q)
    refine (PySem.W.exm_tup3 (M := model X.prog X.w) c'.inv.kIn typ (Heap.get?_push_at rfl rfl) told).here ?_
    cases b with
    | false =>
      have w : Wout cls d σ' H' := w
      exact c'.on hs hf tk w
    | true =>
      refine codeAny_handlers_suite_as (c'.rest fun h4 c4 => ?_)
      rw [if_pos rfl] at w
      obtain ⟨C, dd, rfl, rfl, w⟩ := w
      refine store_ok (X := X.suite a (X.pn ++ pins)) (v := .ref a) (c4.value hs hf hex) hN hi (.inl hln) rfl (fun s5 S5 => ?_) (.inr hln)
      refine wpAny_mono ((hsu a (X.pn ++ pins)).run [] s5 _ _ _ S5 (w a c4.none_)) (fun f s6 out => ?_) (fun _ _ z => z.elim)
      have gone : ∀ {σ6 : L2.St} {H6 : Hp} {G : Shared → Prop}, Inv (X.suite a (X.pn ++ pins)) [] σ6 H6 s6 → (∀ s7, Inv X pins (σ6.set i none) H6 s7 → G s7) → wpAny (model X.prog X.w) X.A (do bindName X.env n .none; unbindBehindTheSuite X.env n pos') (fun _ => G) X.xe s6 :=
        fun S6 g => gone_ok (unsuite_ S6 ok) hN hi hln g
      cases f
      · obtain ⟨σ6, H6, S6, r⟩ := out; exact gone S6 fun s7 J7 => ⟨_, _, J7, r⟩
      · obtain ⟨σ6, H6, S6, r⟩ := out; exact gone S6 fun s7 J7 => ⟨_, _, J7, r⟩
      · obtain ⟨σ6, H6, S6, r⟩ := out; exact gone S6 fun s7 J7 => ⟨_, _, J7, r⟩
      · obtain ⟨v6, σ6, H6, S6, rel, r⟩ := out; exact gone S6 fun s7 J7 => ⟨_, _, _, J7, rel, r⟩
  refine wpAny_mono ((hb _ (X.pn ++ pins) xe takes PassesOwn.looking).run [] s σ H De (I.toTry _) h) (fun f s1 out => ?_) fun _ _ z => z
  cases f
  · obtain ⟨σ', H', J, r⟩ := out; exact wpAny_execs_nil ⟨σ', H', J.ofTry ok, r⟩
  · obtain ⟨σ', H', J, r⟩ := out; exact ⟨σ', H', J.ofTry ok, r⟩
  · obtain ⟨σ', H', J, r⟩ := out; exact ⟨σ', H', J.ofTry ok, r⟩
  · obtain ⟨v, σ', H', J, rel, r⟩ := out; exact ⟨v, σ', H', J.ofTry ok, rel, r⟩
end
end Dv

/-! DwD: defs that may be called within a suite too: nothing in their bodies asks whether an error is handled, and none is raised. -/
namespace Dv
open PySem PySem.Spec PyProof.Rows L2
/-- room, whatever is handled -/
structure RoomF (k : Nat) (A : Around) : Prop where
  deep : A.depth + 3 * k + 5 < recursionLimit
  many : A.units + 16 * k + 200 < cLine
theorem RoomF.of {k : Nat} {A : Around} (r : Room k A) : RoomF k A := ⟨r.dp, r.un⟩
theorem RoomF.less {j k : Nat} {A : Around} (r : RoomF k A) (h : j ≤ k) : RoomF j A := by
  obtain ⟨a, b⟩ := r
  constructor <;> omega
theorem RoomF.inner {k : Nat} {A : Around} (r : RoomF (k + 1) A) (env : Env) : RoomF k (A.deeper env) := by
  obtain ⟨a, b⟩ := r
  constructor
  · show A.depth + 1 + 3 * k + 5 < _; omega
  · show A.units + 3 + 16 * k + 200 < _; omega
/-- the body's context -/
def cxF (P : Program) (w : World) (K : PySem.W.Frag) (mg : Str → Option Value) (base : Heap) (N : List Str) (qual : Str) (scope : Scope) (f : Addr) (cd : Value) (A : Around) (outer : List Env) (s : Shared) (H : Hp) : Cx :=
  { cxOf CX0 P w K mg base N qual scope f cd A outer s H (fun _ _ _ => False) with calm := false, xe := fun _ _ => False }
structure FnF (P : Program) (w : World) (K : PySem.W.Frag) (mg : Str → Option Value) (base : Heap) (k : Nat) (f : Addr) (fd : FuncData) (ps : List Str) (sp : List V → Hp → VK → Prop) : Prop where
  len : ∀ vs H Q, sp vs H Q → vs.length = ps.length
  run : ∀ (A : Around) (outer : List Env) (s : Shared) (H : Hp) (args : Args) (us : List Value) (vs : List V) (Q : VK), RoomF k A → Env0 P w K mg base A outer s H → BindsTo s fd args (ps.zip us) → Vals vs us → sp vs H Q →
    codeAny (model P w) A (.call (.ref f) args) (fun r s' => ∃ u, r = .ok (.ret u) ∧ CE outer P w H s Q u s') s
section
variable {P : Program} {w : World} {K : PySem.W.Frag} {mg : Str → Option Value} {base : Heap} {x qual : Str} {params : Arguments} {body : List Stmt} {scope : Scope} {f : Addr} {fd : FuncData} {N ps : List Str} {k : Nat} {sp : List V → Hp → VK → Prop}
theorem fnF_of (F : FunD K x qual params body scope [] [] f fd) (S : FnScope N ps scope) (len : ∀ vs H Q, sp vs H Q → vs.length = ps.length)
    (hbody : ∀ (cdv : Value) (A : Around) (outer : List Env) (s : Shared) (H : Hp) (vs : List V) (Q : VK), RoomF k (A.deeper (envOfC qual scope s.heap.objs.size f cdv)) → sp vs H Q →
      ∃ t, PSs (cxF P w K mg base N qual scope f cdv A outer s H) body t ∧ t { nx := fun _ H' => Q .non H', rt := Q } (L2.start N vs) H) : FnF P w K mg base (k + 1) f fd ps sp := by
  obtain ⟨oc, od, dV, kV, doc, pm, an, cdv, ct, osl, rfl, lk, hcd, _, _⟩ := F.ex
  refine ⟨len, fun A outer s H args us vs Q room e0 bind rel told => ?_⟩
  have many := len _ _ _ told
  have stays : ∀ b o, base.get? b = some o → s.heap.get? b = some o := fun b o e => (e0.bs b o e).1
  have kin : K.In s.heap := e0.mod.kin.keeps stays
  refine codeAny_call_function (by have := room.deep; omega) (kin _ _ lk) rfl S.co S.gen rfl (PySem.W.codeRec_of kin hcd) (bind _ _ _ _ ?_)
  have kinds : ∀ y ∈ ps.zip us, scope.names.lookup y.1 = some .local ∨ (scope.names.lookup y.1 = some .cell ∧ ((cellsFrom (s.heap.objs.size + 1) scope.names []).lookup y.1).isSome = true) := by
    rintro ⟨n, v⟩ hy
    exact (S.par n (List.of_mem_zip hy).1).imp id fun q => ⟨q, PySem.W.cellsFrom_some _ _ _ (.inl q)⟩
  refine wpAny_newFunctionEnv_cells S.kind kinds fun env he s1 inCall => ?_
  subst he
  refine ⟨(e0.mod.nolimit.keeps stays).keeps inCall.toInCall.keep, codeAny_func ?_⟩
  obtain ⟨t, derived, reads⟩ := hbody cdv A outer s H vs Q (room.inner _) told
  have e1 : Env0 P w K mg base { A with handled := none } outer s H := ⟨e0.frames, e0.mod, e0.bs, e0.bsz, e0.funs, e0.frf, e0.hok, e0.bare⟩
  have I0 := inv_start (CX := CX0) (N := N) (qual := qual) (f := f) (cd := cdv) (E := fun _ _ _ => False) S (show ({ A with handled := none } : Around).handled = none from rfl) e1 many rel inCall
  have ok0 := I0.ok
  have ok : (cxF P w K mg base N qual scope f cdv A outer s H).Ok :=
    ⟨ok0.mod, ok0.kind, ok0.glob, ok0.blt, ok0.above, ok0.inj, ok0.has, ok0.cab, nofun, Around.frames_deeper e0.frames, ok0.stk, ok0.exf, ok0.bs, ok0.bsz, ok0.noex, ok0.exfs, ok0.funs, ok0.frf⟩
  have I : Inv (cxF P w K mg base N qual scope f cdv A outer s H) [] (L2.start N vs) H s1 := ⟨ok, I0.os, I0.bare, I0.base, I0.loc, I0.cell, I0.free, I0.freeC, I0.pin, I0.hok, I0.len⟩
  have back : ∀ {σ' : L2.St} {H' : Hp} {v : V} {u : Value} {s' : Shared}, Inv (cxF P w K mg base N qual scope f cdv A outer s H) [] σ' H' s' → RelV v u → Q v H' → CE outer P w H s Q u s' :=
    fun J rv q => ⟨_, _, J.os, J.bare, J.base, J.hok, rv, q⟩
  refine wpAny_mono (derived.run [] s1 _ H _ I reads) (fun fl s' out => ?_) fun e s' no => no.elim
  cases fl
  · obtain ⟨_, _, J, q⟩ := out; exact ⟨_, rfl, back (v := .non) J rfl q⟩
  · obtain ⟨_, _, _, q⟩ := out; exact q.elim
  · obtain ⟨_, _, _, q⟩ := out; exact q.elim
  · obtain ⟨_, _, _, J, rv, q⟩ := out; exact ⟨_, rfl, back J rv q⟩
end
/-- f(e, ..) anywhere -/
theorem pe_callF {X : Cx} {k : Nat} {f : Addr} {fd : FuncData} {ps : List Str} {sp : List V → Hp → VK → Prop} {x : Str} {p pos : Pos} {e : Expr} {es : List Expr} {t : TA} (F : FnF X.prog X.w X.K X.mg X.base k f fd ps sp) (room : RoomF k X.A) (hg : Gl X x) (hm : X.mg x = some (.ref f)) (hk : PySem.W.keepIn X.K (.ref f) = true) (hb : Binds X.K fd ps [])
    (ha : PA X (e :: es) t) (hdb : (x == ("__debug__" : Str)) = false := by decide) (first : starEach (e :: es) X.env = (false, eval e X.env) :: starEach es X.env := by rfl) (plain : (backTo pos (starEach es X.env)).any (·.1) = false := by rfl) :
    PE X (.Call (.Name x p) (e :: es) [] pos) (fun σ H Q => t σ H fun vs H1 => sp vs H1 Q) := by
  constructor
  intro pins s σ H Q I h
  apply wpAny_Call_Name_kw (ld_glob I hg hm ?_ hdb)
  apply PySem.W.callWith_K (h₀ := X.base) I.ok.mod.kin hk ?_ first plain
  refine thn (ha.run pos pins s σ H _ I h) fun us s1 ⟨vs, H1, J, rel, told⟩ => ⟨J.kIn, ?_⟩
  have all : (us ++ ([] : List Value)).length = ps.length := by
    rw [List.append_nil, ← rel.length]; exact F.len _ _ _ told
  have bound := hb s1 us J.kIn all
  rw [List.append_nil] at bound
  refine wpAny_call (codeAny_mono (F.run X.A X.stack s1 H1 ⟨us, []⟩ us vs Q room J.env0 bound rel told) fun r s' out => ?_)
  obtain ⟨u, rfl, ce⟩ := out
  exact J.after ce
end Dv

/-! DwE: own errors at the level of deep values: their fields, their making, raise. -/
namespace Dv
open PySem PySem.Spec PyProof.Rows L2
theorem repF_get {T : Tx} {ρ : List Addr} {G : Hp} {f : Str} {d : D} : ∀ {fs : List (Str × D)} {vf : List (Str × V)}, RepF T ρ G vf fs → fs.lookup f = some d → ∃ v, vf.lookup f = some v ∧ Rep T ρ G v d
  | [], _, _, e => by cases e
  | (g, d') :: fs, vf, h, e => by
    unfold RepF at h
    obtain ⟨v, r, rfl, q, t⟩ := h
    unfold List.lookup at e ⊢
    by_cases hg : (f == g) = true
    · rw [hg] at e ⊢; cases e; exact ⟨v, rfl, q⟩
    · rw [Bool.eq_false_iff.mpr hg] at e ⊢; exact repF_get t e
/-- of these classes' errors the field f is read plainly -/
structure ErrF (K : PySem.W.Frag) (mg : Str → Option Value) (cs : List Str) (f : Str) : Prop where
  ok : ∀ c ∈ cs, ∃ C : Addr, mg c = some (.ref C) ∧ XfC K C ∧ PySem.W.findIn K (.ref C) f = some none
def fAttr (cs : List Str) (f : Str) : D → Mu → Res D
  | .exn c fs, μ => if c ∈ cs then (match fs.lookup f with
    | some d => ret d μ
    | none => none) else none
  | _, _ => none
def dAttr (cs : List Str) (f : Str) (m : DEx) : DEx := fun env μ => bindR (m env μ) fun d μ => fAttr cs f (hold d) μ
section
variable {X : Cx} {B : Bs} {W : WX} {e : Expr} {m : DEx} {p pos : Pos}
theorem exn_inv {T : Tx} {ρ : List Addr} {G : Hp} {σ : L2.St} {env : DEnv} {x : V} {c : Str} {fs : List (Str × D)} (h : HeldR T ρ G σ env x (.exn c fs)) : ∃ a C d vf, x = .ref a ∧ T.mg c = some (.ref C) ∧ G a = some (exv a C d) ∧ G d = some (.xd vf) ∧ RepF T ρ G vf fs := by
  have h : Rep T ρ G x (.exn c fs) := h
  unfold Rep at h; exact h
theorem de_attr {cs : List Str} {f : Str} (he : DE X B W e m) (F : ErrF X.K X.mg cs f) (plain : attributeBase e f X.env (eval e X.env) = eval e X.env := by rfl) : DE X B W (.Attribute e f pos) (dAttr cs f m) := by
  refine ⟨peImp (pe_xv he.run plain) fun σ H Q ⟨ρ, G, env, μ, R, k⟩ => ?_⟩
  refine rd_then (f := fun d μ => fAttr cs f (hold d) μ) R k fun ρ1 G1 H1 μ1 x d s p R1 hx k1 => ?_
  generalize hold d = d at hx k1
  unfold fAttr at k1
  split at k1
  · split at k1
    · rename_i hc
      split at k1
      · rename_i d' hl
        obtain ⟨a, C, dd, vf, rfl, hm, g1, g2, rf⟩ := exn_inv hx
        obtain ⟨C', hm', T, own⟩ := F.ok _ hc
        have hm : X.mg _ = some (.ref C) := hm
        rw [hm] at hm'; cases hm'
        obtain ⟨v, hv, rv⟩ := repF_get rf hl
        exact ⟨a, C, dd, vf, v, rfl, T, own, R1.gh _ _ g1, R1.gh _ _ g2, hv, k1.here R1 (.ofR rv)⟩
      · exact k1.elim
    · exact k1.elim
  · exact k1.elim
/-- what C(v) of one field promises -/
def spErr1 (C : Addr) (fld code : Str) : Sp := fun vs H Q E => ∃ (a : Addr) (v : V), vs = [.ref a, v] ∧ H a = some (exo a C none) ∧ ∀ dx, H dx = none → dx ≠ a →
  Q .non (upd (upd (upd H dx (exd dx [("code", .str code)])) a (exo a C (some dx))) dx (exd dx [(fld, v), ("code", .str code)]))
/-- such a class by its name -/
structure MkErr (P : Program) (w : World) (K : PySem.W.Frag) (mg : Str → Option Value) (base : Heap) (c fld code : Str) (k : Nat) : Prop where
  ex : ∃ (C fI : Addr) (fd : FuncData) (ps : List Str) (b : EBase), mg c = some (.ref C) ∧ OexN K C b ∧ PySem.W.findIn K (.ref C) "__init__" = some (some (.ref fI)) ∧ PySem.W.typeIn K (.ref fI) = some (.type "function") ∧ Binds K fd ps [] ∧ FnOk P w K mg base (L2.CX P w) k fI fd ps (spErr1 C fld code)
theorem err1_step {C : Addr} {fld code : Str} {v : V} {H1 : Hp} {Qx : XK} (hq : ∀ d, H1 d = none → Qx (.ref C) (some d) (upd H1 d (.xd [(fld, v), ("code", .str code)]))) :
    [v].length ≤ 1000 ∧ ∀ a, H1 a = none → spErr1 C fld code (.ref a :: ([v] ++ [])) (upd H1 a (exo a C none))
      (fun u H2 => u = .non ∧ ∃ (d : Addr) (fs : List (Str × V)), H2 a = some (exo a C (some d)) ∧ H2 d = some (exd d fs) ∧ H1 d = none ∧ Qx (.ref C) (some d) (upd (del H2 a) d (.xd fs))) (fun _ _ _ => False) := by
  refine ⟨by show 1 ≤ 1000; decide, fun a ha => ⟨a, v, rfl, upd_same, fun dx n ne => ⟨rfl, dx, [(fld, v), ("code", .str code)], ?_, upd_same, ?_, ?_⟩⟩⟩
  · rw [upd_ne (Ne.symm ne), upd_same]
  · rw [upd_ne ne] at n; exact n
  · have n' : H1 dx = none := by rw [upd_ne ne] at n; exact n
    have e : upd (del (upd (upd (upd (upd H1 a (exo a C none)) dx (exd dx [("code", .str code)])) a (exo a C (some dx))) dx (exd dx [(fld, v), ("code", .str code)])) a) dx (.xd [(fld, v), ("code", .str code)]) = upd H1 dx (.xd [(fld, v), ("code", .str code)]) := by
      funext b
      by_cases h1 : b = dx
      · rw [h1, upd_same, upd_same]
      · rw [upd_ne h1, upd_ne h1]
        by_cases h2 : b = a
        · rw [h2, del_same, ha]
        · rw [del_ne h2, upd_ne h1, upd_ne h2, upd_ne h1, upd_ne h2]
    rw [e]; exact hq dx n'
theorem nox_ : Passes (L2.CX X.prog X.w) X (fun _ _ _ => False) := by
  rintro pins σ H s e s' I ⟨_, _, _, _, _, _, _, _, _, _, _, _, z⟩
  exact z.elim
def fErr1 (c fld code : Str) : FA
  | [d], μ => if nobor d = true then ret (.exn c [(fld, d), ("code", .str code)]) μ else none
  | _, _ => none
theorem repF2 {T : Tx} {ρ : List Addr} {G : Hp} {f g : Str} {x y : V} {a b : D} (h : Rep T ρ G x a) (h' : Rep T ρ G y b) : RepF T ρ G [(f, x), (g, y)] [(f, a), (g, b)] := by
  unfold RepF
  refine ⟨x, _, rfl, h, ?_⟩
  unfold RepF
  refine ⟨y, _, rfl, h', ?_⟩
  unfold RepF; rfl
/-- C(e) as a value -/
theorem de_err1 {c fld code : Str} {k : Nat} {n : DEnv → Mu → Res (List D)} (E : MkErr X.prog X.w X.K X.mg X.base c fld code k) (hr : Room (k + 1) X.A) (hg : Gl X c) (ha : DA X B W [e] n) (hdb : (c == ("__debug__" : Str)) = false := by decide) (he : starEach [e] X.env = (false, eval e X.env) :: starEach [] X.env := by rfl) :
    DE X B W (.Call (.Name c p) [e] [] pos) (dCall (fErr1 c fld code) n) := by
  obtain ⟨C, fI, fd, ps, b, hm, T, iC, tI, hb, F⟩ := E.ex
  refine ⟨peImp (pe_held (pmk_n T iC tI F hr hb nox_ hg hm ha.run hdb he rfl)) fun σ H Q ⟨ρ, G, env, μ, R, k⟩ => ?_⟩
  refine ⟨ρ, G, env, μ, R, (KE.bind (f := fErr1 c fld code) k).imp fun ρ1 G1 H1 μ1 ds s p R1 k1 vs hvs => ?_⟩
  unfold fErr1 at k1
  split at k1
  · rename_i d
    split at k1
    · rename_i hd
      obtain ⟨v, rfl, hv⟩ := hreps1 hvs
      refine err1_step (C := C) (fld := fld) (code := code) (v := v) (H1 := H1) (Qx := fun cls d H1 => ∃ C dd : Addr, cls = .ref C ∧ d = some dd ∧ ∀ a, H1 a = none → Q (.ref a) (upd H1 a (exv a C dd))) fun dd n => ⟨C, dd, rfl, rfl, fun a na => ?_⟩
      have R2 := R1.alloc (o := .xd [(fld, v), ("code", .str code)]) n
      have R3 := R2.alloc (o := exv a C dd) na
      have g1 := (R1.fresh_ n).1
      have g2 := (R2.fresh_ na).1
      refine k1 ρ1 _ _ ((same_upd g1).trans (same_upd g2)) (.refl _) R3 _ (.ofR ?_)
      have rv := (hv.rep hd).mono ((same_upd g1 (o := .xd [(fld, v), ("code", .str code)])).trans (same_upd g2 (o := exv a C dd))) (.refl _)
      have hne : dd ≠ a := fun z => by rw [z, upd_same] at na; cases na
      unfold Rep
      exact ⟨a, C, dd, _, rfl, hm, upd_same, by rw [upd_ne hne, upd_same], repF2 rv rep_str⟩
    · exact k1.elim
  · exact k1.elim
/-- raise C(e) -/
def dRaise (c fld code : Str) (n : DEnv → Mu → Res (List D)) : DSt := fun env μ => bindS env (n env μ) fun ds μ => match ds with
  | [d] => if nobor d = true then some (.exc ⟨c, [(fld, d), ("code", .str code)]⟩, env, μ) else none
  | _ => none
theorem ds_raise {c fld code : Str} {k : Nat} {n : DEnv → Mu → Res (List D)} {pos' : Pos} (E : MkErr X.prog X.w X.K X.mg X.base c fld code k) (hc : X.calm = true) (tk : Takes X W) (hr : Room (k + 1) X.A) (hg : Gl X c) (ha : DA X B W [e] n) (hdb : (c == ("__debug__" : Str)) = false := by decide) (he : starEach [e] X.env = (false, eval e X.env) :: starEach [] X.env := by rfl) :
    DS X B W (.Raise (some (.Call (.Name c p) [e] [] pos)) none pos') (dRaise c fld code n) := by
  obtain ⟨C, fI, fd, ps, b, hm, T, iC, tI, hb, F⟩ := E.ex
  refine ⟨psImp (ps_raise hc tk (pmk_n T iC tI F hr hb nox_ hg hm ha.run hdb he rfl)) fun De σ H ⟨ρ, G, env, μ, R, k⟩ => ?_⟩
  refine ⟨ρ, G, env, μ, R, (KS.bind k).imp fun ρ1 G1 H1 μ1 ds s p R1 k1 vs hvs => ?_⟩
  split at k1
  · rename_i d
    split at k1
    · rename_i hd
      obtain ⟨v, rfl, hv⟩ := hreps1 hvs
      refine err1_step (C := C) (fld := fld) (code := code) (v := v) (H1 := H1) (Qx := fun cls d H' => W cls d σ H') fun dd n => ?_
      have g1 := (R1.fresh_ n).1
      exact k1 σ ρ1 _ _ _ _ (same_upd g1) (.refl _) (R1.alloc n) ⟨C, dd, _, rfl, hm, rfl, upd_same, repF2 ((hv.rep hd).mono (same_upd g1) (.refl _)) rep_str⟩
    · exact k1.elim
  · exact k1.elim
/-! ### errors without fields -/
def spErr0 (C : Addr) (code : Str) : Sp := fun vs H Q E => ∃ a : Addr, vs = [.ref a] ∧ H a = some (exo a C none) ∧ ∀ dx, H dx = none → dx ≠ a → Q .non (upd (upd H dx (exd dx [("code", .str code)])) a (exo a C (some dx)))
structure MkErr0 (P : Program) (w : World) (K : PySem.W.Frag) (mg : Str → Option Value) (base : Heap) (c code : Str) (k : Nat) : Prop where
  ex : ∃ (C fI : Addr) (fd : FuncData) (ps : List Str) (b : EBase), mg c = some (.ref C) ∧ OexN K C b ∧ PySem.W.findIn K (.ref C) "__init__" = some (some (.ref fI)) ∧ PySem.W.typeIn K (.ref fI) = some (.type "function") ∧ Binds K fd ps [] ∧ FnOk P w K mg base (L2.CX P w) k fI fd ps (spErr0 C code)
theorem err0_step {C : Addr} {code : Str} {H1 : Hp} {Qx : XK} (hq : ∀ d, H1 d = none → Qx (.ref C) (some d) (upd H1 d (.xd [("code", .str code)]))) :
    ([] : List V).length ≤ 1000 ∧ ∀ a, H1 a = none → spErr0 C code (.ref a :: ([] ++ [])) (upd H1 a (exo a C none))
      (fun u H2 => u = .non ∧ ∃ (d : Addr) (fs : List (Str × V)), H2 a = some (exo a C (some d)) ∧ H2 d = some (exd d fs) ∧ H1 d = none ∧ Qx (.ref C) (some d) (upd (del H2 a) d (.xd fs))) (fun _ _ _ => False) := by
  refine ⟨by show 0 ≤ 1000; decide, fun a ha => ⟨a, rfl, upd_same, fun dx n ne => ?_⟩⟩
  have n' : H1 dx = none := by rw [upd_ne ne] at n; exact n
  refine ⟨rfl, dx, [("code", .str code)], upd_same, by rw [upd_ne ne, upd_same], n', ?_⟩
  have e : upd (del (upd (upd (upd H1 a (exo a C none)) dx (exd dx [("code", .str code)])) a (exo a C (some dx))) a) dx (.xd [("code", .str code)]) = upd H1 dx (.xd [("code", .str code)]) := by
    funext b
    by_cases h1 : b = dx
    · rw [h1, upd_same, upd_same]
    · rw [upd_ne h1, upd_ne h1]
      by_cases h2 : b = a
      · rw [h2, del_same, ha]
      · rw [del_ne h2, upd_ne h2, upd_ne h1, upd_ne h2]
  rw [e]; exact hq dx n'
theorem repF1 {T : Tx} {ρ : List Addr} {G : Hp} {f : Str} {x : V} {a : D} (h : Rep T ρ G x a) : RepF T ρ G [(f, x)] [(f, a)] := by
  unfold RepF
  refine ⟨x, _, rfl, h, ?_⟩
  unfold RepF; rfl
/-- C() as a value -/
def dErr0 (c code : Str) : DEx := dC (.exn c [("code", .str code)])
theorem de_err0 {c code : Str} {k : Nat} (E : MkErr0 X.prog X.w X.K X.mg X.base c code k) (hr : Room (k + 1) X.A) (hg : Gl X c) (hdb : (c == ("__debug__" : Str)) = false := by decide) :
    DE X B W (.Call (.Name c p) [] [] pos) (dErr0 c code) := by
  obtain ⟨C, fI, fd, ps, b, hm, T, iC, tI, hb, F⟩ := E.ex
  refine ⟨peImp (pe_held (pmk_0 T iC tI F hr hb nox_ hg hm hdb)) fun σ H Q ⟨ρ, G, env, μ, R, k⟩ => ?_⟩
  refine err0_step (C := C) (code := code) (H1 := H) (Qx := fun cls d H1 => ∃ C dd : Addr, cls = .ref C ∧ d = some dd ∧ ∀ a, H1 a = none → Q (.ref a) (upd H1 a (exv a C dd))) fun dd n => ⟨C, dd, rfl, rfl, fun a na => ?_⟩
  have R2 := R.alloc (o := .xd [("code", .str code)]) n
  have R3 := R2.alloc (o := exv a C dd) na
  have g1 := (R.fresh_ n).1
  have g2 := (R2.fresh_ na).1
  refine k ρ _ _ ((same_upd g1).trans (same_upd g2)) (.refl _) R3 _ (.ofR ?_)
  have hne : dd ≠ a := fun z => by rw [z, upd_same] at na; cases na
  unfold Rep
  exact ⟨a, C, dd, _, rfl, hm, upd_same, by rw [upd_ne hne, upd_same], repF1 rep_str⟩
/-- raise C() -/
def dRaise0 (c code : Str) : DSt := fun env μ => some (.exc ⟨c, [("code", .str code)]⟩, env, μ)
theorem ds_raise0 {c code : Str} {k : Nat} {pos' : Pos} (E : MkErr0 X.prog X.w X.K X.mg X.base c code k) (hc : X.calm = true) (tk : Takes X W) (hr : Room (k + 1) X.A) (hg : Gl X c) (hdb : (c == ("__debug__" : Str)) = false := by decide) :
    DS X B W (.Raise (some (.Call (.Name c p) [] [] pos)) none pos') (dRaise0 c code) := by
  obtain ⟨C, fI, fd, ps, b, hm, T, iC, tI, hb, F⟩ := E.ex
  refine ⟨psImp (ps_raise hc tk (pmk_0 T iC tI F hr hb nox_ hg hm hdb)) fun De σ H ⟨ρ, G, env, μ, R, k1⟩ => ?_⟩
  refine err0_step (C := C) (code := code) (H1 := H) (Qx := fun cls d H' => W cls d σ H') fun dd n => ?_
  have g1 := (R.fresh_ n).1
  exact k1 σ ρ _ _ _ _ (same_upd g1) (.refl _) (R.alloc n) ⟨C, dd, _, rfl, hm, rfl, upd_same, repF1 rep_str⟩
end
end Dv

/-! DwF: an own error class of one field, by the text of its __init__. -/
namespace Dv
open PySem PySem.Spec PyProof.Rows L2
section
variable {P : Program} {w : World} {K : PySem.W.Frag} {mg : Str → Option Value} {base : Heap}
theorem mkErr_of {c fld code prm qual : Str} {C fI : Addr} {fd : FuncData} {params : Arguments} {scope : Scope} {k : Nat} {p0 p1 p2 p3 p4 q0 q1 q2 q3 q4 r1 r2 r3 r4 : Pos} {txt : Str} {j j2 : Nat} {pl : Sem Bool} {ar : Arg} {b : EBase}
    (hm : mg c = some (.ref C)) (T : SupC K C C b) (no1 : PySem.W.findIn K (.ref C) "code" = some none) (no2 : PySem.W.findIn K (.ref C) fld = some none) (iC : PySem.W.findIn K (.ref C) "__init__" = some (some (.ref fI))) (tI : PySem.W.typeIn K (.ref fI) = some (.type "function"))
    (F : SupD P K "__init__" qual params [.Expr (.Call (.Attribute (.Call (.Name "super" p0) [] [] p1) "__init__" p2) [.Constant (.str txt) j p3] [] p4) q0, .Assign [.Attribute (.Name "self" q1) "code" q2] (.Constant (.str code) j2 q3) q4, .Assign [.Attribute (.Name "self" r1) fld r2] (.Name prm r3) r4] scope fI fd C)
    (S : SupScope ["self", prm] ["self", prm] scope) (hpar : (params.posonlyargs ++ params.args).head? = some ar) (har : ar.arg = "self") (hmg : mg "super" = none) (htop : (P.main.scope.names.lookup ("super" : Str)).isSome = false)
    (he : ∀ env : Env, eval (.Call (.Attribute (.Call (.Name "super" p0) [] [] p1) "__init__" p2) [.Constant (.str txt) j p3] [] p4) env = (do
      let ov ← attributeBase (.Call (.Name "super" p0) [] [] p1) "__init__" env (eval (.Call (.Name "super" p0) [] [] p1) env)
      standAt p2.atName
      let (f', first) ← holding [ov] (getMethod ov "__init__" pl)
      callWith p4 f' first (backTo p4 (starEach [.Constant (.str txt) j p3] env)) []))
    (s1 : ∀ env : Env, swapsWith (.Constant (.str code) j2 q3) (some (.Attribute (.Name "self" q1) "code" q2)) q4.line env = pure false) (s2 : ∀ env : Env, swapsWith (.Name prm r3) (some (.Attribute (.Name "self" r1) fld r2)) r4.line env = pure false)
    (d1 : (prm == Str.ofString "__debug__") = false) (d2 : (prm == Str.ofString "__classdict__") = false)
    (hb : Binds K fd ["self", prm] []) : MkErr P w K mg base c fld code (k + 1) := by
  refine ⟨C, fI, fd, ["self", prm], b, hm, T.oex, iC, tI, hb, ?_⟩
  have ps : scope.names.lookup ("self" : Str) = some .local := S.par _ (.head _)
  have pp : scope.names.lookup prm = some .local := S.par _ (.tail _ (.head _))
  refine sup_ok (N := ["self", prm]) (D := C) F S hpar (by rw [har]; exact ps) (by rw [har]; rfl) hmg htop (fun vs H Q E h => ?_) (fun vs H Q E h => ?_) he fun cda cc A outer s H vs Q E hr h => ?_
  · obtain ⟨a, v, rfl, _⟩ := h; rfl
  · obtain ⟨a, v, rfl, ea, _⟩ := h
    exact ⟨a, C, [v], b, rfl, ea, T⟩
  · obtain ⟨a, v, rfl, ea, q⟩ := h
    refine ⟨tSeq (tSt K "code" (tVar 0) (tC (.str code))) (tSt K fld (tVar 0) (tVar 1)), ?_, ?_⟩
    · exact pss_cons (ps_st (pv 0 rfl (.inl ps) rfl rfl) pe_str (s1 _)) (pss_one (ps_st (pv 0 rfl (.inl ps) rfl rfl) (pv 1 rfl (.inl pp) d1 d2) (s2 _)))
    · refine ⟨.ref a, rfl, a, C, b, rfl, T.oex, no1, .inl ⟨ea, fun dx n ne => ?_⟩⟩
      refine ⟨v, rfl, .ref a, rfl, a, C, b, rfl, T.oex, no2, .inr ⟨dx, [("code", .str code)], upd_same, ?_, by show 1 ≤ 900; decide, q dx n ne⟩⟩
      rw [upd_ne ne, upd_same]
theorem mkErr0_of {c code qual : Str} {C fI : Addr} {fd : FuncData} {params : Arguments} {scope : Scope} {k : Nat} {p0 p1 p2 p3 p4 q0 q1 q2 q3 q4 : Pos} {txt : Str} {j j2 : Nat} {pl : Sem Bool} {ar : Arg} {b : EBase}
    (hm : mg c = some (.ref C)) (T : SupC K C C b) (no1 : PySem.W.findIn K (.ref C) "code" = some none) (iC : PySem.W.findIn K (.ref C) "__init__" = some (some (.ref fI))) (tI : PySem.W.typeIn K (.ref fI) = some (.type "function"))
    (F : SupD P K "__init__" qual params [.Expr (.Call (.Attribute (.Call (.Name "super" p0) [] [] p1) "__init__" p2) [.Constant (.str txt) j p3] [] p4) q0, .Assign [.Attribute (.Name "self" q1) "code" q2] (.Constant (.str code) j2 q3) q4] scope fI fd C)
    (S : SupScope ["self"] ["self"] scope) (hpar : (params.posonlyargs ++ params.args).head? = some ar) (har : ar.arg = "self") (hmg : mg "super" = none) (htop : (P.main.scope.names.lookup ("super" : Str)).isSome = false)
    (he : ∀ env : Env, eval (.Call (.Attribute (.Call (.Name "super" p0) [] [] p1) "__init__" p2) [.Constant (.str txt) j p3] [] p4) env = (do
      let ov ← attributeBase (.Call (.Name "super" p0) [] [] p1) "__init__" env (eval (.Call (.Name "super" p0) [] [] p1) env)
      standAt p2.atName
      let (f', first) ← holding [ov] (getMethod ov "__init__" pl)
      callWith p4 f' first (backTo p4 (starEach [.Constant (.str txt) j p3] env)) []))
    (s1 : ∀ env : Env, swapsWith (.Constant (.str code) j2 q3) (some (.Attribute (.Name "self" q1) "code" q2)) q4.line env = pure false)
    (hb : Binds K fd ["self"] []) : MkErr0 P w K mg base c code (k + 1) := by
  refine ⟨C, fI, fd, ["self"], b, hm, T.oex, iC, tI, hb, ?_⟩
  have ps : scope.names.lookup ("self" : Str) = some .local := S.par _ (.head _)
  refine sup_ok (N := ["self"]) (D := C) F S hpar (by rw [har]; exact ps) (by rw [har]; rfl) hmg htop (fun vs H Q E h => ?_) (fun vs H Q E h => ?_) he fun cda cc A outer s H vs Q E hr h => ?_
  · obtain ⟨a, rfl, _⟩ := h; rfl
  · obtain ⟨a, rfl, ea, _⟩ := h
    exact ⟨a, C, [], b, rfl, ea, T⟩
  · obtain ⟨a, rfl, ea, q⟩ := h
    refine ⟨tSt K "code" (tVar 0) (tC (.str code)), ?_, ?_⟩
    · exact pss_one (ps_st (pv 0 rfl (.inl ps) rfl rfl) pe_str (s1 _))
    · exact ⟨.ref a, rfl, a, C, b, rfl, T.oex, no1, .inl ⟨ea, fun dx n ne => q dx n ne⟩⟩
end
end Dv

/-! DwG: try .. except (A, B, C) as n, at the level of deep values. -/
namespace Dv
open PySem PySem.Spec PyProof.Rows L2
/-- the errors of these classes are caught -/
structure Catch (K : PySem.W.Frag) (mg : Str → Option Value) (vs : List Value) (cs : List Str) : Prop where
  ok : ∀ c ∈ cs, ∃ C : Addr, mg c = some (.ref C) ∧ PySem.W.exmAny K (.ref C) vs = some true
def behind (i : Nat) : RS → RS
  | some (.val (.ret d), env, μ) => some (.val (.ret d), env, μ)
  | some (.val f, env, μ) => some (.val f, env.set i .no, μ)
  | _ => none
def dTry (cs : List Str) (i : Nat) (m ms : DSt) : DSt := fun env μ => match m env μ with
  | some (.exc x, env', μ') => if x.cls ∈ cs then behind i (ms (env'.set i (.v (.exn x.cls x.fs))) μ') else none
  | r => r
section
variable {X : Cx} {B : Bs} {Wout : WX} {i : Nat} {n x1 x2 x3 : Str} {c1 c2 c3 : Value} {body suite : List Stmt} {b₀ : Stmt} {q1 q2 q3 tp pos pos' : Pos} {kk : Nat} {m ms : DSt} {cs : List Str}
theorem ds_try3 (hs : X.stack = X.env :: X.outer) (hf : X.env.frame = some X.env.locals) (hex : X.ex = []) (hN : X.N.Nodup) (hi : X.N[i]? = some n) (hln : X.env.kindOf n = some .local) (hc1 : Names X x1 c1) (hc2 : Names X x2 c2) (hc3 : Names X x3 c3) (tk : Takes X Wout)
    (hc : Catch X.K X.mg [c1, c2, c3] cs) (hb : ∀ (W : WX) (pn : List (Addr × Obj)) (xe : Value → Shared → Prop), Takes (X.tr pn xe) W → PassesOwn (model X.prog X.w) X.A X.env xe → DSs (X.tr pn xe) B W body m)
    (hsu : ∀ (a : Addr) (pn : List (Addr × Obj)), DSs (X.suite a pn) B W0 (b₀ :: suite) ms) :
    DS X B Wout (.Try body [.ExceptHandler (some (.Tuple [.Name x1 q1, .Name x2 q2, .Name x3 q3] kk tp)) (some n) (b₀ :: suite) pos'] [] [] pos) (dTry cs i m ms) := by
  refine ⟨psImp (ps_try_tup3 (tb := fun W => rdS (tx X) B W m) (ts := rdS (tx X) B W0 ms) hs hf hex hN hi hln hc1 hc2 hc3 tk (fun W pn xe t p => (hb W pn xe t p).run) (fun a pn => (hsu a pn).run)) fun De σ H ⟨ρ, G, env, μ, R, k⟩ => ⟨ρ, G, env, μ, R, ?_⟩⟩
  unfold dTry at k
  cases hm : m env μ with
  | none => rw [hm] at k; exact k.elim
  | some q =>
    obtain ⟨o, e', μ'⟩ := q
    rw [hm] at k
    cases o with
    | val f => cases f <;> exact k
    | exc x =>
      have k : KS (tx X) B Wout De ρ G (if x.cls ∈ cs then behind i (ms (e'.set i (.v (.exn x.cls x.fs))) μ') else none) := k
      split at k
      · rename_i hin
        obtain ⟨C, hmC, told⟩ := hc.ok _ hin
        intro σ' ρ' G' H' cls dd s p R' er
        obtain ⟨C', d, vf, rfl, hm', rfl, gd, rf⟩ := er
        have hm' : X.mg x.cls = some (.ref C') := hm'
        rw [hmC] at hm'; cases hm'
        refine ⟨true, told, ?_⟩
        rw [if_pos rfl]
        refine ⟨C, d, rfl, rfl, fun a na => ?_⟩
        have ga := (R'.fresh_ na).1
        have R2 := R'.alloc (o := exv a C d) na
        have gs := same_upd ga (o := exv a C d)
        have hda : d ≠ a := fun z => by
          have := R'.gh _ _ gd
          rw [z, na] at this; cases this
        have rx : Rep (tx X) ρ' (upd G' a (exv a C d)) (.ref a) (.exn x.cls x.fs) := by
          unfold Rep
          exact ⟨a, C, d, vf, rfl, hmC, upd_same, by rw [upd_ne hda]; exact gd, rf.mono gs (.refl _)⟩
        have k := k.weak (s.trans gs) p
        refine ⟨ρ', _, _, μ', R2.set (i := i) rx, ?_⟩
        cases hr : ms (e'.set i (.v (.exn x.cls x.fs))) μ' with
        | none => rw [hr] at k; exact k.elim
        | some q2 =>
          obtain ⟨o2, e2, μ2⟩ := q2
          rw [hr] at k
          have gone : ∀ {σ2 : L2.St} {ρ2 : List Addr} {G2 H2 : Hp}, RD (tx X) B ρ2 G2 H2 σ2 e2 μ2 → RD (tx X) B ρ2 G2 H2 (σ2.set i none) (e2.set i .no) μ2 := fun R3 => R3.setG (fun _ => by simp) fun d' z => by cases z
          cases o2 with
          | exc y => exact k.elim
          | val f =>
            cases f with
            | nx => exact fun σ2 ρ2 G2 H2 s2 p2 R3 => k _ ρ2 G2 H2 s2 p2 (gone R3)
            | brk => exact fun σ2 ρ2 G2 H2 s2 p2 R3 => k _ ρ2 G2 H2 s2 p2 (gone R3)
            | ct => exact fun σ2 ρ2 G2 H2 s2 p2 R3 => k _ ρ2 G2 H2 s2 p2 (gone R3)
            | ret d2 => exact k
      · exact k.elim
end
end Dv

/-! DwH: defs that are called within a suite, at the level of deep values. -/
namespace Dv
open PySem PySem.Spec PyProof.Rows L2
def spF (T : Tx) (n : Nat) (m : Fn) : List V → Hp → VK → Prop := fun vs H Q => spD T n m vs H Q fun _ _ _ => False
section
variable {P : Program} {w : World} {K : PySem.W.Frag} {mg : Str → Option Value} {base : Heap} {x qual : Str} {params : Arguments} {body : List Stmt} {scope : Scope} {f : Addr} {fd : FuncData}
theorem def_okF {N ps : List Str} {k : Nat} {m : DSt} (F : FunD K x qual params body scope [] [] f fd) (S : FnScope N ps scope)
    (hbody : ∀ (cdv : Value) (A : Around) (outer : List Env) (s : Shared) (H : Hp) (B : Bs), RoomF k (A.deeper (envOfC qual scope s.heap.objs.size f cdv)) → DSs (cxF P w K mg base N qual scope f cdv A outer s H) B W0 body m) :
    FnF P w K mg base (k + 1) f fd ps (spF ⟨K, mg⟩ ps.length (cleanD (defD N.length m))) := by
  refine fnF_of F S (fun vs H Q h => h.1) fun cdv A outer s H vs Q hr h => ?_
  obtain ⟨hl, ρ, G, ds, μ, gh, st, rs, told⟩ := h
  refine ⟨rdS ⟨K, mg⟩ ⟨H, G, ρ, []⟩ W0 m, (hbody cdv A outer s H _ hr).run, ρ, G, envD N.length ds, μ, start_rd gh st rs, ?_⟩
  unfold cleanD defD at told
  cases e : m (envD N.length ds) μ with
  | none => rw [e] at told; exact told.elim
  | some q =>
    obtain ⟨o, env', μ'⟩ := q
    rw [e] at told
    cases o with
    | exc y => exact fun σ' ρ' G' H' cls dd s p R er => told cls dd ρ' G' H' R.ext R.gh R.st er
    | val fl =>
      cases fl with
      | brk => exact told.elim
      | ct => exact told.elim
      | nx => exact fun σ' ρ' G' H' s p R => told .non ρ' G' H' R.ext R.gh R.st (show Rep _ _ _ _ _ from rep_non)
      | ret d =>
        have told : KC ⟨K, mg⟩ ρ G H Q (fun _ _ _ => False) (if nobor d then some (.val d, μ') else none) := told
        split at told
        · rename_i clean
          exact fun σ' env2 ρ' G' H' v s p R hv => told v ρ' G' H' R.ext R.gh R.st (repO_of hv clean)
        · exact told.elim
end
/-- such a def by its name -/
structure CalleeF (P : Program) (w : World) (K : PySem.W.Frag) (mg : Str → Option Value) (base : Heap) (x : Str) (ps : List Str) (k : Nat) (m : Fn) : Prop where
  ex : ∃ (f : Addr) (fd : FuncData), mg x = some (.ref f) ∧ PySem.W.keepIn K (.ref f) = true ∧ Binds K fd ps [] ∧ FnF P w K mg base k f fd ps (spF ⟨K, mg⟩ ps.length m)
/-- its value alone -/
def valOnly (m : Fn) : Fn := fun ds μ => match m ds μ with
  | some (.val d, μ') => some (.val d, μ')
  | _ => none
theorem de_callF {X : Cx} {B : Bs} {W : WX} {k n : Nat} {ps : List Str} {m : Fn} {x : Str} {p pos : Pos} {e : Expr} {es : List Expr} {na : DEnv → Mu → Res (List D)} (C : CalleeF X.prog X.w X.K X.mg X.base x ps k m) (room : RoomF k X.A) (hg : Gl X x) (ha : DA X B W (e :: es) na) (hn : ps.length = n := by rfl)
    (hdb : (x == ("__debug__" : Str)) = false := by decide) (first : starEach (e :: es) X.env = (false, eval e X.env) :: starEach es X.env := by rfl) (plain : (backTo pos (starEach es X.env)).any (·.1) = false := by rfl) :
    DE X B W (.Call (.Name x p) (e :: es) [] pos) (dCall (fCall n (valOnly m)) na) := by
  subst hn
  obtain ⟨f, fd, h1, h2, h3, h4⟩ := C.ex
  refine ⟨peImp (pe_callF h4 room hg h1 h2 h3 ha.run hdb first plain) fun σ H Q ⟨ρ, G, env, μ, R, k⟩ => ?_⟩
  refine ⟨ρ, G, env, μ, R, (KE.bind (f := fCall ps.length (valOnly m)) k).imp fun ρ1 G1 H1 μ1 ds s p R1 k1 vs hvs => ?_⟩
  unfold fCall at k1
  split at k1
  · rename_i h
    have r := hvs.reps h.2
    refine ⟨by rw [r.length, h.1], ρ1, G1, ds, μ1, R1.gh, R1.st, r, ?_⟩
    unfold valOnly at k1
    cases hm : m ds μ1 with
    | none => rw [hm] at k1; exact k1.elim
    | some q =>
      obtain ⟨o, μ2⟩ := q
      rw [hm] at k1
      cases o with
      | exc y => exact k1.elim
      | val d => exact fun v ρ' G' H' ex gh st ro => k1 ρ' G' H' ex.gg ex.pre (R1.after ex gh st) v (repX_after R1 ro)
  · exact k1.elim
end Dv

/-! DwI: a text in a written tuple of texts; what the law's helpers say of a caught error. -/
namespace Dv
open PySem PySem.Spec PyProof.Rows L2
def asStrs : List D → Option (List Str)
  | [] => some []
  | .str x :: ds => (match asStrs ds with
    | some l => some (x :: l)
    | none => none)
  | _ :: _ => none
theorem asStrs_inv {T : Tx} {ρ : List Addr} {G : Hp} : ∀ {l : List D} {ws : List Str} {vs : List V}, asStrs l = some ws → Reps T ρ G vs l → vs = ws.map V.str
  | [], ws, vs, e, r => by unfold asStrs at e; cases e; rw [r.inv0]; rfl
  | d :: ds, ws, vs, e, r => by
    cases d with
    | str x =>
      unfold asStrs at e
      cases h : asStrs ds with
      | none => simp only [h] at e; cases e
      | some l =>
        simp only [h] at e
        cases e
        obtain ⟨v, t, rfl, q, rs⟩ := r.inv
        unfold Rep at q
        rw [q, asStrs_inv h rs]; rfl
    | _ => unfold asStrs at e; cases e
def fInS (neg : Bool) : F2
  | .str x, .tup l, μ => (match asStrs l with
    | some ws => ret (.bl (neg != ws.any fun y => decide (y = x))) μ
    | none => none)
  | _, _, _ => none
theorem inV_strs (x : Str) (ws : List Str) : inV (.str x) (ws.map V.str) = ws.any fun y => decide (y = x) := by
  unfold inV
  rw [List.any_map]
  congr 1
theorem flat_strs (ws : List Str) : (ws.map V.str).all flatV = true := by
  rw [List.all_map]; exact List.all_eq_true.mpr fun _ _ => rfl
theorem opd_inS {X : Cx} (neg : Bool) : OpD (tx X) (rIn X.K neg) (fInS neg) := by
  intro B W σ env ρ G H μ x y d d' Q R hx hy k
  unfold fInS at k
  split at k
  · split at k
    · rename_i ws he
      obtain ⟨a, vs, rfl, q, z, r⟩ := tup_inv hy
      have hv := asStrs_inv he r
      subst hv
      refine ⟨a, _, rfl, .inr (sqG_mono R.gh q).sq, by rw [str_inv hx]; rfl, flat_strs ws, ?_⟩
      rw [str_inv hx, inV_strs]
      cases neg with
      | true => simp only [Bool.true_bne] at k; exact k.here R (.ofR rep_bl)
      | false => simp only [Bool.false_bne] at k; exact k.here R (.ofR rep_bl)
    · exact k.elim
  · exact k.elim
end Dv

/-! DwJ: the head, with defs that close over their class. -/
namespace Dv
open PySem PySem.Spec PyProof.Rows L2
/-- one such def: the class and the method by name -/
structure ClD where
  cls : Str
  meth : Str
  name : Str
  qual : Str
  params : Arguments
  body : List Stmt
  scope : Scope
def ClD.at_ (d : ClD) : Str × Option Str := (d.cls, some d.meth)
/-- what the text gives, but the closure -/
def clW (K : PySem.W.Frag) (p : Str × Option Str) : He.FnW := (He.fnW K p).map fun (a, b, c, d, e, g, _, i) => (a, b, c, d, e, g, [], i)
def ClD.val (d : ClD) : He.FnW := some (d.name, d.qual, d.params, .stmts d.body, d.scope, mainGlobals, [], builtinsNs)
def cellB (K : PySem.W.Frag) (c : Addr) (a : Addr) : Bool := match K.lookup c with
  | some ⟨_, _, .cell (some (.ref b)), _⟩ => decide (a = b)
  | _ => false
def fileB (K : PySem.W.Frag) (file : Str) (c : Value) : Bool := match c with
  | .ref a => (match K.lookup a with
    | some ⟨_, _, .fields vs, _⟩ => (match (vs[2]? : Option Value) with
      | some (.str f _) => file == f
      | _ => false)
    | _ => false)
  | _ => false
def ClD.ok (file : Str) (K : PySem.W.Frag) (d : ClD) : Bool := PySem.W.keepIn K (.ref (He.fAd K d.at_)) && (match K.lookup (He.fAd K d.at_) with
  | some ⟨_, _, .func fd, _⟩ => PySem.W.codeIn K fd.code d.qual && (fileB K file fd.code && ((match fd.defaults with
      | .none => true
      | _ => false) && (match fd.closure with
      | [(n, c)] => n == ("__class__" : Str) && cellB K c (He.ga K d.cls)
      | _ => false)))
  | _ => false)
theorem cellB_ok {K : PySem.W.Frag} {c a : Addr} (h : cellB K c a = true) : ∃ cl cld csl, K.lookup c = some ⟨cl, cld, .cell (some (.ref a)), csl⟩ := by
  unfold cellB at h
  split at h
  · rename_i q
    have := of_decide_eq_true h
    subst this
    exact ⟨_, _, _, q⟩
  · cases h
theorem fileB_ok {K : PySem.W.Frag} {file : Str} {c : Value} (h : fileB K file c = true) : ∃ cda ccl cdd vs ccs f tf, c = .ref cda ∧ K.lookup cda = some ⟨ccl, cdd, .fields vs, ccs⟩ ∧ vs[2]? = some (.str f tf) ∧ (file == f) = true := by
  unfold fileB at h
  split at h
  · rename_i a
    split at h
    · rename_i q
      split at h
      · rename_i q2
        exact ⟨a, _, _, _, _, _, _, rfl, q, q2, h⟩
      · cases h
    · cases h
  · cases h
theorem ClD.supD {P : Program} {K : PySem.W.Frag} {d : ClD} (e : clW K d.at_ = d.val) (c : d.ok P.main.file K = true) : ∃ fd, SupD P K d.name d.qual d.params d.body d.scope (He.fAd K d.at_) fd (He.ga K d.cls) := by
  unfold ClD.ok at c
  rw [Bool.and_eq_true] at c
  obtain ⟨kp, c⟩ := c
  unfold clW He.fnW at e
  split at c
  · rename_i oc od fd osl q
    rw [q] at e
    obtain ⟨n1, n2, n3, n4, n5, n6, n7, n8, n9, n10, n11, n12, n13, n14, n15⟩ := fd
    simp only [Option.map_some, ClD.val, Option.some.injEq, Prod.mk.injEq] at e
    obtain ⟨h1, h2, h3, h4, h5, h6, _, h8⟩ := e
    subst h1 h2 h3 h4 h5 h6 h8
    simp only [Bool.and_eq_true] at c
    obtain ⟨k1, k2, k3, k4⟩ := c
    obtain ⟨cda, ccl, cdd, vs, ccs, f, tf, e1, e2, e3, e4⟩ := fileB_ok k2
    have e1 : n13 = .ref cda := e1
    subst e1
    cases n8 <;> try cases k3
    split at k4
    · rename_i nm cc
      rw [Bool.and_eq_true] at k4
      obtain ⟨g1, g2⟩ := k4
      have := eq_of_beq g1
      subst this
      obtain ⟨cl, cld, csl, hc⟩ := cellB_ok g2
      exact ⟨_, ⟨oc, od, n9, n10, n11, n12, cda, n14, osl, cc, cl, cld, csl, ccl, cdd, vs, ccs, f, tf, rfl, q, k1, e2, e3, e4, hc⟩, kp⟩
    · cases k4
  · cases c
/-! ### the Hook -/
abbrev AlC : Type := He.AlD × Bool × List He.FnW
def obsC (file : Str) (fa : List He.Fa) (fn : List He.DefD) (fc : List ClD) (K : PySem.W.Frag) : AlC := (He.obsD fa fn K, fc.all fun d => d.ok file K, fc.map fun d => clW K d.at_)
def valC (fn : List He.DefD) (fc : List ClD) : AlC := (He.valD fn, true, fc.map ClD.val)
structure SaysC (file : Str) (fa : List He.Fa) (fn : List He.DefD) (fc : List ClD) (K : PySem.W.Frag) : Prop where
  eq : obsC file fa fn fc K = valC fn fc
def obsCG (file : Str) (n : Nat) (fa : List He.Fa) (fn : List He.DefD) (fc : List ClD) (g : Addr → Option Obj) : AlC := obsC file fa fn fc (He.frG g (He.asD g n))
def hookC (file : Str) (n : Nat) (fa : List He.Fa) (fn : List He.DefD) (fc : List ClD) : PySem.W.Hook where
  α := AlC
  obs := fun s => obsCG file n fa fn fc s.heap.get?
  val := fun _ => valC fn fc
  says := fun _ h => ∃ K : PySem.W.Frag, K.In h ∧ SaysC file fa fn fc K
  of := fun _ _ e => ⟨_, He.frG_in, ⟨e⟩⟩
  keeps := by
    rintro _ _ _ ⟨K, hK, c⟩ k
    exact ⟨K, hK.keeps k, c⟩
section
variable {file : Str} {fa : List He.Fa} {fn : List He.DefD} {fc : List ClD} {K : PySem.W.Frag}
theorem obsCG_eq {n : Nat} {g : Addr → Option Obj} {s : Shared} (h : ∀ a, g a = s.heap.get? a) : obsCG file n fa fn fc g = (hookC file n fa fn fc).obs s := by
  have e : g = s.heap.get? := funext h
  subst e; rfl
theorem SaysC.plain (c : SaysC file fa fn fc K) : He.SaysD fa fn K := congrArg Prod.fst c.eq
theorem SaysC.cl {P : Program} (c : SaysC P.main.file fa fn fc K) (i : Nat) {d : ClD} (h : fc[i]? = some d := by rfl) : ∃ fd, SupD P K d.name d.qual d.params d.body d.scope (He.fAd K d.at_) fd (He.ga K d.cls) := by
  have all : (fc.all fun d => d.ok P.main.file K) = true := congrArg (fun z : AlC => z.2.1) c.eq
  have maps : (fc.map fun d => clW K d.at_) = fc.map ClD.val := congrArg (fun z : AlC => z.2.2) c.eq
  have one : (fc.map fun d => clW K d.at_)[i]? = (fc.map ClD.val)[i]? := by rw [maps]
  rw [List.getElem?_map, List.getElem?_map, h] at one
  exact ClD.supD (Option.some.inj one) (List.all_eq_true.mp all d (List.mem_of_getElem? h))
end
end Dv

/-! DwK: the facts of own errors, checked by Bool. -/
namespace Dv
open PySem PySem.Spec PyProof.Rows L2
section
variable {K : PySem.W.Frag} {C D : Addr}
/-- the shape of the class object of an error over the base b -/
def oexShape (b : EBase) (C : Addr) : Option Obj → Bool
  | some ⟨.type t, _, .cls cd, ⟨[_, _, _, _, some (.builtin n), _]⟩⟩ => decide (t = "type") && (decide (n = b.new) && ((!cd.hasDel) && (cd.hasDict && (match cd.mro with
    | .ref C' :: bm => decide (C' = C) && PySem.W.excTail b.tail bm
    | _ => false))))
  | _ => false
theorem oexShape_ok {b : EBase} {o : Option Obj} (h : oexShape b C o = true) : ∃ nm q N bs bm sn sub ab col dd k0 k1 k2 k3 k5, o = some (excClassObj nm q C N bs bm true sn sub ab col dd k0 k1 k2 k3 k5 b.new) ∧ PySem.W.excTail b.tail bm = true := by
  unfold oexShape at h
  split at h
  · rename_i t dd cd k0 k1 k2 k3 n k5
    obtain ⟨nm, bs, mro, N, q, hd, sn, sub, ab, col, hdel⟩ := cd
    simp only [Bool.and_eq_true, Bool.not_eq_true', decide_eq_true_eq] at h
    obtain ⟨h1, h2, h3, h4, h5⟩ := h
    split at h5
    · rename_i C' bm
      simp only [Bool.and_eq_true, decide_eq_true_eq] at h5
      obtain ⟨h5, h6⟩ := h5
      subst h1 h2 h3 h4 h5
      exact ⟨_, _, _, _, bm, _, _, _, _, _, _, _, _, _, _, rfl, h6⟩
    · cases h5
  · cases h
def oexB (b : EBase) (K : PySem.W.Frag) (C : Addr) : Bool := oexShape b C (K.lookup C) && (decide (PySem.W.findIn K (.ref C) "__setattr__" = some (some (.builtin "object.__setattr__"))) && (decide (PySem.W.subIn K (.ref C) (.type "BaseException") = some true) && (decide (PySem.W.typeIn K (.ref C) = some (.type "type")) && PySem.W.keepIn K (.ref C))))
theorem oexB_ok {b : EBase} (h : oexB b K C = true) : OexN K C b := by
  unfold oexB at h
  simp only [Bool.and_eq_true, decide_eq_true_eq] at h
  exact ⟨oexShape_ok h.1, h.2.1, h.2.2.1, h.2.2.2.1, h.2.2.2.2⟩
def supB (b : EBase) (K : PySem.W.Frag) (C D : Addr) : Bool := oexB b K C && ((PySem.W.clsIn K D).isSome && (decide (PySem.W.mroIn K C (.ref D) = some true) && (decide (PySem.W.ks_superIn K C D "__init__" = some (some (.builtin b.ini))) && (decide (PySem.W.subIn K (.ref C) (.type b.nm) = some true) && decide (PySem.W.nsIn K cStatics "thirdparty.any" = some none)))))
theorem supB_ok {b : EBase} (h : supB b K C D = true) : SupC K C D b := by
  unfold supB at h
  simp only [Bool.and_eq_true, decide_eq_true_eq] at h
  exact ⟨oexB_ok h.1, Option.isSome_iff_exists.mp h.2.1, h.2.2.1, h.2.2.2.1, h.2.2.2.2.1, h.2.2.2.2.2⟩
end
/-! ### a head with free checks beside it -/
abbrev AlB : Type := AlC × Bool
def obsB (file : Str) (fa : List He.Fa) (fn : List He.DefD) (fc : List ClD) (bs : List (PySem.W.Frag → Bool)) (K : PySem.W.Frag) : AlB := (obsC file fa fn fc K, bs.all fun b => b K)
def valB (fn : List He.DefD) (fc : List ClD) : AlB := (valC fn fc, true)
structure SaysB (file : Str) (fa : List He.Fa) (fn : List He.DefD) (fc : List ClD) (bs : List (PySem.W.Frag → Bool)) (K : PySem.W.Frag) : Prop where
  eq : obsB file fa fn fc bs K = valB fn fc
def obsBG (file : Str) (n : Nat) (fa : List He.Fa) (fn : List He.DefD) (fc : List ClD) (bs : List (PySem.W.Frag → Bool)) (g : Addr → Option Obj) : AlB := obsB file fa fn fc bs (He.frG g (He.asD g n ++ [cStatics]))
def hookB (file : Str) (n : Nat) (fa : List He.Fa) (fn : List He.DefD) (fc : List ClD) (bs : List (PySem.W.Frag → Bool)) : PySem.W.Hook where
  α := AlB
  obs := fun t => obsBG file n fa fn fc bs t.heap.get?
  val := fun _ => valB fn fc
  says := fun _ h => ∃ K : PySem.W.Frag, K.In h ∧ SaysB file fa fn fc bs K
  of := fun _ _ q => ⟨_, He.frG_in, ⟨q⟩⟩
  keeps := fun _ _ _ ⟨K, hK, c⟩ k => ⟨K, hK.keeps k, c⟩
section
variable {file : Str} {fa : List He.Fa} {fn : List He.DefD} {fc : List ClD} {bs : List (PySem.W.Frag → Bool)} {K : PySem.W.Frag}
theorem obsBG_eq {n : Nat} {g : Addr → Option Obj} {t : Shared} (h : ∀ a, g a = t.heap.get? a) : obsBG file n fa fn fc bs g = (hookB file n fa fn fc bs).obs t := by
  cases (funext h : g = t.heap.get?); rfl
theorem SaysB.says (c : SaysB file fa fn fc bs K) : SaysC file fa fn fc K := ⟨congrArg Prod.fst c.eq⟩
theorem SaysB.chk (c : SaysB file fa fn fc bs K) (i : Nat) {b : PySem.W.Frag → Bool} (h : bs[i]? = some b := by rfl) : b K = true :=
  List.all_eq_true.mp (congrArg Prod.snd c.eq : (bs.all fun b => b K) = true) b (List.mem_of_getElem? h)
end
/-- of the class of this name the attribute f is none's -/
def noB (c f : Str) : PySem.W.Frag → Bool := fun K => decide (PySem.W.findIn K (.ref (He.ga K c)) f = some none)
theorem noB_ok {c f : Str} {K : PySem.W.Frag} (h : noB c f K = true) : PySem.W.findIn K (.ref (He.ga K c)) f = some none := of_decide_eq_true h
/-- errors of the class of this name are caught by the classes of these names -/
def catB (c : Str) (cs : List Str) : PySem.W.Frag → Bool := fun K => decide (PySem.W.exmAny K (.ref (He.ga K c)) (cs.map fun d => .ref (He.ga K d)) = some true)
theorem catB_ok {c : Str} {cs : List Str} {K : PySem.W.Frag} (h : catB c cs K = true) : PySem.W.exmAny K (.ref (He.ga K c)) (cs.map fun d => .ref (He.ga K d)) = some true := of_decide_eq_true h
/-- a class's own init function -/
def iniB (c : Str) : PySem.W.Frag → Bool := fun K => decide (PySem.W.findIn K (.ref (He.ga K c)) "__init__" = some (some (.ref (He.fAd K (c, some "__init__"))))) && decide (PySem.W.typeIn K (.ref (He.fAd K (c, some "__init__"))) = some (.type "function"))
theorem iniB_ok {c : Str} {K : PySem.W.Frag} (h : iniB c K = true) : PySem.W.findIn K (.ref (He.ga K c)) "__init__" = some (some (.ref (He.fAd K (c, some "__init__")))) ∧ PySem.W.typeIn K (.ref (He.fAd K (c, some "__init__"))) = some (.type "function") := by
  unfold iniB at h
  simp only [Bool.and_eq_true, decide_eq_true_eq] at h
  exact h
end Dv

/-! DwL: the law is called, its tables of lambdas in the store. -/
namespace Dv
open PySem PySem.Spec PyProof.Rows L2
/-- what is frozen: all but these -/
def but (H : Hp) (ρ : List Addr) : Hp := fun b => if b ∈ ρ then none else H b
theorem but_same {H : Hp} {ρ : List Addr} : Same (but H ρ) H := fun b u e => by
  unfold but at e
  split at e
  · cases e
  · exact e
section
variable {K : PySem.W.Frag} {mg : Str → Option Value}
theorem sp_startT {m : Fn} {μ' : Mu} {H : Hp} {a : Addr} {ns : List Int} {qs : List ((Str × Option Str) × Str)} {ρ : List Addr} (hm : m [.scr (ns.map D.int)] (qs.map fun z => MObj.tab z.1 z.2) = some (.val (.bl true), μ')) (hl : ns.length ≤ 63)
    (hq : ρ = qs.map fun z => (He.cT K z.1).2) (nd : ρ.Nodup) (ht : ∀ p ∈ ρ, H p = some (.tbl #[])) (hS : SqL K H a (ns.map V.int)) :
    spD ⟨K, mg⟩ 1 m [.ref a] H (fun v _ => v = .bl true) (fun _ _ _ => False) := by
  refine ⟨rfl, ρ, but H ρ, [.scr (ns.map D.int)], qs.map (fun z => MObj.tab z.1 z.2), but_same, ⟨by rw [hq, List.length_map, List.length_map], nd, fun p hp => by unfold but; rw [if_pos hp], fun k o ho => ?_⟩, .cons ?_ .nil, ?_⟩
  · rw [List.getElem?_map] at ho
    cases e : qs[k]? with
    | none => rw [e] at ho; cases ho
    | some q =>
      rw [e] at ho; cases ho
      have hk : ρ[k]? = some (He.cT K q.1).2 := by rw [hq, List.getElem?_map, e]; rfl
      exact ⟨_, hk, rfl, #[], ht _ (List.mem_of_getElem? hk), True.intro, fun pos u hu => nomatch hu⟩
  · unfold Rep
    refine ⟨a, _, rfl, ?_, by rw [List.length_map]; exact Nat.le_trans hl (by decide), reps_ints ns⟩
    rcases hS with h | h
    · left
      have n : a ∉ ρ := fun z => by
        rcases h with h | ⟨o, h⟩ <;> (rw [ht a z] at h; cases h)
      have e : but H ρ a = H a := if_neg n
      unfold Rd
      rw [e]; exact h
    · right; exact h
  · rw [hm]
    intro v ρ' G' H' _ _ _ h
    have h : Rep ⟨K, mg⟩ ρ' G' v (.bl true) := h
    unfold Rep at h; exact h
end
end Dv

/-! DwM: a table of the store grows. -/
namespace Dv
open PySem PySem.Spec PyProof.Rows L2
section
variable {T : Tx} {B : Bs} {ρ : List Addr} {G H : Hp} {σ : L2.St} {env : DEnv} {μ : Mu} {k : Nat} {P : Addr} {pl : Str × Option Str} {q : Str}
theorem RD.setTab {ps : Array Value} (R : RD T B ρ G H σ env μ) (hP : ρ[k]? = some P) (hm : μ[k]? = some (.tab pl q)) (tr : TriplesOk ps.toList)
    (hc : ∀ (pos : Pos) (u : Value), codeAmong pos ps.toList = some u → ∃ c, u = .ref c ∧ G c = some (LamX.CodeO c q)) : RD T B ρ G (upd H P (.tbl ps)) σ env μ := by
  have inP : P ∈ ρ := List.mem_of_getElem? hP
  have gP := R.st.off P inP
  refine ⟨fun b u e => ?_, ⟨R.ext.gg, R.ext.pre, fun b u e => ?_, R.ext.fg, R.ext.fr⟩, R.len, fun i t ht => ?_, R.own, ⟨R.st.len, R.st.nd, R.st.off, fun j m hj => ?_⟩, fun x hx => ?_, R.xn⟩
  · have n : b ≠ P := fun z => by rw [z, gP] at e; cases e
    rw [upd_ne n]; exact R.gh b u e
  · by_cases z : b = P
    · refine ⟨_, by rw [z]; exact upd_same, fun n => ?_⟩
      rw [z] at e n
      have := R.ext.fr P inP n
      rw [this] at e; cases e
    · rw [upd_ne z]; exact R.ext.keep b u e
  · have h := R.slot i t ht
    match t, h with
    | .no, _ => exact True.intro
    | .v _, h => exact h
    | .own l', ⟨p, vs, q1, q2, q3, q4, q5, q6, q7⟩ =>
      have np : p ≠ P := fun z => by rw [z] at q6; exact q6 inP
      exact ⟨p, vs, q1, by rw [upd_ne np]; exact q2, q3, q4, q5, q6, q7⟩
  · obtain ⟨a, ea, r⟩ := R.st.at_ j m hj
    by_cases z : a = P
    · have hjk : j < ρ.length := (List.getElem?_eq_some_iff.mp ea).1
      rw [z] at ea
      have e : j = k := (List.getElem?_inj hjk R.st.nd).mp (ea.trans hP.symm)
      rw [e, hm] at hj
      cases hj
      obtain ⟨a2, ea2, r2⟩ := R.st.at_ k _ hm
      rw [hP] at ea2; cases ea2
      exact ⟨P, ea, r2.1, ps, upd_same, tr, hc⟩
    · exact ⟨a, ea, r.to (fun _ _ g => g) fun o e1 => by rw [upd_ne z]; exact e1⟩
  · obtain ⟨q1, q2, q3, q4⟩ := R.xo x hx
    have np : x.1 ≠ P := fun z => by rw [z] at q3; exact q3 inP
    exact ⟨by rw [upd_ne np]; exact q1, q2, q3, q4⟩
end
end Dv

/-! DwN: a lambda is made, told exactly: the code stood in the table, or one is added. -/
namespace Dv
open PySem PySem.Spec PyProof.Rows L2
/-- the maker's table as it stands -/
structure TabAt (H : Hp) (P : Addr) (q : Str) (ps : Array Value) : Prop where
  at_ : H P = some (.tbl ps)
  tr : TriplesOk ps.toList
  code : ∀ (pos : Pos) (u : Value), codeAmong pos ps.toList = some u → ∃ c, u = .ref c ∧ H c = some (LamX.CodeO c q)
abbrev lamQ (X : Cx) : Str := X.env.qual ++ "<lambda>"
abbrev triple (pos : Pos) (c : Addr) : Array Value := #[rawInt pos.line, rawInt pos.col, .ref c]
/-- what is handed on: the function object at f -/
structure MadeAt (X : Cx) (params : Arguments) (body : Expr) (scope : Scope) (H1 : Hp) (s' : Shared) (f c' : Addr) : Prop where
  ex : ∃ pm ctv : Value, s'.heap.get? f = some (PySem.W.kla_obj "<lambda>" (lamQ X) params body scope (cloFrom X.env.cells scope.names []) pm c' ctv)
  none_ : H1 f = none
  off : f ∉ frs X.stack
  code : H1 c' = some (LamX.CodeO c' (lamQ X))
section
variable {X : Cx} {pins : List (Addr × Obj)} {σ : L2.St} {H : Hp} {s : Shared} {c P : Addr} {params : Arguments} {body : Expr} {scope : Scope} {pos : Pos} {E Q : Value → Shared → Prop} {ps : Array Value}
theorem not_frame (I : Inv X pins σ H s) {f : Addr} (h : s.heap.objs.size ≤ f) : f ∉ frs X.stack := fun m =>
  (List.mem_cons.mp (I.stkSub _ m)).elim (fun e => absurd I.lt (by rw [← e]; exact Nat.not_lt.mpr h)) (fun e => I.nofs h e)
theorem lam_exact (I : Inv X pins σ H s) (TB : LamX.TabB X.base X.mg c P) (own : X.env.code = .ref c) (t : TabAt H P (lamQ X) ps) (nod : defaultsOf params X.env = ([], [])) (clo : ∀ y ∈ scope.names, y.2 = .free → ∃ a, X.env.cells.lookup y.1 = some a)
    (hit : ∀ (f c' : Addr) (s' : Shared), Inv X pins σ H s' → MadeAt X params body scope H s' f c' → Q (.ref f) s')
    (new : ∀ (f c' : Addr) (s' : Shared) (H1 : Hp), H c' = none → H1 = upd (upd H P (.tbl (ps ++ triple pos c'))) c' (LamX.CodeO c' (lamQ X)) → Inv X pins σ H1 s' → MadeAt X params body scope H1 s' f c' → Q (.ref f) s') :
    wpAny (model X.prog X.w) X.A (eval (.Lambda params body scope pos) X.env) Q E s := by
  have onHeap := I.hok P _ t.at_
  have gl := I.mod.glob.keeps I.bk
  have cd := TB.code.keeps I.bk
  have bm := TB.bm.keeps I.bk
  refine PySem.W.kla_eval nod ?_
  match hc : codeAmong pos ps.toList with
  | some u =>
    obtain ⟨c', rfl, known⟩ := t.code pos u hc
    exact PySem.W.kla_makeFunctionHit (closure_ok clo) I.ok.glob gl own cd onHeap t.tr hc bm fun ctv h' tk old len =>
      hit h'.objs.size c' _ (I.kept fun b o e => Heap.get?_push_of_some _ (old b o e)) ⟨⟨_, ctv, Heap.get?_push_size _ rfl⟩, I.hok.fresh len, not_frame I len, known⟩
  | none =>
    refine PySem.W.kla_makeFunction (closure_ok clo) I.ok.glob gl own cd onHeap t.tr hc TB.gP bm fun c' ctv h' tk old ge lt rec tab => ?_
    obtain ⟨_, oc, vs, tk2, e2, at2, dt, nm⟩ := rec
    cases e2
    have len : s.heap.objs.size ≤ h'.objs.size := Nat.le_of_lt (Nat.lt_of_le_of_lt ge lt)
    have fresh : H h'.objs.size = none := I.hok.fresh len
    have Pne : h'.objs.size ≠ P := ne_of_none t.at_ fresh |>.symm
    refine new h'.objs.size c' _ _ (I.hok.fresh ge) rfl (LamX.inv_table (more := triple pos c') I t.at_ (fun b o nb e => Heap.get?_push_of_some _ (old b o nb e)) (Heap.get?_push_of_some _ tab) ge ⟨oc, vs, tk2, Heap.get?_push_of_some _ at2, dt, nm⟩) ⟨⟨_, ctv, Heap.get?_push_size _ rfl⟩, ?_, not_frame I len, upd_same⟩
    rw [upd_ne (Nat.ne_of_gt lt), upd_ne Pne]
    exact fresh
end
end Dv

/-! DwO: the making of a lambda at the level of deep values. -/
namespace Dv
open PySem PySem.Spec PyProof.Rows L2
section
variable {X : Cx} {B : Bs} {ρ : List Addr} {G H : Hp} {σ : L2.St} {env : DEnv} {μ : Mu} {k : Nat} {c P : Addr} {pl : Str × Option Str} {q : Str} {T : Tx}
theorem RD.tabAt (R : RD T B ρ G H σ env μ) (hP : ρ[k]? = some P) (hm : μ[k]? = some (.tab pl q)) : ∃ ps, TabAt H P q ps ∧ ∀ (pos : Pos) (u : Value), codeAmong pos ps.toList = some u → ∃ a, u = .ref a ∧ G a = some (LamX.CodeO a q) := by
  obtain ⟨a, ea, r⟩ := R.st.at_ k _ hm
  rw [hP] at ea
  cases ea
  obtain ⟨_, ps, e1, e2, e3⟩ := r
  exact ⟨ps, ⟨e1, e2, fun pos u hu => (let ⟨a, x, y⟩ := e3 pos u hu; ⟨a, x, R.gh _ _ y⟩)⟩, e3⟩
theorem RD.lam {ps : Array Value} {pos : Pos} {c' : Addr} (R : RD T B ρ G H σ env μ) (hP : ρ[k]? = some P) (hm : μ[k]? = some (.tab pl q)) (t : TabAt H P q ps) (old : ∀ (pos : Pos) (u : Value), codeAmong pos ps.toList = some u → ∃ a, u = .ref a ∧ G a = some (LamX.CodeO a q)) (n : H c' = none) :
    RD T B ρ (upd G c' (LamX.CodeO c' q)) (upd (upd H P (.tbl (ps ++ triple pos c'))) c' (LamX.CodeO c' q)) σ env μ := by
  have ne : P ≠ c' := ne_of_none t.at_ n
  have gn : G c' = none := (R.fresh_ n).1
  have R1 := R.alloc (o := LamX.CodeO c' q) n
  have eL : (ps ++ triple pos c').toList = ps.toList ++ [rawInt pos.line, rawInt pos.col, .ref c'] := by simp [triple]
  have R2 := R1.setTab (ps := ps ++ triple pos c') hP hm (by rw [eL]; exact PySem.TriplesOk_snoc _ _ _ _ t.tr) fun pos' u hu => by
    rw [eL] at hu
    rcases LamX.among_app _ t.tr hu with z | z
    · obtain ⟨a, e1, e2⟩ := old pos' u z
      exact ⟨a, e1, same_upd gn _ _ e2⟩
    · exact ⟨c', z, upd_same⟩
  have sw : upd (upd H c' (LamX.CodeO c' q)) P (.tbl (ps ++ triple pos c')) = upd (upd H P (.tbl (ps ++ triple pos c'))) c' (LamX.CodeO c' q) := by
    funext b
    by_cases h1 : b = P
    · rw [h1, upd_same, upd_ne ne, upd_same]
    · rw [upd_ne h1]
      by_cases h2 : b = c'
      · rw [h2, upd_same, upd_same]
      · rw [upd_ne h2, upd_ne h2, upd_ne h1]
  rw [sw] at R2
  exact R2
end
end Dv

/-! DwP: the state in which a lambda's body is read: the caller's plain names alone. -/
namespace Dv
open PySem PySem.Spec PyProof.Rows L2
def unown : SV → SV
  | .own _ => .no
  | s => s
theorem unown_not {env : DEnv} {i : Nat} {l : List D} (h : (env.map unown)[i]? = some (.own l)) : False := by
  rw [List.getElem?_map] at h
  cases e : env[i]? with
  | none => rw [e] at h; cases h
  | some t => rw [e] at h; cases t <;> cases h
section
variable {B : Bs} {ρ : List Addr} {G H : Hp} {σ : L2.St} {env : DEnv} {μ : Mu} {T : Tx}
theorem RD.unown (R : RD T B ρ G H σ env μ) : RD T ⟨H, G, ρ, []⟩ ρ G H σ (env.map Dv.unown) μ := by
  refine ⟨R.gh, Ext.refl _ _ _, by rw [List.length_map]; exact R.len, fun i t ht => ?_, fun i j l l' p h1 => (unown_not h1).elim, R.st, fun x hx => absurd hx List.not_mem_nil, List.nodup_nil⟩
  rw [List.getElem?_map] at ht
  cases e : env[i]? with
  | none => rw [e] at ht; cases ht
  | some u =>
    rw [e] at ht
    have h := R.slot i u e
    cases u with
    | no => cases ht; exact True.intro
    | v d => cases ht; exact h
    | own l => cases ht; exact True.intro
end
end Dv

/-! DwQ: a def called with a lambda, told exactly. -/
namespace Dv
open PySem PySem.Spec PyProof.Rows L2
abbrev Told : Type := (XK → Hp → VK → Prop) → Hp → VK → Prop
/-- the reading: the lambda is made (its code known or new), then what the def makes of it -/
def tLamE (P : Addr) (q : Str) (pos : Pos) (G : Told) (t : XK → TE) : TE := fun σ H Q => ∃ ps, TabAt H P q ps ∧ G (fun E H' Q' => t E σ H' Q') H Q ∧
  ∀ a, H a = none → G (fun E H' Q' => t E σ H' Q') (upd (upd H P (.tbl (ps ++ triple pos a))) a (LamX.CodeO a q)) Q
/-- the def x at g, its one parameter a -/
structure OneArg (X : Cx) (x a : Str) (g : Addr) (cdg : Value) (bg : List Stmt) (sg : Scope) (Ng : List Str) : Prop where
  ex : ∃ (pg : Arguments) (dV kV doc pm ct oc : Value) (an od : Option Addr) (osl : Array (Option Value)), X.K.lookup g = some ⟨oc, od, .func (PySem.W.fnOf x x pg bg sg dV kV doc pm an cdg ct), osl⟩ ∧ L2.Binds X.K (PySem.W.fnOf x x pg bg sg dV kV doc pm an cdg ct) [a] []
  code : PySem.W.codeIn X.K cdg x = true
  kept : PySem.W.keepIn X.K (.ref g) = true
  sc : FnScope Ng [a] sg
  zero : Ng[0]? = some a
  vis : Vis sg a
  d1 : (a == ("__debug__" : Str)) = false
  d2 : (a == ("__classdict__" : Str)) = false
section
variable {X : Cx} {x a : Str} {g c P : Addr} {cdg : Value} {bg : List Stmt} {sg : Scope} {Ng : List Str} {k : Nat} {params : Arguments} {body : Expr} {scope : Scope} {t : XK → TE} {p lpos pos : Pos} {G : Told}
theorem pe_lamE (gl : Gl X x) (named : X.mg x = some (.ref g)) (nd : (x == ("__debug__" : Str)) = false) (O : OneArg X x a g cdg bg sg Ng) (gives : LamX.GivesTo X Ng x sg g cdg bg a (lamQ X) G)
    (TB : LamX.TabB X.base X.mg c P) (own : X.env.code = .ref c) (hr : Room (k + 2) X.A) (L : LamX.LamS X.env.scope scope) (nod : defaultsOf params X.env = ([], []))
    (none_ : ∀ (q : Str) (cl : List (Str × Addr)) (pm cv ctv : Value), bindArgs (PySem.W.kla_fn "<lambda>" q params body scope cl pm cv ctv) ⟨[], []⟩ = pure [])
    (read : ∀ (A : Around) (outer : List Env) (s : Shared) (H : Hp) (E : XK) (f c' : Addr), Room k (A.deeper (LamX.lamEnv X scope s.heap.objs.size f c')) → PE (LamX.lamCx X A outer s H E scope f c') body (t E)) :
    PE X (.Call (.Name x p) [.Lambda params body scope lpos] [] pos) (tLamE P (lamQ X) lpos G t) := by
  obtain ⟨pg, dV, kV, doc, pm0, ct, oc, an, od, osl, lk, binds⟩ := O.ex
  refine ⟨fun pins s σ H Q I ⟨ps, tab, hit, new⟩ => ?_⟩
  have go : ∀ (f c' : Addr) (s' : Shared) (H1 : Hp), Inv X pins σ H1 s' → MadeAt X params body scope H1 s' f c' → G (fun E H' Q' => t E σ H' Q') H1 Q →
      codeAny (model X.prog X.w) X.A (.call (.ref g) ⟨[.ref f], []⟩) (CR C8.CX0 X.stack X.prog X.w H1 s' Q C8.E0) s' := fun f c' s' H1 J M told => by
    obtain ⟨pm, ctv, atF⟩ := M.ex
    refine LamX.run_ofS (N := Ng) (ps := [a]) (us := [.ref f]) (vs := [.ref f]) lk O.code O.sc hr J.env0 (binds s' [.ref f] J.kIn rfl) (.cons rfl .nil) rfl fun room => ?_
    obtain ⟨u, hu, run⟩ := gives f c' s' H1 Q _ (fun W pn xe E p1 p2 tk hW => LamX.pe_act (i := 0) J L atF M.none_ M.off (none_ _ _ _ _ _) tk hW room (fun A outer s H r2 => read A outer s H E f c' r2) O.zero O.vis O.d1 O.d2) M.code told
    exact ⟨u, hu.nox, run⟩
  refine wpAny_Call_Name_kw (ld_glob I gl named ?_ nd)
  refine PySem.W.callWith_K (h₀ := X.base) I.ok.mod.kin O.kept ?_ (by rfl) (by rfl)
  show wpAny _ _ (spliced ((false, eval (.Lambda params body scope lpos) X.env) :: backTo pos (starEach [] X.env))) _ _ s
  have both : ∀ (f c' : Addr) (s' : Shared) (H1 : Hp), Inv X pins σ H1 s' → MadeAt X params body scope H1 s' f c' → G (fun E H' Q' => t E σ H' Q') H1 Q → wpAny (model X.prog X.w) X.A (call (.ref g) [.ref f]) (fun u s2 => ∃ v H2, Inv X pins σ H2 s2 ∧ L2.RelV v u ∧ Q v H2) X.xe s' := fun f c' s' H1 J M told => by
    refine wpAny_call (codeAny_mono (go f c' s' H1 J M told) fun r s2 hq => ?_)
    match r, hq with
    | .error e, hq => exact (show False from hq).elim
    | .ok (.ret u), hq => exact J.after hq
    | .ok .next, hq => exact False.elim hq
    | .ok .brk, hq => exact False.elim hq
    | .ok .cont, hq => exact False.elim hq
  refine Calls.spliced_cons (lam_exact I TB own tab nod (L.has I.ok) (fun f c' s' J M => ?_) fun f c' s' H1 n e J M => ?_)
  · exact Calls.spliced_nil ⟨J.kIn, both f c' s' H J M hit⟩
  · exact Calls.spliced_nil ⟨J.kIn, both f c' s' H1 J M (by rw [e]; exact new c' n)⟩
end
end Dv

/-! DwR: what a def got is called: the lambda's body is read at its maker's state; what it lets out is told of the caller's very state. -/
namespace Dv
open PySem PySem.Spec PyProof.Rows L2
section
variable {X : Cx} {pins : List (Addr × Obj)} {σ : L2.St} {H : Hp} {s : Shared} {CXg : CXT} {Eg : XK} {Ng : List Str} {qg : Str} {sg : Scope} {g f c' : Addr} {cdg pm ctv : Value} {params : Arguments} {body : Expr} {scope : Scope} {k i : Nat} {a : Str} {pn : List (Addr × Obj)} {xe : Value → Shared → Prop} {W : WX} {t : XK → TE} {p1 p2 : Pos}
/-- the asker's context, in a try -/
abbrev askCx (X : Cx) (CXg : CXT) (Ng : List Str) (qg : Str) (sg : Scope) (g : Addr) (cdg : Value) (s : Shared) (H : Hp) (Eg : XK) (pn : List (Addr × Obj)) (xe : Value → Shared → Prop) : Cx :=
  (cxOf CXg X.prog X.w X.K X.mg X.base Ng qg sg g cdg X.A X.stack s H Eg).tr pn xe
theorem pe_ask (J : Inv X pins σ H s) (L : LamX.LamS X.env.scope scope) (atF : s.heap.get? f = some (PySem.W.kla_obj "<lambda>" (lamQ X) params body scope (cloFrom X.env.cells scope.names []) pm c' ctv)) (newF : H f = none) (off : f ∉ frs X.stack)
    (none_ : bindArgs (PySem.W.kla_fn "<lambda>" (lamQ X) params body scope (cloFrom X.env.cells scope.names []) pm (.ref c') ctv) ⟨[], []⟩ = pure [])
    (tk : Takes (askCx X CXg Ng qg sg g cdg s H Eg pn xe) W) (room : Room (k + 1) (X.A.deeper (envOfC qg sg s.heap.objs.size g cdg)))
    (read : ∀ (A : Around) (outer : List Env) (s0 : Shared) (H : Hp) (E : XK), Room k (A.deeper (LamX.lamEnv X scope s0.heap.objs.size f c')) → PE (LamX.lamCx X A outer s0 H E scope f c') body (t E))
    (zero : Ng[i]? = some a) (vis : Vis sg a) (d1 : (a == ("__debug__" : Str)) = false) (d2 : (a == ("__classdict__" : Str)) = false) :
    PE (askCx X CXg Ng qg sg g cdg s H Eg pn xe) (.Call (.Name a p1) [] [] p2) (fun τ H1 Q => τ[i]? = some (some (.ref f)) ∧ H1 c' = some (LamX.CodeO c' (lamQ X)) ∧ t (fun cls d H2 => W cls d τ H2) σ H1 Q) := by
  constructor
  rintro pinsZ s0 τ H1 Q I0 ⟨slot, code, told⟩
  apply wpAny_Call_Name_kw
  refine thn ((pe_var (pos := p1) (i := i) zero vis d1 d2).run pinsZ s0 τ H1 (fun v H2 => v = .ref f ∧ H2 = H1) I0 ⟨.ref f, slot, rfl, rfl⟩) ?_
  rintro u s1 ⟨v2, H2, I1, rel, e1, e2⟩
  rw [e2] at I1
  rw [e1] at rel
  have eu : u = Value.ref f := rel
  subst eu
  have at1 := I1.base.keep f _ atF newF off List.not_mem_nil
  have deep := room.depth
  obtain ⟨⟨oc, vs, tk0, c1, c2, c3⟩, _, _⟩ := I1.hok c' _ code
  apply PySem.W.callWith_F0 ⟨_, _, _, _, at1⟩
  have inner : ∀ h2 : Heap, h2.Ns s1.heap.objs.size (fun y => ([] : List (Str × Value)).reverse.lookup y) → (∀ b o, s1.heap.get? b = some o → h2.get? b = some o) →
      Inv (LamX.lamCx X (askCx X CXg Ng qg sg g cdg s H Eg pn xe).A (askCx X CXg Ng qg sg g cdg s H Eg pn xe).stack s1 H1 (fun cls d H2 => W cls d τ H2) scope f c') [] σ H1 { s1 with heap := h2, toks := s1.toks + ([] : List (Str × Value)).length } :=
    fun h2 ns grown => LamX.lam_start2 J L I1.env0 room.hd (show Un (frs X.stack) [] H H1 s.heap s1.heap from I1.base) ns grown
  have runs : codeAny (model X.prog X.w) (askCx X CXg Ng qg sg g cdg s H Eg pn xe).A (.call (.ref f) ⟨[], []⟩) (CR (L2.CX X.prog X.w) (askCx X CXg Ng qg sg g cdg s H Eg pn xe).stack X.prog X.w H1 s1 Q fun cls d H2 => W cls d τ H2) s1 := by
    apply PySem.W.kla_callFunE deep at1 rfl L.co L.gen rfl ⟨c', oc, vs, tk0, rfl, c1, c2, c3⟩
    rw [none_]
    refine wpAny_pure (wpAny_newFunctionEnv (fun y hy => (L.own y hy).2) (fun y hy => nomatch hy) (fun h2 ns sub => ?_) L.kind)
    refine ⟨I1.nolimit.fresh _ sub, PySem.W.kla_codeExpr ?_⟩
    have J2 := inner h2 ns fun b o e => sub.extBut b o (Nat.ne_of_lt (Heap.lt_size e)) (Heap.get?_push_of_some _ e)
    refine wpAny_mono ((read _ _ s1 _ _ (room.deeper _)).run [] _ σ _ Q J2 told) ?_ fun _ _ z => z
    rintro v s2 ⟨w2, H3, J3, rv, q⟩
    exact ⟨w2, H3, J3.os, J3.bare, J3.base, J3.hok, rv, q⟩
  refine wpAny_call (codeAny_mono runs fun r s2 out => ?_)
  match r, out with
  | .error e, out => exact passAt tk τ pinsZ _ s1 e s2 I1 out
  | .ok (.ret u), out => exact I1.after out
  | .ok .next, out => exact False.elim out
  | .ok .brk, out => exact False.elim out
  | .ok .cont, out => exact False.elim out
end
end Dv

/-! DwS: x(lambda: e) at the level of deep values: what the asker makes of e's meaning. -/
namespace Dv
open PySem PySem.Spec PyProof.Rows L2
/-- the asker's promise -/
def GivesD (X : Cx) (Ng : List Str) (x : Str) (sg : Scope) (g : Addr) (cdg : Value) (bg : List Stmt) (a : Str) (q : Str) (TT : Told) : Prop :=
  ∀ (f c' : Addr) (s : Shared) (H : Hp) (Q : VK) (tl : XK → Hp → VK → Prop),
    (∀ (W : WX) (pn : List (Addr × Obj)) (xe : Value → Shared → Prop) (p1 p2 : Pos), Takes (askCx X C8.CX0 Ng x sg g cdg s H C8.E0 pn xe) W →
      PE (askCx X C8.CX0 Ng x sg g cdg s H C8.E0 pn xe) (.Call (.Name a p1) [] [] p2) (fun τ H1 Q1 => τ[0]? = some (some (.ref f)) ∧ H1 c' = some (LamX.CodeO c' q) ∧ tl (fun cls d H2 => W cls d τ H2) H1 Q1)) →
    H c' = some (LamX.CodeO c' q) → TT tl H Q →
    ∃ t, PSs (cxOf C8.CX0 X.prog X.w X.K X.mg X.base Ng x sg g cdg X.A X.stack s H C8.E0).nox bg t ∧ t { nx := fun _ H' => Q .non H', rt := Q } (L2.start Ng [.ref f]) H
section
variable {X : Cx} {x a : Str} {g c P : Addr} {cdg : Value} {bg : List Stmt} {sg : Scope} {Ng : List Str} {k : Nat} {params : Arguments} {body : Expr} {scope : Scope} {t : XK → TE} {p lpos pos : Pos} {G : Told}
theorem pe_lamD (gl : Gl X x) (named : X.mg x = some (.ref g)) (nd : (x == ("__debug__" : Str)) = false) (O : OneArg X x a g cdg bg sg Ng) (gives : GivesD X Ng x sg g cdg bg a (lamQ X) G)
    (TB : LamX.TabB X.base X.mg c P) (own : X.env.code = .ref c) (hr : Room (k + 2) X.A) (L : LamX.LamS X.env.scope scope) (nod : defaultsOf params X.env = ([], []))
    (none_ : ∀ (q : Str) (cl : List (Str × Addr)) (pm cv ctv : Value), bindArgs (PySem.W.kla_fn "<lambda>" q params body scope cl pm cv ctv) ⟨[], []⟩ = pure [])
    (read : ∀ (A : Around) (outer : List Env) (s : Shared) (H : Hp) (E : XK) (f c' : Addr), Room k (A.deeper (LamX.lamEnv X scope s.heap.objs.size f c')) → PE (LamX.lamCx X A outer s H E scope f c') body (t E)) :
    PE X (.Call (.Name x p) [.Lambda params body scope lpos] [] pos) (tLamE P (lamQ X) lpos G t) := by
  obtain ⟨pg, dV, kV, doc, pm0, ct, oc, an, od, osl, lk, binds⟩ := O.ex
  refine ⟨fun pins s σ H Q I ⟨ps, tab, hit, new⟩ => ?_⟩
  have both : ∀ (f c' : Addr) (s' : Shared) (H1 : Hp), Inv X pins σ H1 s' → MadeAt X params body scope H1 s' f c' → G (fun E H' Q' => t E σ H' Q') H1 Q → wpAny (model X.prog X.w) X.A (call (.ref g) [.ref f]) (fun u s2 => ∃ v H2, Inv X pins σ H2 s2 ∧ L2.RelV v u ∧ Q v H2) X.xe s' := fun f c' s' H1 J M told => by
    obtain ⟨pm, ctv, atF⟩ := M.ex
    refine wpAny_call (codeAny_mono (LamX.run_ofS (CX := C8.CX0) (E := C8.E0) (Q := Q) (N := Ng) (ps := [a]) (us := [.ref f]) (vs := [.ref f]) lk O.code O.sc hr J.env0 (binds s' [.ref f] J.kIn rfl) (.cons rfl .nil) rfl fun room => ?_) fun r s2 hq => ?_)
    · obtain ⟨u, hu, run⟩ := gives f c' s' H1 Q _ (fun W pn xe p1 p2 tk => pe_ask (i := 0) J L atF M.none_ M.off (none_ _ _ _ _ _) tk room (fun A outer s H E r2 => read A outer s H E f c' r2) O.zero O.vis O.d1 O.d2) M.code told
      exact ⟨u, hu.nox, run⟩
    · match r, hq with
      | .error e, hq => exact (show False from hq).elim
      | .ok (.ret u), hq => exact J.after hq
      | .ok .next, hq => exact False.elim hq
      | .ok .brk, hq => exact False.elim hq
      | .ok .cont, hq => exact False.elim hq
  refine wpAny_Call_Name_kw (ld_glob I gl named ?_ nd)
  refine PySem.W.callWith_K (h₀ := X.base) I.ok.mod.kin O.kept ?_ (by rfl) (by rfl)
  show wpAny _ _ (spliced ((false, eval (.Lambda params body scope lpos) X.env) :: backTo pos (starEach [] X.env))) _ _ s
  refine Calls.spliced_cons (lam_exact I TB own tab nod (L.has I.ok) (fun f c' s' J M => ?_) fun f c' s' H1 n e J M => ?_)
  · exact Calls.spliced_nil ⟨J.kIn, both f c' s' H J M hit⟩
  · exact Calls.spliced_nil ⟨J.kIn, both f c' s' H1 J M (by rw [e]; exact new c' n)⟩
end
/-! ### asked, at the level of deep values -/
def dAsk (f : Addr) (ask : Mu → Res D) : DEx := fun (env : DEnv) μ => match (env[(0 : Nat)]? : Option SV) with
  | some (.v (.fn f')) => if f' = f then ask μ else none
  | _ => none
theorem de_ask {Y : Cx} {B : Bs} {W : WX} {e : Expr} {f c' : Addr} {q : Str} {tl : XK → Hp → VK → Prop} {ask : Mu → Res D} (h : PE Y e (fun τ H1 Q1 => τ[0]? = some (some (.ref f)) ∧ H1 c' = some (LamX.CodeO c' q) ∧ tl (fun cls d H2 => W cls d τ H2) H1 Q1))
    (code : B.H0 c' = some (LamX.CodeO c' q)) (off : c' ∉ B.ρ0)
    (told : ∀ (E : XK) (Q' : VK) (ρ' : List Addr) (G' H' : Hp) (μ' : Mu), Ext B.ρ0 B.G0 B.H0 ρ' G' H' → Same G' H' → StR (tx Y) ρ' G' H' μ' → KC (tx Y) ρ' G' H' Q' E (ask μ') → tl E H' Q') : DE Y B W e (dAsk f ask) := by
  refine ⟨peImp h fun σ H Q ⟨ρ, G, env, μ, R, k⟩ => ?_⟩
  unfold dAsk at k
  split at k
  · rename_i f' h0
    split at k
    · rename_i ef
      subst ef
      obtain ⟨v, e1, e2⟩ := R.slot 0 _ h0
      unfold Rep at e2
      subst e2
      exact ⟨e1, R.ext.old code off, told _ Q ρ G H μ R.ext R.gh R.st (kc_of (m := fun _ μ => ask μ) (ds := []) R k)⟩
    · exact k.elim
  · exact k.elim
/-- the promise of a def that asks: m, its body's meaning by what it asks -/
def asksD (T : Tx) (n : Nat) (m : DEx → DSt) : Told := fun tl H Q => ∃ (ρ : List Addr) (G : Hp) (μ : Mu) (ask : Mu → Res D), Same G H ∧ StR T ρ G H μ ∧
  (∀ (E : XK) (Q' : VK) (ρ' : List Addr) (G' H' : Hp) (μ' : Mu), Ext ρ G H ρ' G' H' → Same G' H' → StR T ρ' G' H' μ' → KC T ρ' G' H' Q' E (ask μ') → tl E H' Q') ∧ ∀ f : Addr, KC T ρ G H Q (fun _ _ _ => False) (cleanD (defD n (m (dAsk f ask))) [.fn f] μ)
theorem StR.no_code {T : Tx} {ρ : List Addr} {G H : Hp} {μ : Mu} (st : StR T ρ G H μ) {c : Addr} {q : Str} (h : H c = some (LamX.CodeO c q)) : c ∉ ρ := fun m => by
  obtain ⟨k, hk⟩ := List.mem_iff_getElem?.mp m
  have lt : k < μ.length := by rw [← st.len]; exact (List.getElem?_eq_some_iff.mp hk).1
  obtain ⟨a, ea, r⟩ := st.at_ k μ[k] (by simp [lt])
  rw [hk] at ea; cases ea
  match μ[k], r with
  | .src s, ⟨l, e1, _⟩ => rw [h] at e1; unfold LamX.CodeO at e1; cases e1
  | .tab p' q', ⟨_, ps, e1, _⟩ => rw [h] at e1; unfold LamX.CodeO at e1; cases e1
theorem gives_of {X : Cx} {Ng : List Str} {x a q : Str} {sg : Scope} {g : Addr} {cdg : Value} {bg : List Stmt} {m : DEx → DSt} (hN : Ng.length = n)
    (hbody : ∀ (s : Shared) (H : Hp) (B : Bs) (A : DEx), (∀ (W : WX) (pn : List (Addr × Obj)) (xe : Value → Shared → Prop) (p1 p2 : Pos), Takes (askCx X C8.CX0 Ng x sg g cdg s H C8.E0 pn xe) W → DE (askCx X C8.CX0 Ng x sg g cdg s H C8.E0 pn xe) B W (.Call (.Name a p1) [] [] p2) A) →
      DSs (cxOf C8.CX0 X.prog X.w X.K X.mg X.base Ng x sg g cdg X.A X.stack s H C8.E0).nox B W0 bg (m A)) : GivesD X Ng x sg g cdg bg a q (asksD (tx X) n m) := by
  intro f c' s H Q tl act code ⟨ρ, G, μ, ask, gh, st, hask, out⟩
  subst hN
  have d := hbody s H ⟨H, G, ρ, []⟩ (dAsk f ask) fun W pn xe p1 p2 tk => de_ask (act W pn xe p1 p2 tk) code (st.no_code code) hask
  refine ⟨_, d.run, ρ, G, envD Ng.length [.fn f], μ, start_rd gh st (.one (by unfold Rep; rfl)), ?_⟩
  have told := out f
  unfold cleanD defD at told
  cases e : m (dAsk f ask) (envD Ng.length [.fn f]) μ with
  | none => rw [e] at told; exact told.elim
  | some z =>
    obtain ⟨o, env', μ'⟩ := z
    rw [e] at told
    cases o with
    | exc y => exact fun σ' ρ' G' H' cls dd s p R er => told cls dd ρ' G' H' R.ext R.gh R.st er
    | val fl =>
      cases fl with
      | brk => exact told.elim
      | ct => exact told.elim
      | nx => exact fun σ' ρ' G' H' s p R => told .non ρ' G' H' R.ext R.gh R.st (show Rep _ _ _ _ _ from rep_non)
      | ret d =>
        have told : KC (tx X) ρ G H Q (fun _ _ _ => False) (if nobor d then some (.val d, μ') else none) := told
        split at told
        · rename_i clean
          exact fun σ' env2 ρ' G' H' v s p R hv => told v ρ' G' H' R.ext R.gh R.st (repO_of hv clean)
        · exact told.elim
/-! ### the call with a lambda -/
/-- the lambda's meaning, by its body's at its maker's names -/
def askOf (mb : DEx) (env : DEnv) : Mu → Res D := fun μ => match mb (env.map unown) μ with
  | some (.val d, μ') => if nobor d then some (.val d, μ') else none
  | r => r
/-- k: where the maker's table stands; why: what the asker makes of what it asks -/
def dWhy (k : Nat) (pl : Str × Option Str) (q : Str) (why : (Mu → Res D) → Mu → Res D) (mb : DEx) : DEx := fun env μ => match μ[k]? with
  | some (.tab p' q') => if p' = pl ∧ q' = q then (match why (askOf mb env) μ with
    | some (.val d, μ') => some (.val d, μ')
    | _ => none) else none
  | _ => none
section
variable {X : Cx} {B : Bs} {W : WX} {x a : Str} {g : Addr} {cdg : Value} {bg : List Stmt} {sg : Scope} {Ng : List Str} {k j n : Nat} {pl : Str × Option Str} {params : Arguments} {body : Expr} {scope : Scope} {p lpos pos : Pos} {m : DEx → DSt} {why : (Mu → Res D) → Mu → Res D} {mb : DEx}
theorem de_lamD {q : Str} (gl : Gl X x) (named : X.mg x = some (.ref g)) (nd : (x == ("__debug__" : Str)) = false) (O : OneArg X x a g cdg bg sg Ng) (gives : GivesD X Ng x sg g cdg bg a (lamQ X) (asksD (tx X) n m)) (hw : ∀ f ask μ d μ', why ask μ = some (.val d, μ') → cleanD (defD n (m (dAsk f ask))) [.fn f] μ = some (.val d, μ'))
    (TB : LamX.TabB X.base X.mg (He.cT X.K pl).1 (He.cT X.K pl).2) (own : X.env.code = .ref (He.codeOf X.K pl)) (hr : Room (j + 2) X.A) (L : LamX.LamS X.env.scope scope) (nod : defaultsOf params X.env = ([], []))
    (none_ : ∀ (q : Str) (cl : List (Str × Addr)) (pm cv ctv : Value), bindArgs (PySem.W.kla_fn "<lambda>" q params body scope cl pm cv ctv) ⟨[], []⟩ = pure [])
    (read : ∀ (A : Around) (outer : List Env) (s : Shared) (H : Hp) (E : XK) (f c' : Addr) (B' : Bs), Room j (A.deeper (LamX.lamEnv X scope s.heap.objs.size f c')) → DE (LamX.lamCx X A outer s H E scope f c') B' (fun cls d _ H => E cls d H) body mb) (hq : lamQ X = q := by rfl) :
    DE X B W (.Call (.Name x p) [.Lambda params body scope lpos] [] pos) (dWhy k pl q why mb) := by
  subst hq
  refine ⟨peImp (pe_lamD (t := fun E σ H Q => ∃ B', rdE (tx X) B' (fun cls d _ H => E cls d H) mb σ H Q) gl named nd O gives TB own hr L nod none_ fun A outer s H E f c' room => ⟨fun pins s1 σ1 H1 Q1 I1 ⟨B', q⟩ => (read A outer s H E f c' B' room).run.run pins s1 σ1 H1 Q1 I1 q⟩) fun σ H Q ⟨ρ, G, env, μ, R, kk⟩ => ?_⟩
  unfold dWhy at kk
  split at kk
  · rename_i p' q' hm
    split at kk
    · rename_i eq_
      obtain ⟨ep, eq_⟩ := eq_
      subst ep eq_
      have hP : ρ[k]? = some (He.cT X.K p').2 := by
        obtain ⟨a, ea, r⟩ := R.st.at_ k _ hm
        rw [ea, r.1]
      obtain ⟨ps, tab, old⟩ := R.tabAt hP hm
      have tell : ∀ (G1 H1 : Hp), Same G G1 → RD (tx X) B ρ G1 H1 σ env μ → asksD (tx X) n m (fun E H' Q' => ∃ B', rdE (tx X) B' (fun cls d _ H => E cls d H) mb σ H' Q') H1 Q := fun G1 H1 s1 R1 => by
        refine ⟨ρ, G1, μ, askOf mb env, R1.gh, R1.st, fun E Q' ρ' G' H' μ' ex gh st told => ?_, fun f => ?_⟩
        · have R2 := (R1.after ex gh st).unown
          refine ⟨_, ρ', G', env.map unown, μ', R2, ?_⟩
          unfold askOf at told
          cases e : mb (env.map unown) μ' with
          | none => rw [e] at told; exact told.elim
          | some z =>
            obtain ⟨o, μ2⟩ := z
            rw [e] at told
            cases o with
            | exc y => exact fun ρ2 G2 H2 cls dd s p R3 er => told cls dd ρ2 G2 H2 R3.ext R3.gh R3.st er
            | val d =>
              have told : KC (tx X) ρ' G' H' Q' E (if nobor d then some (.val d, μ2) else none) := told
              split at told
              · rename_i clean
                exact fun ρ2 G2 H2 s p R3 v hv => told v ρ2 G2 H2 R3.ext R3.gh R3.st (repO_of hv clean)
              · exact told.elim
        · split at kk
          · rename_i d μ' e
            rw [hw f _ _ _ _ e]
            exact fun v ρ' G' H' ex gh st ro => kk ρ' G' H' (s1.trans ex.gg) ex.pre (R1.after ex gh st) v (repX_after R1 ro)
          · exact kk.elim
      refine ⟨ps, tab, tell G H (fun _ _ h => h) R, fun a na => ?_⟩
      exact tell _ _ (same_upd (R.fresh_ na).1) (R.lam hP hm tab old na)
    · exact kk.elim
  · exact kk.elim
end
end Dv

/-! DwT: ranges as values, membership in them, a text times a number, the module's constants. -/
namespace Dv
open PySem PySem.Spec PyProof.Rows L2
/-! ### in a range, by search -/
theorem plain_rloop : plainId "range.__contains__.loop" = true := by decide +kernel
theorem entry_rloop : entryFor table "range.__contains__.loop" = some Builtin.«range.__contains__.loop» := entryFor_of_fast (by kernel_rfl)
def cnt1 (lo hi : Int) : Nat := (hi - lo).toNat
theorem size1 (lo hi : Int) : Builtin.Range.rangeSize lo hi 1 = cnt1 lo hi := by
  unfold Builtin.Range.rangeSize cnt1
  by_cases h : lo < hi
  · simp [h]; omega
  · simp [h]; omega
abbrev rngObj (lo hi : Int) (t u v : Tok) : Obj := { cls := .type "range", dict := none, data := .fields #[.int lo t, .int hi u, .int 1 v], slots := #[] }
/-- nothing in the range is x -/
abbrev rngMiss (x : Value) : Prop := ∀ A s n t, SeqAt.EqAt A s (.int n t) x false
theorem rloop (a : Addr) (lo hi : Int) (t1 t2 t3 : Tok) (x : Value) (k : Nat) : ∀ i : Nat, cnt1 lo hi - i = k → Meets (Builtin.«range.__contains__.loop» ⟨[.ref a, x, rawInt i], []⟩)
    (fun A R s => s.heap.get? a = some (rngObj lo hi t1 t2 t3) ∧ rngMiss x ∧ ∀ tk, R (.ok (.ret (.bool false))) { s with toks := tk }) := by
  induction k with
  | zero =>
    intro i hk prog w A R s h
    obtain ⟨hp, g, d, tk, os⟩ := s; obtain ⟨hl, he, h⟩ := h
    wp_walk
    refine wpAny_ite_true (decide_eq_true (by rw [size1]; omega)) ?_
    wp_walk
    exact h _
  | succ k ih =>
    intro i hk prog w A R s h
    obtain ⟨hp, g, d, tk, os⟩ := s; obtain ⟨hl, he, h⟩ := h
    wp_walk
    refine wpAny_ite_false (decide_eq_false (by rw [size1]; omega)) ?_
    have next : ∀ n t tk2, wpAny (model prog w) A.in1 (do
        let b ← eqBool (.int n t) x
        if b = true then PySem.ret (Value.bool true) else again (Code.builtin "range.__contains__.loop" { pos := [Value.ref a, x, rawInt (↑i + 1)] }))
        (fun fin s' => match fin with
          | Fin.done f => R (Except.ok f) s'
          | Fin.again c' => c'.quiet = true ∧ codeAny (model prog w) A c' R s') (fun e s' => R (Except.error e) s') { heap := hp, gens := g, drawn := d, toks := tk2, os := os } := fun n t tk2 => by
      refine wpAny_bind (he _ _ n t prog w _ _ ?_)
      refine wpAny_ite_false (by simp) ?_
      have hc : ((i : Int) + 1) = ((i + 1 : Nat) : Int) := by push_cast; rfl
      rw [hc]
      exact wpAny_pure ⟨plainId_quiet plain_rloop _, codeAny_builtin entry_rloop (by
        rw [Around.under_plainId plain_rloop _]
        exact ih (i + 1) (by omega) prog w A R _ ⟨hl, he, h⟩)⟩
    exact wpAny_bind (wpAny_mkInt (next _ _ _))
theorem rcont (a : Addr) (lo hi : Int) (t1 t2 t3 : Tok) (x : Value) (hx : Builtin.Range.rangeExactInt? x = none) : Meets (Builtin.«range.__contains__» ⟨[.ref a, x], []⟩)
    (fun A R s => s.heap.get? a = some (rngObj lo hi t1 t2 t3) ∧ rngMiss x ∧ ∀ tk, R (.ok (.ret (.bool false))) { s with toks := tk }) := by
  intro prog w A R s h
  obtain ⟨hp, g, d, tk, os⟩ := s; obtain ⟨hl, he, h⟩ := h
  wp_walk
  rw [hx]
  wp_walk
  exact ⟨plainId_quiet plain_rloop _, codeAny_builtin entry_rloop (by
        rw [Around.under_plainId plain_rloop _]
        exact rloop a lo hi t1 t2 t3 x _ 0 rfl prog w A R _ ⟨hl, he, h⟩)⟩
def missV : V → Bool
  | .non => true
  | .str _ => true
  | _ => false
def rInR (neg : Bool) : R2 := fun x y H Q => ∃ a lo hi, y = .ref a ∧ H a = some (.rng lo hi) ∧ ((∃ i, x = .int i ∧ Q (.bl (neg != decide (lo ≤ i ∧ i < hi))) H) ∨ (missV x = true ∧ Q (.bl neg) H))
section
variable {X : Cx} {B : Bs} {W : WX}
theorem contains_rng {pins : List (Addr × Obj)} {s : Shared} {σ : L2.St} {H : Hp} {x y : V} {v u : Value} {M : Bool → Shared → Prop} {E : Value → Shared → Prop} (I : Inv X pins σ H s) (rx : RelV x v) (ry : RelV y u)
    (h : ∃ a lo hi, y = .ref a ∧ H a = some (.rng lo hi) ∧ ((∃ i, x = .int i ∧ ∀ s', Inv X pins σ H s' → M (decide (lo ≤ i ∧ i < hi)) s') ∨ (missV x = true ∧ ∀ s', Inv X pins σ H s' → M false s'))) : wpAny (model X.prog X.w) X.A (contains u v) M E s := by
  obtain ⟨a, lo, hi, rfl, ha, h⟩ := h
  have eu : u = Value.ref a := ry
  subst eu
  obtain ⟨t1, t2, t3, ho⟩ := I.hok a _ ha
  rcases h with ⟨i, rfl, q⟩ | ⟨mv, q⟩
  · obtain ⟨k, rfl⟩ := rx
    have e := place1 lo hi i
    refine wpAny_contains_slot (T := "range") ⟨_, ho, rfl⟩ F.slot_range_contains (call_meets F.slot_range_contains ⟨_, ho, rfl⟩ F.entry_range_contains (F.args_range_contains_2 _ _) (q_contains a lo hi i t1 t2 t3 k) ⟨ho, wpAny_truthy_bool ?_⟩)
    rw [e]
    exact q _ I
  · have go : Builtin.Range.rangeExactInt? v = none → rngMiss v → wpAny (model X.prog X.w) X.A (contains (.ref a) v) M E s := fun hx hm =>
      wpAny_contains_slot (T := "range") ⟨_, ho, rfl⟩ F.slot_range_contains (call_meets F.slot_range_contains ⟨_, ho, rfl⟩ F.entry_range_contains (F.args_range_contains_2 _ _) (rcont a lo hi t1 t2 t3 v hx) ⟨ho, hm, fun tk => wpAny_truthy_bool (q _ (I.tok _))⟩)
    cases x with
    | non =>
      have ev : v = .none := rx
      subst ev
      exact go rfl fun A s n t => eqAt_V (y := .int n) (x := .non) ⟨t, rfl⟩ rfl rfl rfl
    | str z =>
      obtain ⟨k, rfl⟩ := rx
      exact go rfl fun A s n t => eqAt_V (y := .int n) (x := .str z) ⟨t, rfl⟩ ⟨k, rfl⟩ rfl rfl
    | _ => cases mv
theorem op_inR : OpR X (compareOp .In) (rInR false) := by
  intro pins s σ H x y v u Q I rx ry ⟨a, lo, hi, ey, ha, h⟩
  show wpAny _ _ (do return Value.bool (← contains u v)) _ _ s
  refine wpAny_bind (contains_rng I rx ry ⟨a, lo, hi, ey, ha, ?_⟩)
  rcases h with ⟨i, ex, q⟩ | ⟨m, q⟩
  · exact .inl ⟨i, ex, fun s' I' => wpAny_pure ⟨.bl _, H, I', rfl, by simpa using q⟩⟩
  · exact .inr ⟨m, fun s' I' => wpAny_pure ⟨.bl _, H, I', rfl, q⟩⟩
theorem op_notInR : OpR X (compareOp .NotIn) (rInR true) := by
  intro pins s σ H x y v u Q I rx ry ⟨a, lo, hi, ey, ha, h⟩
  show wpAny _ _ (do return Value.bool !(← contains u v)) _ _ s
  refine wpAny_bind (contains_rng I rx ry ⟨a, lo, hi, ey, ha, ?_⟩)
  rcases h with ⟨i, ex, q⟩ | ⟨m, q⟩
  · exact .inl ⟨i, ex, fun s' I' => wpAny_pure ⟨.bl _, H, I', rfl, by simpa using q⟩⟩
  · exact .inr ⟨m, fun s' I' => wpAny_pure ⟨.bl _, H, I', rfl, q⟩⟩
def fInR (neg : Bool) : F2
  | .int i, .rng lo hi, μ => ret (.bl (neg != decide (lo ≤ i ∧ i < hi))) μ
  | .non, .rng _ _, μ => ret (.bl neg) μ
  | .str _, .rng _ _, μ => ret (.bl neg) μ
  | _, _, _ => none
theorem rng_inv {T : Tx} {ρ : List Addr} {G : Hp} {σ : L2.St} {env : DEnv} {x : V} {lo hi : Int} (h : HeldR T ρ G σ env x (.rng lo hi)) : ∃ a, x = .ref a ∧ G a = some (.rng lo hi) := by
  have h : Rep T ρ G x (.rng lo hi) := h
  unfold Rep at h; exact h
theorem opd_inR (neg : Bool) : OpD (tx X) (rInR neg) (fInR neg) := by
  intro B W σ env ρ G H μ x y d d' Q R hx hy k
  unfold fInR at k
  split at k
  · obtain ⟨a, rfl, g⟩ := rng_inv hy
    exact ⟨a, _, _, rfl, R.gh _ _ g, .inl ⟨_, int_inv hx, k.here R (.ofR rep_bl)⟩⟩
  · obtain ⟨a, rfl, g⟩ := rng_inv hy
    have hx : Rep (tx X) ρ G x .non := hx
    unfold Rep at hx; subst hx
    exact ⟨a, _, _, rfl, R.gh _ _ g, .inr ⟨rfl, k.here R (.ofR rep_bl)⟩⟩
  · obtain ⟨a, rfl, g⟩ := rng_inv hy
    rw [str_inv hx]
    exact ⟨a, _, _, rfl, R.gh _ _ g, .inr ⟨rfl, k.here R (.ofR rep_bl)⟩⟩
  · exact k.elim
/-- range(a, b) as a value -/
def fRng2 : FA
  | [.int i, .int j], μ => ret (.rng i j) μ
  | _, _ => none
theorem ca_rng2 : CallD (tx X) (fun vs H Q => ∃ i j, vs = [V.int i, V.int j] ∧ ∀ p, H p = none → Q (.ref p) (upd H p (.rng i j))) fRng2 := by
  intro B W σ env ρ G H μ vs ds Q R h k
  unfold fRng2 at k
  split at k
  · obtain ⟨x, y, rfl, hx, hy⟩ := hreps2 h
    rw [int_inv hx, int_inv hy]
    refine ⟨_, _, rfl, fun p n => ?_⟩
    have gn := (R.fresh_ n).1
    exact k ρ _ _ (same_upd gn) (.refl _) (R.alloc n) _ (.ofR (by unfold Rep; exact ⟨p, rfl, upd_same⟩))
  · exact k.elim
theorem boot_range' : bootBuiltins "range" = some (.type "range") := by kernel_rfl
theorem rangeV_ {p pos : Pos} {e : Expr} {es : List Expr} {n : DEnv → Mu → Res (List D)} (hm : X.mg "range" = none) (ha : DA X B W (e :: es) n) (hg : Gl X "range" := by rfl) (he : starEach (e :: es) X.env = (false, eval e X.env) :: starEach es X.env := by rfl) (hpl : (backTo pos (starEach es X.env)).any (·.1) = false := by rfl) : DE X B W (.Call (.Name "range" p) (e :: es) [] pos) (dCall fRng2 n) := de_callTy cr_range2 ca_rng2 hg hm boot_range' ha (by decide) (by decide) he hpl
/-! ### a text times a number -/
theorem fold_size (a : Array Nat) : ∀ (n : Nat) (b : Array Nat), ((List.replicate n a).foldl (fun x y => x ++ y) b).size = b.size + n * a.size
  | 0, b => by simp
  | n + 1, b => by
    rw [List.replicate_succ, List.foldl_cons, fold_size a n, Array.size_append, Nat.succ_mul]; omega
def repS (x : Str) (n : Int) : Str := if n < 1 then Str.empty else if n = 1 ∨ x.length = 0 then x else ⟨(List.replicate n.toNat x.cps).foldl (· ++ ·) #[]⟩
abbrev rMulS : R2 := fun x y H Q => ∃ i j, x = .str i ∧ y = .int j ∧ i.length ≤ 1000 ∧ -1000 ≤ j ∧ j ≤ 1000 ∧ Q (.str (repS i j)) H
theorem op_mulS : OpR X (binaryOp .Mult) rMulS := by
  intro pins s σ H x y v u Q I rx ry h
  obtain ⟨i, j, rfl, rfl, hl, h0, h1, q⟩ := h
  obtain ⟨t, rfl⟩ := rx
  obtain ⟨k, rfl⟩ := ry
  have b1 : ¬ j < -(2 ^ 63 : Int) := by omega
  have b2 : ¬ j ≥ 2 ^ 63 := by omega
  refine P.mul_str (by rw [decide_eq_false b1, decide_eq_false b2]; rfl) (fun h2 _ => ?_) (fun h2 _ => ?_) ?_
  · have h3 : (1000 : Int) ≤ (2 ^ 63 - 1) / j := (Int.le_ediv_iff_mul_le (by omega)).mpr (by omega)
    omega
  · unfold Builtin.Str.tooLong
    have : i.length * j.toNat ≤ 1000 * 1000 := Nat.mul_le_mul hl (by omega)
    have hs : sizeLine = 16777216 := sizeLine_eq
    simp
    omega
  · unfold repS at q
    split
    · rename_i h2
      rw [if_pos h2] at q
      exact ⟨by decide, .str Str.empty, H, I.tok _, ⟨_, rfl⟩, q⟩
    · rename_i h2
      rw [if_neg h2] at q
      split
      · rename_i h3
        have h3 : j = 1 ∨ i.length = 0 := by simpa using h3
        rw [if_pos h3] at q
        exact ⟨.str i, H, I, ⟨t, rfl⟩, q⟩
      · rename_i h3
        have h3 : ¬ (j = 1 ∨ i.length = 0) := by simpa using h3
        rw [if_neg h3] at q
        exact ⟨by rw [sizeLine_eq]; show (_ : Array Nat).size ≤ _; rw [fold_size]; have : j.toNat * i.cps.size ≤ 1000 * 1000 := Nat.mul_le_mul (by omega) hl; simp; omega, .str _, H, I.tok _, ⟨_, rfl⟩, q⟩
def fMulS : F2
  | .str z, .int n, μ => if z.length ≤ 1000 ∧ -1000 ≤ n ∧ n ≤ 1000 then ret (.str (repS z n)) μ else none
  | _, _, _ => none
theorem opd_mulS : OpD (tx X) rMulS fMulS := by
  intro B W σ env ρ G H μ x y d d' Q R hx hy k
  unfold fMulS at k
  split at k
  · split at k
    · rename_i h
      rw [str_inv hx, int_inv hy]
      exact ⟨_, _, rfl, rfl, h.1, h.2.1, h.2.2, k.here R (.ofR rep_str)⟩
    · exact k.elim
  · exact k.elim
end
/-! ### the module's constants -/
section
variable {X : Cx} {B : Bs} {W : WX} {x : Str} {p : Pos}
/-- a number of the module -/
theorem g_int {i : Int} (h : ∃ t, X.mg x = some (.int i t)) (hg : Gl X x := by rfl) (hd : (x == ("__debug__" : Str)) = false := by decide) : DE X B W (.Name x p) (dC (.int i)) := by
  obtain ⟨t, hm⟩ := h
  exact de_c (pe_glob (v := .int i) hg hm ⟨t, rfl⟩ hd) fun _ _ => rep_int
/-- a tuple of numbers of the module -/
structure GTup (K : PySem.W.Frag) (mg : Str → Option Value) (x : Str) (l : List Int) : Prop where
  ex : ∃ a, mg x = some (.ref a) ∧ ∀ G, SqG K G a (l.map V.int)
theorem g_tup {l : List Int} (h : GTup X.K X.mg x l) (hz : szl l.length := by decide) (hg : Gl X x := by rfl) (hd : (x == ("__debug__" : Str)) = false := by decide) : DE X B W (.Name x p) (dC (.tup (l.map D.int))) := by
  obtain ⟨a, hm, hq⟩ := h.ex
  exact de_c (pe_glob (v := .ref a) hg hm rfl hd) fun ρ G => rep_tup (hq G) (by rw [List.length_map]; exact hz) (reps_ints l)
end
/-! ### a flat value in a tuple or list of flat ones -/
def vOf : D → Option V
  | .non => some .non
  | .bl b => some (.bl b)
  | .int i => some (.int i)
  | .str z => some (.str z)
  | _ => none
def vsOf : List D → Option (List V)
  | [] => some []
  | d :: ds => (match vOf d, vsOf ds with
    | some v, some l => some (v :: l)
    | _, _ => none)
theorem vOf_inv {T : Tx} {ρ : List Addr} {G : Hp} {v x : V} {d : D} (e : vOf d = some x) (r : Rep T ρ G v d) : v = x ∧ flatV x = true := by
  cases d <;> first | (cases e; unfold Rep at r; exact ⟨r, rfl⟩) | cases e
theorem vsOf_inv {T : Tx} {ρ : List Addr} {G : Hp} : ∀ {l : List D} {xs vs : List V}, vsOf l = some xs → Reps T ρ G vs l → vs = xs ∧ xs.all flatV = true
  | [], xs, vs, e, r => by unfold vsOf at e; cases e; exact ⟨r.inv0, rfl⟩
  | d :: ds, xs, vs, e, r => by
    unfold vsOf at e
    split at e
    · rename_i v l h1 h2
      cases e
      obtain ⟨u, t, rfl, q, rs⟩ := r.inv
      obtain ⟨rfl, f1⟩ := vOf_inv h1 q
      obtain ⟨rfl, f2⟩ := vsOf_inv h2 rs
      exact ⟨rfl, by rw [List.all_cons, f1, f2]; rfl⟩
    · cases e
def seqF : D → Option (List D)
  | .tup l => some l
  | .lst l => some l
  | .bor l => some l
  | _ => none
def fInF (neg : Bool) : F2 := fun a b μ => match vOf a, (seqF b).bind vsOf with
  | some x, some xs => ret (.bl (neg != inV x xs)) μ
  | _, _ => none
theorem opd_inF {X : Cx} (neg : Bool) : OpD (tx X) (rIn X.K neg) (fInF neg) := by
  intro B W σ env ρ G H μ x y d d' Q R hx hy k
  unfold fInF at k
  split at k
  · rename_i v xs h1 h2
    have ex : x = v ∧ flatV v = true := by
      cases d with
      | bor l => cases h1
      | _ => exact vOf_inv (T := tx X) (ρ := ρ) (G := G) h1 hx
    obtain ⟨rfl, f1⟩ := ex
    have fin : ∀ {a : Addr} {vs : List V} {l : List D}, vsOf l = some xs → Reps (tx X) ρ G vs l → (SqL X.K H a vs ∨ SqT X.K H a vs) → rIn X.K neg x (.ref a) H Q := fun {a vs l} e r q => by
      obtain ⟨rfl, f2⟩ := vsOf_inv e r
      refine ⟨a, _, rfl, q, f1, f2, ?_⟩
      cases neg with
      | true => simp only [Bool.true_bne] at k; exact k.here R (.ofR rep_bl)
      | false => simp only [Bool.false_bne] at k; exact k.here R (.ofR rep_bl)
    cases d' with
    | tup l => obtain ⟨a, vs, rfl, q, z, r⟩ := tup_inv hy; exact fin h2 r (.inr (sqG_mono R.gh q).sq)
    | lst l => obtain ⟨a, vs, rfl, q, z, r⟩ := seqL_inv (d := .lst l) R hy rfl; exact fin h2 r (.inl (.of q))
    | bor l => obtain ⟨a, vs, rfl, q, z, r⟩ := seqL_inv (d := .bor l) R hy rfl; exact fin h2 r (.inl (.of q))
    | _ => cases h2
  · exact k.elim
end Dv

/-! DwU: the head with closures, free checks and tables; makers of lambdas; the law's end. -/
namespace Dv
open PySem PySem.Spec PyProof.Rows L2
theorem gTup_of {K : PySem.W.Frag} {mg : Str → Option Value} {x : Str} {l : List Int} (hm : mg x = some (.ref (He.ga K x))) (h : He.tupB K x (l.map He.Dv.int) = true) : GTup K mg x l := by
  refine ⟨_, hm, fun G => ?_⟩
  have q := He.tupB_ok h (fun _ => none)
  have e : (l.map He.Dv.int).map (He.Dv.v K) = l.map V.int := by rw [List.map_map]; rfl
  rw [e] at q
  rcases q with (q | ⟨o, q⟩) | q
  · cases q
  · cases q
  · exact .inr q
/-! ### the Hook -/
abbrev AlY : Type := AlB × Bool
structure SaysY (file : Str) (fa : List He.Fa) (fn : List He.DefD) (fc : List ClD) (bs : List (PySem.W.Frag → Bool)) (tf : List He.Defn) (h : Heap) (K : PySem.W.Frag) : Prop where
  b : SaysB file fa fn fc bs K
  hd : ∀ p ∈ tf, PySem.W.codeHdIn K (He.cT K p).1 (He.cT K p).2 = true
  out : ∀ p ∈ tf, K.lookup (He.cT K p).2 = none
  empty : ∀ p ∈ tf, h.get? (He.cT K p).2 = some { cls := .none, data := .fields #[] }
def frY (n : Nat) (g : Addr → Option Obj) : PySem.W.Frag := He.frT g (He.asD g n ++ [cStatics])
def obsY (file : Str) (n : Nat) (fa : List He.Fa) (fn : List He.DefD) (fc : List ClD) (bs : List (PySem.W.Frag → Bool)) (tf : List He.Defn) (g : Addr → Option Obj) : AlY := (obsB file fa fn fc bs (frY n g), He.tabsB g tf (frY n g))
def valY (fn : List He.DefD) (fc : List ClD) : AlY := (valB fn fc, true)
section
variable {file : Str} {n : Nat} {fa : List He.Fa} {fn : List He.DefD} {fc : List ClD} {bs : List (PySem.W.Frag → Bool)} {tf : List He.Defn}
theorem saysY_of {h : Heap} (e : obsY file n fa fn fc bs tf h.get? = valY fn fc) : SaysY file fa fn fc bs tf h (frY n h.get?) := by
  have e1 : obsB file fa fn fc bs (frY n h.get?) = valB fn fc := congrArg Prod.fst e
  have e2 : He.tabsB h.get? tf (frY n h.get?) = true := congrArg Prod.snd e
  have each : ∀ p ∈ tf, PySem.W.codeHdIn (frY n h.get?) (He.cT (frY n h.get?) p).1 (He.cT (frY n h.get?) p).2 = true ∧ ∃ o, h.get? (He.cT (frY n h.get?) p).2 = some o ∧ He.emptyTab o = true := fun p hp => by
    have q := List.all_eq_true.mp e2 p hp
    rw [Bool.and_eq_true] at q
    refine ⟨q.1, ?_⟩
    have q2 := q.2
    split at q2
    · rename_i o ho; exact ⟨o, ho, q2⟩
    · cases q2
  exact ⟨⟨e1⟩, fun p hp => (each p hp).1, fun p hp => (let ⟨_, o, q, z⟩ := each p hp; He.frT_none q z), fun p hp => (let ⟨_, o, q, z⟩ := each p hp; by rw [q, He.emptyTab_eq z])⟩
def hookY (file : Str) (n : Nat) (fa : List He.Fa) (fn : List He.DefD) (fc : List ClD) (bs : List (PySem.W.Frag → Bool)) (tf : List He.Defn) : PySem.W.Hook where
  α := AlY
  obs := fun t => obsY file n fa fn fc bs tf t.heap.get?
  val := fun _ => valY fn fc
  says := fun _ h => ∃ K : PySem.W.Frag, K.In h ∧ SaysY file fa fn fc bs tf h K
  of := fun _ _ q => ⟨_, He.frT_in, saysY_of q⟩
  keeps := fun _ _ _ ⟨K, hK, c⟩ k => ⟨K, hK.keeps k, ⟨c.b, c.hd, c.out, fun p hp => k _ _ (c.empty p hp)⟩⟩
theorem obsY_eq {g : Addr → Option Obj} {t : Shared} (h : ∀ a, g a = t.heap.get? a) : obsY file n fa fn fc bs tf g = (hookY file n fa fn fc bs tf).obs t := by
  cases (funext h : g = t.heap.get?); rfl
end
/-! ### makers of lambdas -/
section
variable {P : Program} {w : World} {K : PySem.W.Frag} {mg : Str → Option Value} {base : Heap} {x qual : Str} {params : Arguments} {body : List Stmt} {scope : Scope} {fd : FuncData} {pl : Str × Option Str}
theorem def_okC {N ps : List Str} {k : Nat} {m : DSt} (F : FunD K x qual params body scope [] [] (He.fAd K pl) fd) (S : FnScope N ps scope)
    (hbody : ∀ (A : Around) (outer : List Env) (s : Shared) (H : Hp) (E : XK) (B : Bs), Room k (A.deeper (envOfC qual scope s.heap.objs.size (He.fAd K pl) (.ref (He.codeOf K pl)))) → DSs (cxOf (L2.CX P w) P w K mg base N qual scope (He.fAd K pl) (.ref (He.codeOf K pl)) A outer s H E) B (fun cls d _ H => E cls d H) body m) :
    FnOk P w K mg base (L2.CX P w) (k + 1) (He.fAd K pl) fd ps (spD ⟨K, mg⟩ ps.length (cleanD (defD N.length m))) := by
  obtain ⟨oc, od, dV, kV, doc, pm, an, cdv, ct, osl, rfl, lk, hcd, _, _⟩ := F.ex
  obtain ⟨c, rfl⟩ := He.codeIn_ref hcd
  have ec : He.codeOf K pl = c := He.codeOf_eq lk rfl
  subst ec
  refine fn_of lk hcd S (fun vs H Q E h => h.1) fun A outer s H vs Q E hr h => ?_
  obtain ⟨hl, ρ, G, ds, μ, gh, st, rs, told⟩ := h
  refine ⟨_, (hbody A outer s H E ⟨H, G, ρ, []⟩ hr).run, ρ, G, envD N.length ds, μ, start_rd gh st rs, ?_⟩
  unfold cleanD defD at told
  cases e : m (envD N.length ds) μ with
  | none => rw [e] at told; exact told.elim
  | some z =>
    obtain ⟨o, env', μ'⟩ := z
    rw [e] at told
    match o, told with
    | .exc y, told => exact fun σ' ρ' G' H' cls dd s p R er => told cls dd ρ' G' H' R.ext R.gh R.st er
    | .val .nx, told => exact fun σ' ρ' G' H' s p R => told .non ρ' G' H' R.ext R.gh R.st (show Rep _ _ _ _ _ from rep_non)
    | .val .brk, told => exact told.elim
    | .val .ct, told => exact told.elim
    | .val (.ret d), told =>
      have told : KC ⟨K, mg⟩ ρ G H Q E (if nobor d then some (.val d, μ') else none) := told
      split at told
      · rename_i clean
        exact fun σ' env2 ρ' G' H' v s p R hv => told v ρ' G' H' R.ext R.gh R.st (repO_of hv clean)
      · exact told.elim
end
/-! ### the lambda's body's context -/
theorem takes_lam {X : Cx} {A : Around} {outer : List Env} {s : Shared} {H : Hp} {E : XK} {scope : Scope} {f c' : Addr} : Takes (LamX.lamCx X A outer s H E scope f c') (fun cls d _ H => E cls d H) := takes_of rfl rfl rfl rfl
/-- the asker by its name -/
theorem oneArg_of {K : PySem.W.Frag} {x a : Str} {pg : Arguments} {bg : List Stmt} {sg : Scope} {Ng : List Str} {fd : FuncData} {g : Addr} (F : FunD K x x pg bg sg [] [] g fd) (hb : Binds K fd [a] []) (sc : FnScope Ng [a] sg) (zero : Ng[0]? = some a) (vis : Vis sg a) (d1 : (a == ("__debug__" : Str)) = false) (d2 : (a == ("__classdict__" : Str)) = false) :
    ∃ cdg, ∀ X : Cx, X.K = K → OneArg X x a g cdg bg sg Ng := by
  obtain ⟨oc, od, dV, kV, doc, pm, an, cdv, ct, osl, rfl, lk, hcd, _, _⟩ := F.ex
  refine ⟨cdv, fun X e => ?_⟩
  subst e
  exact ⟨⟨pg, dV, kV, doc, pm, ct, oc, an, od, osl, lk, hb⟩, hcd, F.kp, sc, zero, vis, d1, d2⟩
end Dv

/-! DwV: drawing, wherever the drawer stands in the store. (Printed from DvQ's text.) -/
namespace Dv
open PySem PySem.Spec PyProof.Rows L2
theorem draw_okJ (j : Nat) (μ : Mu) (hj : j < μ.length) (s : Src) (n : Int) (hs : OkS s) (h0 : 0 < n) (h1 : n < 1073741824) : ∃ r s', mDraw [.obj j, .int n] (μ.set j (.src s)) = some (.val (.int r), (μ.set j (.src s'))) ∧ 0 ≤ r ∧ r < n ∧ OkS s' := by
  have gj : ∀ x, (μ.set j x)[j]? = some x := fun x => List.getElem?_set_self hj
  have sj : ∀ x y, (μ.set j x).set j y = μ.set j y := fun x y => List.set_set ..
  have hz : szl s.cells.length := Nat.le_trans hs.sz (by decide)
  suffices h : ∃ r s' env, bDraw [.v (.obj j), .v (.int n), .no, .no, .no] (μ.set j (.src s)) = some (.val (.ret (.int r)), env, (μ.set j (.src s'))) ∧ 0 ≤ r ∧ r < n ∧ OkS s' by
    obtain ⟨r, s', env, e, a, b, c⟩ := h
    exact ⟨r, s', def_ret e rfl, a, b, c⟩
  unfold bDraw
  have hT : (dAndT (dTest (dBin fEq (dBin fIxS (dVar 0) (dC (.int 2))) (dC (.int 0)))) (dTest (dBin (fCmp fun i j => decide (i < j)) (dBin fIxS (dVar 0) (dC (.int 1))) (dCall fLen (dCons (dBin fIxS (dVar 0) (dC (.int 0))) dNil))))) [.v (.obj j), .v (.int n), .no, .no, .no] (μ.set j (.src s)) = some (.val (decide (s.big = 0) && decide (s.at_ < s.cells.length)), (μ.set j (.src s))) := by
    by_cases hb : s.big = 0
    all_goals simp only [dAndT, dTest, fTest, dBin, dC, dVar, bindR, Dv.ret, hold, fIxS, dCall, dCons, dNil, fLen, fCmp, feq_int, gj, sj, List.getElem?_cons_zero, sg1, sg2, sg0 s hz, hb, decide_true, decide_false, Bool.true_and, Bool.false_and, if_true, List.length_map, Bool.false_eq_true, if_false]
  have h2 : ∃ x s1, OkS s1 ∧ (dIfS (dAndT (dTest (dBin fEq (dBin fIxS (dVar 0) (dC (.int 2))) (dC (.int 0)))) (dTest (dBin (fCmp fun i j => decide (i < j)) (dBin fIxS (dVar 0) (dC (.int 1))) (dCall fLen (dCons (dBin fIxS (dVar 0) (dC (.int 0))) dNil))))) (dSeq (dAsg (dBin fIxS (dBin fIxS (dVar 0) (dC (.int 0))) (dBin fIxS (dVar 0) (dC (.int 1)))) (tName 2))
    (dSeq (dSetS (dBin fAdd (dBin fIxS (dVar 0) (dC (.int 1))) (dC (.int 1))) (dVar 0) (dC (.int 1)))
    (dIfS (dTest (dBin (fCmp fun i j => decide (j ≤ i)) (dVar 2) (dBin fPow (dC (.int 10)) (dC (.int 18))))) (dSetS (dVar 2) (dVar 0) (dC (.int 2))) (dSetS (dBin fMod (dCall fInt (dCons (dBin fAdd (dBin fAdd (dBin fMul (dBin fIxS (dVar 0) (dC (.int 3))) (dC (.int 45053))) (dBin fMul (dBin fMod (dCall fInt (dCons (dVar 2) dNil)) (dC (.int 2147483563))) (dC (.int 50033)))) (dC (.int 67))) dNil)) (dC (.int 2147483587))) (dVar 0) (dC (.int 3)))))) dSkip) [.v (.obj j), .v (.int n), .no, .no, .no] (μ.set j (.src s)) = some (.val .nx, [.v (.obj j), .v (.int n), x, .no, .no], (μ.set j (.src s1))) := by
    by_cases hc : (decide (s.big = 0) && decide (s.at_ < s.cells.length)) = true
    · have hc' : s.big = 0 ∧ s.at_ < s.cells.length := by simpa using hc
      obtain ⟨c, e1, e2⟩ := ix_intsD s.cells s.at_ hs.a0 hc'.2
      by_cases hg : 1000000000000000000 ≤ c
      · refine ⟨.v (.int c), { s with at_ := s.at_ + 1, big := c }, ⟨hs.sz, by have := hs.a0; show 0 ≤ s.at_ + 1; omega, hs.s0, hs.s1⟩, ?_⟩
        refine ifs_t (μ' := (μ.set j (.src s))) (by rw [hT, hc]) ?_
        simp only [dSeq, dIfS, bindS, dSetS, fSetS, dAsg, tName, nobor, fIx, dTest, fTest, dBin, dC, dVar, bindR, Dv.ret, hold, fIxS, dCall, dCons, dNil, fLen, fCmp, fAdd, fpow_1018, gj, sj, List.getElem?_cons_zero, List.getElem?_cons_succ, List.set_cons_zero, List.set_cons_succ, sg1, sg2, sg3, sg4, ss1, ss2, ss3, ss4, sg0 s hz, e1, hg, decide_true, if_true]
      · refine ⟨.v (.int c), { s with at_ := s.at_ + 1, seed := (s.seed * 45053 + c % 2147483563 * 50033 + 67) % 2147483587 }, ⟨hs.sz, by have := hs.a0; show 0 ≤ s.at_ + 1; omega, by show 0 ≤ _ % 2147483587; omega, by show _ % 2147483587 < _; omega⟩, ?_⟩
        refine ifs_t (μ' := (μ.set j (.src s))) (by rw [hT, hc]) ?_
        simp only [dSeq, dIfS, bindS, dSetS, fSetS, dAsg, tName, nobor, fIx, dTest, fTest, dBin, dC, dVar, bindR, Dv.ret, hold, fIxS, dCall, dCons, dNil, fLen, fInt, fCmp, fAdd, fpow_1018, gj, sj, List.getElem?_cons_zero, List.getElem?_cons_succ, List.set_cons_zero, List.set_cons_succ, sg1, sg2, sg3, sg4, ss1, ss2, ss3, ss4, sg0 s hz, e1, hg, decide_true, decide_false, if_true, if_false, Bool.false_eq_true, fmul_int _ 45053 _ (by decide), fmul_int _ 50033 _ (by decide), fmod_int _ 2147483587 _ (by decide), fmod_int _ 2147483563 _ (by decide)]
    · refine ⟨.no, s, hs, ?_⟩
      refine ifs_f (μ' := (μ.set j (.src s))) (by rw [hT, Bool.eq_false_iff.mpr hc]) rfl
  obtain ⟨x, s1, hs1, e1⟩ := h2
  by_cases hb : 0 < s1.big
  · refine ⟨s1.big % n, { s1 with big := s1.big / n }, [.v (.obj j), .v (.int n), x, .v (.int (s1.big % n)), .no], ?_, Int.emod_nonneg _ (by omega), Int.emod_lt_of_pos _ h0, ⟨hs1.sz, hs1.a0, hs1.s0, hs1.s1⟩⟩
    refine seq_nx e1 (seq_ret (d := .int (s1.big % n)) (ifs_t (μ' := (μ.set j (.src s1))) ?_ ?_))
    · simp only [dTest, fTest, dBin, dC, dVar, bindR, Dv.ret, hold, fIxS, fCmp, gj, sj, List.getElem?_cons_zero, List.getElem?_cons_succ, sg2, hb, decide_true]
    · simp only [dSeq, dRet, unbor, bindS, dSetS, fSetS, dAsg, tName, nobor, dBin, dC, dVar, bindR, Dv.ret, hold, fIxS, dCall, dCons, dNil, fInt, gj, sj, List.getElem?_cons_zero, List.getElem?_cons_succ, List.set_cons_zero, List.set_cons_succ, sg2, ss2, if_true, fmod_int _ n _ h0, fdiv_int _ n _ h0 h1]
  · refine ⟨((s1.seed * s1.seed + s1.seed * 33023 + (s1.cnt + 1) * 1299709 + 85571) % 2147483587 / 71 + (s1.seed * s1.seed + s1.seed * 33023 + (s1.cnt + 1) * 1299709 + 85571) % 2147483587 % 7907 * 59) % n, { s1 with cnt := s1.cnt + 1, seed := (s1.seed * s1.seed + s1.seed * 33023 + (s1.cnt + 1) * 1299709 + 85571) % 2147483587 }, [.v (.obj j), .v (.int n), x, .no, .v (.int s1.seed)], ?_, ?_, ?_, ⟨hs1.sz, hs1.a0, ?_, ?_⟩⟩
    refine seq_nx e1 (seq_nx (ifs_f (μ' := (μ.set j (.src s1))) (r := some (.val .nx, [.v (.obj j), .v (.int n), x, .no, .no], (μ.set j (.src s1)))) ?_ rfl) ?_)
    · simp only [dTest, fTest, dBin, dC, dVar, bindR, Dv.ret, hold, fIxS, fCmp, gj, sj, List.getElem?_cons_zero, List.getElem?_cons_succ, sg2, hb, decide_false]
    · have q := hs1.s0
      have q2 := hs1.s1
      simp only [dSeq, dRet, unbor, bindS, dSetS, fSetS, dAsg, tName, nobor, dBin, dC, dVar, bindR, Dv.ret, hold, fIxS, dCall, dCons, dNil, fInt, fAdd, gj, sj, List.getElem?_cons_zero, List.getElem?_cons_succ, List.set_cons_zero, List.set_cons_succ, sg3, sg4, ss3, ss4, if_true, fmul_int _ s1.seed _ (by omega), fmul_int _ 33023 _ (by decide), fmul_int _ 1299709 _ (by decide), fmul_int _ 59 _ (by decide), fmod_int _ 2147483587 _ (by decide), fmod_int _ 7907 _ (by decide), fdiv_int _ 71 _ (by decide) (by decide), fmod_int _ n _ h0]
    · exact Int.emod_nonneg _ (by omega)
    · exact Int.emod_lt_of_pos _ h0
    · exact Int.emod_nonneg _ (by decide)
    · exact Int.emod_lt_of_pos _ (by decide)

theorem of_okJ (j : Nat) (μ : Mu) (hj : j < μ.length) (s : Src) (l : List D) (hs : OkS s) (hl : 0 < l.length) (hz : l.length ≤ 1000) (hn : ∀ d ∈ l, nobor d = true) (hn2 : ∀ d ∈ l, unbor d = d) : ∃ d s', d ∈ l ∧ mOf [.obj j, .lst l] (μ.set j (.src s)) = some (.val d, (μ.set j (.src s'))) ∧ OkS s' := by
  obtain ⟨r, s', e, r0, r1, ho⟩ := draw_okJ j μ hj s l.length hs (by omega) (by omega)
  have hr : r.toNat < l.length := by omega
  refine ⟨l[r.toNat], s', List.getElem_mem hr, ?_, ho⟩
  refine def_ret (env := [.v (.obj j), .v (.lst l)]) ?_ (hn _ (List.getElem_mem hr))
  show bOf [.v (.obj j), .v (.lst l)] (μ.set j (.src s)) = _
  have e2 : atI l r = some l[r.toNat] := by rw [atI_of r0 r1]; simp [hr]
  simp only [bOf, dRet, bindS, dBin, dVar, dCall, dCons, dNil, fLen, bindR, Dv.ret, hold, List.getElem?_cons_zero, List.getElem?_cons_succ, fCall, List.length_cons, List.length_nil, List.all_cons, List.all_nil, nobor, Bool.and_self, and_self, if_true, e, fIxS, fIx, e2, hn2 _ (List.getElem_mem hr), Nat.zero_add, Nat.reduceAdd]
end Dv

/-! DwW: the laws' two helpers of errors: the fields of an error, why a call ends. -/
namespace Dv
open PySem PySem.Spec PyProof.Rows L2
/-! ### room within a suite -/
theorem unitsF {k : Nat} {A : Around} (h : RoomF k A) : A.units + 64 < cLine := by have := h.many; omega
theorem unitsF5 {k : Nat} {A : Around} (h : RoomF k A) : A.units + 65 < cLine := by have := h.many; omega
theorem Room.suite {k : Nat} {A : Around} {v : Option Value} (r : Room (k + 1) A) (env : Env) : RoomF k ((A.deeper env).mark v) := by
  have h := (RoomF.of r).inner env
  exact ⟨h.deep, h.many⟩
/-! ### which classes have which field -/
/-- l: the classes that may be met, each with its field -/
def fcs (l : List (Str × Option Str)) (f : Str) : List Str := if f = "code" then l.map (·.1) else (l.filter fun z => decide (z.2 = some f)).map (·.1)
structure ErrFs (K : PySem.W.Frag) (mg : Str → Option Value) (fc : Str → List Str) : Prop where
  code : ErrF K mg (fc "code") "code"
  given : ErrF K mg (fc "given") "given"
  at_ : ErrF K mg (fc "at") "at"
  name : ErrF K mg (fc "name") "name"
  most : ErrF K mg (fc "most") "most"
  cost : ErrF K mg (fc "cost") "cost"
  line : ErrF K mg (fc "line") "line"
/-! ### _law_field -/
def sTup (l : List Str) : DEx := dTup (l.foldr (fun s n => dCons (dC (.str s)) n) dNil)
def bField (fc : Str → List Str) : DSt :=
  (dSeq (dIfS (dTest (dBin (fInS false) (dAttr (fc "code") "code" (dVar 0)) (dTup (dCons (dC (.str "InvalidPrime")) (dCons (dC (.str "InvalidLength")) (dCons (dC (.str "InvalidNumber")) (dCons (dC (.str "InvalidSchedule")) (dCons (dC (.str "InvalidCall")) (dCons (dC (.str "NotCallable")) (dCons (dC (.str "InvalidFate")) (dCons (dC (.str "InvalidKey")) dNil))))))))))) (dRet (dTup (dCons (dAttr (fc "given") "given" (dVar 0)) dNil))) dSkip)
  (dSeq (dIfS (dTest (dBin (fInS false) (dAttr (fc "code") "code" (dVar 0)) (dTup (dCons (dC (.str "InvalidRow")) (dCons (dC (.str "NoChain")) (dCons (dC (.str "NoRing")) dNil)))))) (dRet (dTup (dCons (dAttr (fc "at") "at" (dVar 0)) dNil))) dSkip)
  (dSeq (dIfS (dTest (dBin (fInS false) (dAttr (fc "code") "code" (dVar 0)) (dTup (dCons (dC (.str "InvalidName")) (dCons (dC (.str "DuplicateName")) (dCons (dC (.str "Unservable")) (dCons (dC (.str "Overlost")) (dCons (dC (.str "UnknownReceiver")) dNil)))))))) (dRet (dTup (dCons (dAttr (fc "name") "name" (dVar 0)) dNil))) dSkip)
  (dSeq (dIfS (dTest (dBin (fInS false) (dAttr (fc "code") "code" (dVar 0)) (dTup (dCons (dC (.str "TooMany")) (dCons (dC (.str "Beyond")) dNil))))) (dRet (dTup (dCons (dAttr (fc "most") "most" (dVar 0)) dNil))) dSkip)
  (dSeq (dIfS (dTest (dBin fEq (dAttr (fc "code") "code" (dVar 0)) (dC (.str "NotBarred")))) (dRet (dTup (dCons (dAttr (fc "cost") "cost" (dVar 0)) dNil))) dSkip)
  (dRet (dIf (dTest (dBin fEq (dAttr (fc "code") "code" (dVar 0)) (dC (.str "InvalidText")))) (dTup (dCons (dAttr (fc "line") "line" (dVar 0)) dNil)) (dTup dNil))))))))
def mField (fc : Str → List Str) : Fn := cleanD (defD 1 (bField fc))
/-! ### _law_why -/
def bWhy (fc : Str → List Str) (A : DEx) : DSt :=
  dTry (fc "code") 1 (dRet (dTup (dCons (dC (.str "told")) (dCons A dNil)))) (dRet (dBin fAdd (dTup (dCons (dAttr (fc "code") "code" (dVar 1)) dNil)) (dCall (fCall 1 (valOnly (mField fc))) (dCons (dVar 1) dNil))))
def mWhy (fc : Str → List Str) (ask : Mu → Res D) : Mu → Res D := fun μ => cleanD (defD 2 (bWhy fc (fun _ μ => ask μ))) [.non] μ
theorem why_eq (fc : Str → List Str) (f : Addr) (ask : Mu → Res D) (μ : Mu) : cleanD (defD 2 (bWhy fc (dAsk f ask))) [.fn f] μ = mWhy fc ask μ := by
  unfold mWhy
  have a1 : dAsk f ask (envD 2 [.fn f]) μ = ask μ := if_pos rfl
  have inner : ∀ (A A' : DEx) (e e' : DEnv), A e μ = A' e' μ → dTup (dCons (dC (.str "told")) (dCons A dNil)) e μ = dTup (dCons (dC (.str "told")) (dCons A' dNil)) e' μ := fun A A' e e' h => by
    unfold dTup dCons dC dNil
    simp only [bindR, Dv.ret, h]
  have e := inner (dAsk f ask) (fun _ μ => ask μ) (envD 2 [.fn f]) (envD 2 [.non]) a1
  unfold cleanD defD bWhy dTry dRet
  simp only [bindS, e]
  cases dTup (dCons (dC (.str "told")) (dCons (fun _ μ => ask μ) dNil)) (envD 2 [.non]) μ with
  | none => rfl
  | some z =>
    obtain ⟨o, μ'⟩ := z
    cases o with
    | val d => rfl
    | exc x =>
      simp only []
      by_cases hx : x.cls ∈ fc "code"
      · simp only [hx, if_true]
        have key : ∀ (d0 : D), dBin fAdd (dTup (dCons (dAttr (fc "code") "code" (dVar 1)) dNil)) (dCall (fCall 1 (valOnly (mField fc))) (dCons (dVar 1) dNil)) ((envD 2 [d0]).set 1 (.v (.exn x.cls x.fs))) μ' =
            dBin fAdd (dTup (dCons (dAttr (fc "code") "code" (dC (.exn x.cls x.fs))) dNil)) (dCall (fCall 1 (valOnly (mField fc))) (dCons (dC (.exn x.cls x.fs)) dNil)) [] μ' := fun d0 => rfl
        rw [key, key]
        cases dBin fAdd (dTup (dCons (dAttr (fc "code") "code" (dC (.exn x.cls x.fs))) dNil)) (dCall (fCall 1 (valOnly (mField fc))) (dCons (dC (.exn x.cls x.fs)) dNil)) [] μ' with
        | none => rfl
        | some z2 =>
          obtain ⟨o2, μ2⟩ := z2
          cases o2 <;> rfl
      · simp only [hx, if_false]
theorem why_ok (fc : Str → List Str) : ∀ f ask μ d μ', mWhy fc ask μ = some (.val d, μ') → cleanD (defD 2 (bWhy fc (dAsk f ask))) [.fn f] μ = some (.val d, μ') := fun f ask μ d μ' h => by rw [why_eq]; exact h
end Dv

/-! DwX: own errors by the text of the program: short forms for printed texts. -/
namespace Dv
open PySem PySem.Spec PyProof.Rows L2
def clsBody : Stmt → List Stmt
  | .ClassDef _ _ _ b _ _ _ _ _ _ _ => b
  | _ => []
theorem SupD.binds {P : Program} {K : PySem.W.Frag} {x qual : Str} {params : Arguments} {body : List Stmt} {scope : Scope} {f : Addr} {fd : FuncData} {D : Addr} {ps : List Str} (F : SupD P K x qual params body scope f fd D)
    (h : ∀ (kV doc pm : Value) (an : Option Addr) (cd ct : Value) (cc : Addr) (us : List Value), us.length = ps.length → bindArgs (PySem.W.ksFn x qual params body scope .none kV doc pm an cd ct cc) ⟨us, []⟩ = pure (ps.zip us)) : Binds K fd ps [] := by
  obtain ⟨oc, od, kV, doc, pm, an, cda, ct, osl, cc, cl, cld, csl, ccl, cdd, vs, ccs, file, tf, rfl, _⟩ := F.ex
  exact .all (h kV doc pm an _ ct cc)
/-- all checks of a one-field error of this name, in this order: SupC, init, no class attribute "code", nor the field, reading -/
def errBs (b : EBase) (c f : Str) : List (PySem.W.Frag → Bool) := [fun K => supB b K (He.ga K c) (He.ga K c), iniB c, noB c "code", noB c f, fun K => L2.xfB K (He.ga K c)]
theorem SaysB.chkM {file : Str} {fa : List He.Fa} {fn : List He.DefD} {fc : List ClD} {bs : List (PySem.W.Frag → Bool)} {K : PySem.W.Frag} (c : SaysB file fa fn fc bs K) {b : PySem.W.Frag → Bool} (h : b ∈ bs) : b K = true :=
  List.all_eq_true.mp (congrArg Prod.snd c.eq : (bs.all fun b => b K) = true) b h
structure ErrOk (K : PySem.W.Frag) (b : EBase) (c f : Str) : Prop where
  sup : SupC K (He.ga K c) (He.ga K c) b
  ini : PySem.W.findIn K (.ref (He.ga K c)) "__init__" = some (some (.ref (He.fAd K (c, some "__init__")))) ∧ PySem.W.typeIn K (.ref (He.fAd K (c, some "__init__"))) = some (.type "function")
  no1 : PySem.W.findIn K (.ref (He.ga K c)) "code" = some none
  no2 : PySem.W.findIn K (.ref (He.ga K c)) f = some none
  xf : XfC K (He.ga K c)
theorem errOk_of {K : PySem.W.Frag} {b : EBase} {c f : Str} (h : ∀ z ∈ errBs b c f, z K = true) : ErrOk K b c f :=
  ⟨supB_ok (h (fun K => supB b K (He.ga K c) (He.ga K c)) (by simp [errBs])), iniB_ok (h (iniB c) (by simp [errBs])), noB_ok (h (noB c "code") (by simp [errBs])), noB_ok (h (noB c f) (by simp [errBs])), L2.xfB_ok (h (fun K => L2.xfB K (He.ga K c)) (by simp [errBs]))⟩
end Dv

/-! DwY: isinstance of an own error; classes as values. -/
namespace Dv
open PySem PySem.Spec PyProof.Rows L2
/-- what isinstance asks of an own error class -/
structure ExcI (K : PySem.W.Frag) (C : Addr) : Prop where
  cl : (PySem.W.clsIn K C).isSome = true
  ga : PySem.W.findIn K (.ref C) "__getattribute__" = some (some (.builtin "BaseException.__getattribute__"))
  gt : PySem.W.findIn K (.ref C) "__getattr__" = some none
  be : PySem.W.subIn K (.ref C) (.type "BaseException") = some true
  ca : PySem.W.findIn K (.ref C) "__class__" = some (some (.builtin "object.__class__"))
  cg : PySem.W.specialIn K (.builtin "object.__class__") "__get__" = some (some (.builtin "getset_descriptor.__get__"))
  ct : PySem.W.takesIn K (.builtin "object.__class__") = some true
  ob : PySem.W.mroIn K C (.type "object") = some true
def excIB (K : PySem.W.Frag) (C : Addr) : Bool := (PySem.W.clsIn K C).isSome && (decide (PySem.W.findIn K (.ref C) "__getattribute__" = some (some (.builtin "BaseException.__getattribute__"))) && (decide (PySem.W.findIn K (.ref C) "__getattr__" = some none) && (decide (PySem.W.subIn K (.ref C) (.type "BaseException") = some true) &&
  (decide (PySem.W.findIn K (.ref C) "__class__" = some (some (.builtin "object.__class__"))) && (decide (PySem.W.specialIn K (.builtin "object.__class__") "__get__" = some (some (.builtin "getset_descriptor.__get__"))) && (decide (PySem.W.takesIn K (.builtin "object.__class__") = some true) && decide (PySem.W.mroIn K C (.type "object") = some true)))))))
theorem excIB_ok {K : PySem.W.Frag} {C : Addr} (h : excIB K C = true) : ExcI K C := by
  unfold excIB at h
  simp only [Bool.and_eq_true, decide_eq_true_eq] at h
  exact ⟨h.1, h.2.1, h.2.2.1, h.2.2.2.1, h.2.2.2.2.1, h.2.2.2.2.2.1, h.2.2.2.2.2.2.1, h.2.2.2.2.2.2.2⟩
def rIsiX (K : PySem.W.Frag) : List V → Hp → VK → Prop := fun xs H Q => ∃ (a C d : Addr) (fs : List (Str × V)) (c : V) (u : Value) (b : Bool), xs = [.ref a, c] ∧ ClsV c u ∧ H a = some (exv a C d) ∧ H d = some (.xd fs) ∧ ExcI K C ∧ PySem.W.kitOne K (.ref C) u = some b ∧ Q (.bl b) H
section
variable {X : Cx} {B : Bs} {W : WX}
theorem call_isiX : CallR X (.builtin "isinstance") (rIsiX X.K) := by
  intro pins s σ H xs us Q I r h
  obtain ⟨a, C, d, fs, c, u, b, rfl, k, ea, ed, T, e, q⟩ := h
  obtain ⟨u1, u2, rfl, r1, r2⟩ := vals2 r
  have e1 : u1 = Value.ref a := r1
  have e2 := k.eq r2
  subst e1 e2
  obtain ⟨oe, vs, at_, cl, di, data⟩ := exv_at I.hok ea
  obtain ⟨mA, ns, _⟩ := (show ∃ mA, s.heap.Ns1 d mA ∧ ∀ f, RelO (fs.lookup f) (mA f) from I.hok d _ ed)
  obtain ⟨od, got, _⟩ := lookIn_ns ns
  have inst : PySem.W.InstAt s.heap a oe C (some od) := ⟨at_, cl, by unfold PySem.W.notCls; rw [data], by rw [di]; exact got⟩
  exact PySem.W.kia_one (PySem.W.kitx_exc T.cl T.ga T.gt T.be T.ca T.cg T.ct T.ob) I.kIn inst e (fun z => nomatch z) fun tk => ⟨.bl b, H, I.tok tk, rfl, q⟩
/-- the classes cs of errors, over the classes xs and the built-in ones ts: anc tells a class's ancestors -/
structure IsiF (K : PySem.W.Frag) (mg : Str → Option Value) (cs xs : List Str) (ts : List String) (anc : Str → List Str) : Prop where
  ok : ∀ c ∈ cs, ∃ C : Addr, mg c = some (.ref C) ∧ ExcI K C ∧ (∀ x ∈ xs, ∃ D : Addr, mg x = some (.ref D) ∧ PySem.W.kitOne K (.ref C) (.ref D) = some (decide (x ∈ anc c))) ∧ ∀ t ∈ ts, PySem.W.kitOne K (.ref C) (.type t) = some (decide (Str.ofString t ∈ anc c))
def fIsiX (cs xs : List Str) (ts : List String) (anc : Str → List Str) : FA
  | [.exn c _, .glo x], μ => if c ∈ cs ∧ x ∈ xs then ret (.bl (decide (x ∈ anc c))) μ else none
  | [.exn c _, .ty t], μ => if c ∈ cs ∧ t ∈ ts then ret (.bl (decide (Str.ofString t ∈ anc c))) μ else none
  | _, _ => none
theorem ca_isiX {cs xs : List Str} {ts : List String} {anc : Str → List Str} (F : IsiF X.K X.mg cs xs ts anc) : CallD (tx X) (rIsiX X.K) (fIsiX cs xs ts anc) := by
  intro B W σ env ρ G H μ vs ds Q R h k
  unfold fIsiX at k
  split at k
  · split at k
    · rename_i hc
      obtain ⟨v, u, rfl, hv, hu⟩ := hreps2 h
      obtain ⟨a, C, d, vf, rfl, hm, g1, g2, _⟩ := exn_inv hv
      obtain ⟨C', hm', T, own, _⟩ := F.ok _ hc.1
      have hm : X.mg _ = some (.ref C) := hm
      rw [hm] at hm'; cases hm'
      obtain ⟨D, hD, e⟩ := own _ hc.2
      have hu : Rep (tx X) ρ G u (.glo _) := hu
      unfold Rep at hu
      obtain ⟨D', rfl, hD'⟩ := hu
      have hD' : X.mg _ = some (.ref D') := hD'
      rw [hD] at hD'; cases hD'
      exact ⟨a, C, d, vf, _, _, _, rfl, .own D, R.gh _ _ g1, R.gh _ _ g2, T, e, k.here R (.ofR rep_bl)⟩
    · exact k.elim
  · split at k
    · rename_i hc
      obtain ⟨v, u, rfl, hv, hu⟩ := hreps2 h
      obtain ⟨a, C, d, vf, rfl, hm, g1, g2, _⟩ := exn_inv hv
      obtain ⟨C', hm', T, _, own⟩ := F.ok _ hc.1
      have hm : X.mg _ = some (.ref C) := hm
      rw [hm] at hm'; cases hm'
      have e := own _ hc.2
      have hu : Rep (tx X) ρ G u (.ty _) := hu
      unfold Rep at hu
      subst hu
      exact ⟨a, C, d, vf, _, _, _, rfl, .ty _, R.gh _ _ g1, R.gh _ _ g2, T, e, k.here R (.ofR rep_bl)⟩
    · exact k.elim
  · exact k.elim
theorem isiX_ {cs xs : List Str} {ts : List String} {anc : Str → List Str} {p pos : Pos} {e : Expr} {es : List Expr} {n : DEnv → Mu → Res (List D)} (F : IsiF X.K X.mg cs xs ts anc) (hm : X.mg "isinstance" = none) (ha : DA X B W (e :: es) n) (hg : Gl X "isinstance" := by rfl) (he : starEach (e :: es) X.env = (false, eval e X.env) :: starEach es X.env := by rfl) (hpl : (backTo pos (starEach es X.env)).any (·.1) = false := by rfl) :
    DE X B W (.Call (.Name "isinstance" p) (e :: es) [] pos) (dCall (fIsiX cs xs ts anc) n) := de_callB call_isiX (ca_isiX F) hg hm boot_isi' ha (by decide) (by decide) he hpl
/-- a class by its name -/
theorem g_cls {x : Str} {p : Pos} {C : Addr} (h : X.mg x = some (.ref C)) (hg : Gl X x := by rfl) (hd : (x == ("__debug__" : Str)) = false := by decide) : DE X B W (.Name x p) (dC (.glo x)) :=
  de_c (pe_glob (v := .ref C) hg h rfl hd) fun ρ G => by unfold Rep; exact ⟨C, rfl, h⟩
theorem ty_any {x : Str} {p : Pos} {n : String} (hm : X.mg x = none) (hv : bootBuiltins x = some (.type n)) (hn : x ≠ "__name__" := by decide) (hd : (x == ("__debug__" : Str)) = false := by decide) (hg : Gl X x := by rfl) : DE X B W (.Name x p) (dC (.ty n)) :=
  de_c (pe_bltn hg hm (u := .type n) hv (show RelV (.ty n) (.type n) from rfl) hn hd) fun _ _ => rep_ty
end
/-- the checks -/
def isiB (cs xs : List Str) (ts : List String) (anc : Str → List Str) : PySem.W.Frag → Bool := fun K => cs.all fun c => excIB K (He.ga K c) && (xs.all (fun x => decide (PySem.W.kitOne K (.ref (He.ga K c)) (.ref (He.ga K x)) = some (decide (x ∈ anc c)))) && ts.all fun t => decide (PySem.W.kitOne K (.ref (He.ga K c)) (.type t) = some (decide (Str.ofString t ∈ anc c))))
theorem isiB_ok {K : PySem.W.Frag} {mg : Str → Option Value} {cs xs : List Str} {ts : List String} {anc : Str → List Str} (h : isiB cs xs ts anc K = true) (hc : ∀ c ∈ cs, mg c = some (.ref (He.ga K c))) (hx : ∀ x ∈ xs, mg x = some (.ref (He.ga K x))) : IsiF K mg cs xs ts anc := by
  constructor
  intro c hcs
  have q := List.all_eq_true.mp h c hcs
  simp only [Bool.and_eq_true] at q
  refine ⟨_, hc c hcs, excIB_ok q.1, fun x hxs => ⟨_, hx x hxs, ?_⟩, fun t ht => ?_⟩
  · exact of_decide_eq_true (List.all_eq_true.mp q.2.1 x hxs)
  · exact of_decide_eq_true (List.all_eq_true.mp q.2.2 t ht)
end Dv

namespace Lw_k01
open PySem PySem.Spec PyProof.Rows L2 Dv
def top (i : Nat) : Stmt := PySem.Challenge.pw_mendcalls_k01_errors_by_themselves.main.body.getD i (.Pass ⟨0, 0, 0, 0⟩)
abbrev s__law_source : Stmt := top 26
abbrev N__law_source : List Str := ["_law_script"]
abbrev P__law_source : List Str := ["_law_script"]
abbrev s__law_like : Stmt := top 29
abbrev N__law_like : List Str := ["_law_found", "_law_due", "_law_one", "_law_other"]
abbrev P__law_like : List Str := ["_law_found", "_law_due"]
abbrev s__law_draw : Stmt := top 27
abbrev N__law_draw : List Str := ["_law_src", "_law_many", "_law_cell", "_law_digit", "_law_seed"]
abbrev P__law_draw : List Str := ["_law_src", "_law_many"]
abbrev s__law_of : Stmt := top 28
abbrev N__law_of : List Str := ["_law_src", "_law_things"]
abbrev P__law_of : List Str := ["_law_src", "_law_things"]
abbrev s__law_error_rows : Stmt := top 31
abbrev N__law_error_rows : List Str := ["_law_a", "_law_found"]
abbrev P__law_error_rows : List Str := ["_law_a"]
abbrev s__law_error_kinds : Stmt := top 32
abbrev N__law_error_kinds : List Str := ["_law_e", "_law_found", "_law_name", "_law_is_one"]
abbrev P__law_error_kinds : List Str := ["_law_e"]
abbrev s__law_field : Stmt := top 30
abbrev N__law_field : List Str := ["_law_e"]
abbrev P__law_field : List Str := ["_law_e"]
abbrev s_law : Stmt := top 33
abbrev N_law : List Str := ["_law_script", "_law_src", "_law_turn", "_law_given", "_law_e", "_law_name", "_law_due", "_law_found", "_law_kinds", "_law_made"]
abbrev P_law : List Str := ["_law_script"]
abbrev i_NothingLeft : Stmt := (clsBody (top 24)).getD 0 (.Pass ⟨0, 0, 0, 0⟩)
abbrev i_UnknownReceiver : Stmt := (clsBody (top 23)).getD 0 (.Pass ⟨0, 0, 0, 0⟩)
abbrev i_InvalidText : Stmt := (clsBody (top 22)).getD 0 (.Pass ⟨0, 0, 0, 0⟩)
abbrev i_Overlost : Stmt := (clsBody (top 21)).getD 0 (.Pass ⟨0, 0, 0, 0⟩)
abbrev i_NoRing : Stmt := (clsBody (top 20)).getD 0 (.Pass ⟨0, 0, 0, 0⟩)
abbrev i_NoChain : Stmt := (clsBody (top 19)).getD 0 (.Pass ⟨0, 0, 0, 0⟩)
abbrev i_NotBarred : Stmt := (clsBody (top 18)).getD 0 (.Pass ⟨0, 0, 0, 0⟩)
abbrev i_Beyond : Stmt := (clsBody (top 17)).getD 0 (.Pass ⟨0, 0, 0, 0⟩)
abbrev i_Unservable : Stmt := (clsBody (top 16)).getD 0 (.Pass ⟨0, 0, 0, 0⟩)
abbrev i_InvalidKey : Stmt := (clsBody (top 15)).getD 0 (.Pass ⟨0, 0, 0, 0⟩)
abbrev i_InvalidFate : Stmt := (clsBody (top 14)).getD 0 (.Pass ⟨0, 0, 0, 0⟩)
abbrev i_NotCallable : Stmt := (clsBody (top 13)).getD 0 (.Pass ⟨0, 0, 0, 0⟩)
abbrev i_InvalidCall : Stmt := (clsBody (top 12)).getD 0 (.Pass ⟨0, 0, 0, 0⟩)
abbrev i_TooMany : Stmt := (clsBody (top 11)).getD 0 (.Pass ⟨0, 0, 0, 0⟩)
abbrev i_MixedFields : Stmt := (clsBody (top 10)).getD 0 (.Pass ⟨0, 0, 0, 0⟩)
abbrev i_InvalidSchedule : Stmt := (clsBody (top 9)).getD 0 (.Pass ⟨0, 0, 0, 0⟩)
abbrev i_InvalidNumber : Stmt := (clsBody (top 8)).getD 0 (.Pass ⟨0, 0, 0, 0⟩)
abbrev i_DuplicateName : Stmt := (clsBody (top 7)).getD 0 (.Pass ⟨0, 0, 0, 0⟩)
abbrev i_InvalidName : Stmt := (clsBody (top 6)).getD 0 (.Pass ⟨0, 0, 0, 0⟩)
abbrev i_InvalidRow : Stmt := (clsBody (top 5)).getD 0 (.Pass ⟨0, 0, 0, 0⟩)
abbrev i_InvalidLength : Stmt := (clsBody (top 4)).getD 0 (.Pass ⟨0, 0, 0, 0⟩)
abbrev i_InvalidPrime : Stmt := (clsBody (top 3)).getD 0 (.Pass ⟨0, 0, 0, 0⟩)
/-- the errors that may be met, their fields -/
def fc : Str → List Str := fcs [("NothingLeft", none), ("UnknownReceiver", some "name"), ("InvalidText", some "line"), ("Overlost", some "name"), ("NoRing", some "at"), ("NoChain", some "at"), ("NotBarred", some "cost"), ("Beyond", some "most"), ("Unservable", some "name"), ("InvalidKey", some "given"), ("InvalidFate", some "given"), ("NotCallable", some "given"), ("InvalidCall", some "given"), ("TooMany", some "most"), ("MixedFields", none), ("InvalidSchedule", some "given"), ("InvalidNumber", some "given"), ("DuplicateName", some "name"), ("InvalidName", some "name"), ("InvalidRow", some "at"), ("InvalidLength", some "given"), ("InvalidPrime", some "given")]
def itb : List (Str × List Str) := [("NothingLeft", ["NothingLeft", "IndexError", "LookupError", "Exception", "BaseException", "object"]), ("UnknownReceiver", ["UnknownReceiver", "Missing", "LookupError", "Exception", "BaseException", "object"]), ("InvalidText", ["InvalidText", "CallError", "ValueError", "Exception", "BaseException", "object"]), ("Overlost", ["Overlost", "CallError", "ValueError", "Exception", "BaseException", "object"]), ("NoRing", ["NoRing", "CallError", "ValueError", "Exception", "BaseException", "object"]), ("NoChain", ["NoChain", "CallError", "ValueError", "Exception", "BaseException", "object"]), ("NotBarred", ["NotBarred", "CallError", "ValueError", "Exception", "BaseException", "object"]), ("Beyond", ["Beyond", "CallError", "ValueError", "Exception", "BaseException", "object"]), ("Unservable", ["Unservable", "CallError", "ValueError", "Exception", "BaseException", "object"]), ("InvalidKey", ["InvalidKey", "CallError", "ValueError", "Exception", "BaseException", "object"]), ("InvalidFate", ["InvalidFate", "CallError", "ValueError", "Exception", "BaseException", "object"]), ("NotCallable", ["NotCallable", "CallError", "ValueError", "Exception", "BaseException", "object"]), ("InvalidCall", ["InvalidCall", "CallError", "ValueError", "Exception", "BaseException", "object"]), ("TooMany", ["TooMany", "CallError", "ValueError", "Exception", "BaseException", "object"]), ("MixedFields", ["MixedFields", "CallError", "ValueError", "Exception", "BaseException", "object"]), ("InvalidSchedule", ["InvalidSchedule", "CallError", "ValueError", "Exception", "BaseException", "object"]), ("InvalidNumber", ["InvalidNumber", "CallError", "ValueError", "Exception", "BaseException", "object"]), ("DuplicateName", ["DuplicateName", "CallError", "ValueError", "Exception", "BaseException", "object"]), ("InvalidName", ["InvalidName", "CallError", "ValueError", "Exception", "BaseException", "object"]), ("InvalidRow", ["InvalidRow", "CallError", "ValueError", "Exception", "BaseException", "object"]), ("InvalidLength", ["InvalidLength", "CallError", "ValueError", "Exception", "BaseException", "object"]), ("InvalidPrime", ["InvalidPrime", "CallError", "ValueError", "Exception", "BaseException", "object"])]
def ianc (c : Str) : List Str := ((itb.find? fun z => decide (z.1 = c)).map (·.2)).getD []
def ics : List Str := ["NothingLeft", "UnknownReceiver", "InvalidText", "Overlost", "NoRing", "NoChain", "NotBarred", "Beyond", "Unservable", "InvalidKey", "InvalidFate", "NotCallable", "InvalidCall", "TooMany", "MixedFields", "InvalidSchedule", "InvalidNumber", "DuplicateName", "InvalidName", "InvalidRow", "InvalidLength", "InvalidPrime"]
def ixs : List Str := ["NothingLeft", "UnknownReceiver", "InvalidText", "Overlost", "NoRing", "NoChain", "NotBarred", "Beyond", "Unservable", "InvalidKey", "InvalidFate", "NotCallable", "InvalidCall", "TooMany", "MixedFields", "InvalidSchedule", "InvalidNumber", "DuplicateName", "InvalidName", "InvalidRow", "InvalidLength", "InvalidPrime", "Missing", "CallError"]
def its : List String := ["IndexError", "LookupError", "ValueError"]
/-! ### meanings -/
def b__law_source : DSt := (dRet (dLst (dCons (dCall fList (dCons (dSl (dVar 0) dNoPart (dPart (dC (.int 63)))) dNil)) (dCons (dC (.int 0)) (dCons (dC (.int 0)) (dCons (dC (.int 10014)) (dCons (dC (.int 0)) dNil)))))))
def m__law_source : Fn := adopt (cleanD (defD 1 b__law_source))
abbrev m__law_like : Nat → Fn := mLike
abbrev b__law_draw : DSt := bDraw
abbrev m__law_draw : Fn := mDraw
abbrev b__law_of : DSt := bOf
abbrev m__law_of : Fn := mOf
def b__law_error_rows : DSt := (dSeq (dAsg (dLst (dCons (dTup (dCons (dCall (fErr1 "InvalidPrime" "given" "InvalidPrime") (dCons (dVar 0) dNil)) (dCons (dC (.str "InvalidPrime")) dNil))) (dCons (dTup (dCons (dCall (fErr1 "InvalidLength" "given" "InvalidLength") (dCons (dVar 0) dNil)) (dCons (dC (.str "InvalidLength")) dNil))) (dCons (dTup (dCons (dCall (fErr1 "InvalidRow" "at" "InvalidRow") (dCons (dVar 0) dNil)) (dCons (dC (.str "InvalidRow")) dNil))) dNil)))) (tName 1))
  (dSeq (dAsg (dBin fAdd (dVar 1) (dLst (dCons (dTup (dCons (dCall (fErr1 "InvalidName" "name" "InvalidName") (dCons (dVar 0) dNil)) (dCons (dC (.str "InvalidName")) dNil))) (dCons (dTup (dCons (dCall (fErr1 "DuplicateName" "name" "DuplicateName") (dCons (dVar 0) dNil)) (dCons (dC (.str "DuplicateName")) dNil))) dNil)))) (tName 1))
  (dSeq (dAsg (dBin fAdd (dVar 1) (dLst (dCons (dTup (dCons (dCall (fErr1 "InvalidNumber" "given" "InvalidNumber") (dCons (dVar 0) dNil)) (dCons (dC (.str "InvalidNumber")) dNil))) (dCons (dTup (dCons (dCall (fErr1 "InvalidSchedule" "given" "InvalidSchedule") (dCons (dVar 0) dNil)) (dCons (dC (.str "InvalidSchedule")) dNil))) dNil)))) (tName 1))
  (dSeq (dAsg (dBin fAdd (dVar 1) (dLst (dCons (dTup (dCons (dErr0 "MixedFields" "MixedFields") (dCons (dC (.str "MixedFields")) dNil))) (dCons (dTup (dCons (dCall (fErr1 "TooMany" "most" "TooMany") (dCons (dVar 0) dNil)) (dCons (dC (.str "TooMany")) dNil))) (dCons (dTup (dCons (dCall (fErr1 "InvalidCall" "given" "InvalidCall") (dCons (dVar 0) dNil)) (dCons (dC (.str "InvalidCall")) dNil))) dNil))))) (tName 1))
  (dSeq (dAsg (dBin fAdd (dVar 1) (dLst (dCons (dTup (dCons (dCall (fErr1 "NotCallable" "given" "NotCallable") (dCons (dVar 0) dNil)) (dCons (dC (.str "NotCallable")) dNil))) (dCons (dTup (dCons (dCall (fErr1 "InvalidFate" "given" "InvalidFate") (dCons (dVar 0) dNil)) (dCons (dC (.str "InvalidFate")) dNil))) (dCons (dTup (dCons (dCall (fErr1 "InvalidKey" "given" "InvalidKey") (dCons (dVar 0) dNil)) (dCons (dC (.str "InvalidKey")) dNil))) dNil))))) (tName 1))
  (dSeq (dAsg (dBin fAdd (dVar 1) (dLst (dCons (dTup (dCons (dCall (fErr1 "Unservable" "name" "Unservable") (dCons (dVar 0) dNil)) (dCons (dC (.str "Unservable")) dNil))) (dCons (dTup (dCons (dCall (fErr1 "Beyond" "most" "Beyond") (dCons (dVar 0) dNil)) (dCons (dC (.str "Beyond")) dNil))) (dCons (dTup (dCons (dCall (fErr1 "NotBarred" "cost" "NotBarred") (dCons (dVar 0) dNil)) (dCons (dC (.str "NotBarred")) dNil))) dNil))))) (tName 1))
  (dSeq (dAsg (dBin fAdd (dVar 1) (dLst (dCons (dTup (dCons (dCall (fErr1 "NoChain" "at" "NoChain") (dCons (dVar 0) dNil)) (dCons (dC (.str "NoChain")) dNil))) (dCons (dTup (dCons (dCall (fErr1 "NoRing" "at" "NoRing") (dCons (dVar 0) dNil)) (dCons (dC (.str "NoRing")) dNil))) (dCons (dTup (dCons (dCall (fErr1 "Overlost" "name" "Overlost") (dCons (dVar 0) dNil)) (dCons (dC (.str "Overlost")) dNil))) dNil))))) (tName 1))
  (dRet (dBin fAdd (dVar 1) (dLst (dCons (dTup (dCons (dCall (fErr1 "InvalidText" "line" "InvalidText") (dCons (dVar 0) dNil)) (dCons (dC (.str "InvalidText")) dNil))) (dCons (dTup (dCons (dCall (fErr1 "UnknownReceiver" "name" "UnknownReceiver") (dCons (dVar 0) dNil)) (dCons (dC (.str "UnknownReceiver")) dNil))) (dCons (dTup (dCons (dErr0 "NothingLeft" "NothingLeft") (dCons (dC (.str "NothingLeft")) dNil))) dNil)))))))))))))
def m__law_error_rows : Fn := cleanD (defD 2 b__law_error_rows)
def b__law_error_kinds : DSt := (dSeq (dAsg (dLst (dCons (dTup (dCons (dC (.str "InvalidPrime")) (dCons (dCall (fIsiX ics ixs its ianc) (dCons (dVar 0) (dCons (dC (.glo "InvalidPrime")) dNil))) dNil))) (dCons (dTup (dCons (dC (.str "InvalidLength")) (dCons (dCall (fIsiX ics ixs its ianc) (dCons (dVar 0) (dCons (dC (.glo "InvalidLength")) dNil))) dNil))) dNil))) (tName 1))
  (dSeq (dAsg (dBin fAdd (dVar 1) (dLst (dCons (dTup (dCons (dC (.str "InvalidRow")) (dCons (dCall (fIsiX ics ixs its ianc) (dCons (dVar 0) (dCons (dC (.glo "InvalidRow")) dNil))) dNil))) (dCons (dTup (dCons (dC (.str "InvalidName")) (dCons (dCall (fIsiX ics ixs its ianc) (dCons (dVar 0) (dCons (dC (.glo "InvalidName")) dNil))) dNil))) dNil)))) (tName 1))
  (dSeq (dAsg (dBin fAdd (dVar 1) (dLst (dCons (dTup (dCons (dC (.str "DuplicateName")) (dCons (dCall (fIsiX ics ixs its ianc) (dCons (dVar 0) (dCons (dC (.glo "DuplicateName")) dNil))) dNil))) (dCons (dTup (dCons (dC (.str "InvalidNumber")) (dCons (dCall (fIsiX ics ixs its ianc) (dCons (dVar 0) (dCons (dC (.glo "InvalidNumber")) dNil))) dNil))) dNil)))) (tName 1))
  (dSeq (dAsg (dBin fAdd (dVar 1) (dLst (dCons (dTup (dCons (dC (.str "InvalidSchedule")) (dCons (dCall (fIsiX ics ixs its ianc) (dCons (dVar 0) (dCons (dC (.glo "InvalidSchedule")) dNil))) dNil))) (dCons (dTup (dCons (dC (.str "MixedFields")) (dCons (dCall (fIsiX ics ixs its ianc) (dCons (dVar 0) (dCons (dC (.glo "MixedFields")) dNil))) dNil))) dNil)))) (tName 1))
  (dSeq (dAsg (dBin fAdd (dVar 1) (dLst (dCons (dTup (dCons (dC (.str "TooMany")) (dCons (dCall (fIsiX ics ixs its ianc) (dCons (dVar 0) (dCons (dC (.glo "TooMany")) dNil))) dNil))) (dCons (dTup (dCons (dC (.str "InvalidCall")) (dCons (dCall (fIsiX ics ixs its ianc) (dCons (dVar 0) (dCons (dC (.glo "InvalidCall")) dNil))) dNil))) dNil)))) (tName 1))
  (dSeq (dAsg (dBin fAdd (dVar 1) (dLst (dCons (dTup (dCons (dC (.str "NotCallable")) (dCons (dCall (fIsiX ics ixs its ianc) (dCons (dVar 0) (dCons (dC (.glo "NotCallable")) dNil))) dNil))) (dCons (dTup (dCons (dC (.str "InvalidFate")) (dCons (dCall (fIsiX ics ixs its ianc) (dCons (dVar 0) (dCons (dC (.glo "InvalidFate")) dNil))) dNil))) dNil)))) (tName 1))
  (dSeq (dAsg (dBin fAdd (dVar 1) (dLst (dCons (dTup (dCons (dC (.str "InvalidKey")) (dCons (dCall (fIsiX ics ixs its ianc) (dCons (dVar 0) (dCons (dC (.glo "InvalidKey")) dNil))) dNil))) (dCons (dTup (dCons (dC (.str "Unservable")) (dCons (dCall (fIsiX ics ixs its ianc) (dCons (dVar 0) (dCons (dC (.glo "Unservable")) dNil))) dNil))) dNil)))) (tName 1))
  (dSeq (dAsg (dBin fAdd (dVar 1) (dLst (dCons (dTup (dCons (dC (.str "Beyond")) (dCons (dCall (fIsiX ics ixs its ianc) (dCons (dVar 0) (dCons (dC (.glo "Beyond")) dNil))) dNil))) (dCons (dTup (dCons (dC (.str "NotBarred")) (dCons (dCall (fIsiX ics ixs its ianc) (dCons (dVar 0) (dCons (dC (.glo "NotBarred")) dNil))) dNil))) dNil)))) (tName 1))
  (dSeq (dAsg (dBin fAdd (dVar 1) (dLst (dCons (dTup (dCons (dC (.str "NoChain")) (dCons (dCall (fIsiX ics ixs its ianc) (dCons (dVar 0) (dCons (dC (.glo "NoChain")) dNil))) dNil))) (dCons (dTup (dCons (dC (.str "NoRing")) (dCons (dCall (fIsiX ics ixs its ianc) (dCons (dVar 0) (dCons (dC (.glo "NoRing")) dNil))) dNil))) dNil)))) (tName 1))
  (dSeq (dAsg (dBin fAdd (dVar 1) (dLst (dCons (dTup (dCons (dC (.str "Overlost")) (dCons (dCall (fIsiX ics ixs its ianc) (dCons (dVar 0) (dCons (dC (.glo "Overlost")) dNil))) dNil))) (dCons (dTup (dCons (dC (.str "InvalidText")) (dCons (dCall (fIsiX ics ixs its ianc) (dCons (dVar 0) (dCons (dC (.glo "InvalidText")) dNil))) dNil))) dNil)))) (tName 1))
  (dSeq (dAsg (dBin fAdd (dVar 1) (dLst (dCons (dTup (dCons (dC (.str "UnknownReceiver")) (dCons (dCall (fIsiX ics ixs its ianc) (dCons (dVar 0) (dCons (dC (.glo "UnknownReceiver")) dNil))) dNil))) (dCons (dTup (dCons (dC (.str "NothingLeft")) (dCons (dCall (fIsiX ics ixs its ianc) (dCons (dVar 0) (dCons (dC (.glo "NothingLeft")) dNil))) dNil))) dNil)))) (tName 1))
  (dRet (dLc (dIter (dVar 1)) [2, 3] (Dv.tTup 2 (tsCons (tName 2) (tsCons (tName 3) tsNil))) (dTest (dVar 3)) (dVar 2))))))))))))))
def m__law_error_kinds : Fn := cleanD (defD 4 b__law_error_kinds)
def b_law : DSt := (dSeq (dAsg (dCall (fCall 1 m__law_source) (dCons (dVar 0) dNil)) (tName 1))
  (dSeq (dFor (dArg fRange1 (dCons (dC (.int 4)) dNil)) (tName 2) (dSeq (dAsg (dCall (fCall 2 mOf) (dCons (dVar 1) (dCons (dLst (dCons (dC .non) (dCons (dC (.int 0)) (dCons (dC (.int 7)) (dCons (dC (.str "")) (dCons (dC (.str "ann")) (dCons (dTup (dCons (dC (.int 1)) (dCons (dC (.int 0)) dNil))) (dCons (dLst (dCons (dC (.int 1)) dNil)) (dCons (dC (.bl true)) (dCons (dCall (fCall 2 mDraw) (dCons (dVar 1) (dCons (dBin fPow (dC (.int 10)) (dC (.int 9))) dNil))) dNil)))))))))) dNil))) (tName 3))
  (dFor (dIter (dCall (fCall 1 m__law_error_rows) (dCons (dVar 3) dNil))) (Dv.tTup 2 (tsCons (tName 4) (tsCons (tName 5) tsNil))) (dSeq (dAsg (dIf (dTest (dBin (fInS false) (dVar 5) (dTup (dCons (dC (.str "MixedFields")) (dCons (dC (.str "NothingLeft")) dNil))))) (dTup dNil) (dTup (dCons (dVar 3) dNil))) (tName 6))
  (dSeq (dIfS (dOrT (dTest (dBin fNe (dAttr (fc "code") "code" (dVar 4)) (dVar 5))) (dOrT (dNotT (dTest (dCall (fCall 2 (mLike 12)) (dCons (dCall (fCall 1 (valOnly (mField fc))) (dCons (dVar 4) dNil)) (dCons (dVar 6) dNil))))) (dTest (dBin fNe (dCall (fCall 1 m__law_error_kinds) (dCons (dVar 4) dNil)) (dLst (dCons (dVar 5) dNil)))))) (dRet (dC (.bl false))) dSkip)
  (dSeq (dAsg (dLst (dCons (dCall (fIsiX ics ixs its ianc) (dCons (dVar 4) (dCons (dC (.glo "CallError")) dNil))) (dCons (dCall (fIsiX ics ixs its ianc) (dCons (dVar 4) (dCons (dC (.ty "ValueError")) dNil))) (dCons (dCall (fIsiX ics ixs its ianc) (dCons (dVar 4) (dCons (dC (.glo "Missing")) dNil))) dNil)))) (tName 7))
  (dSeq (dAsg (dBin fAdd (dVar 7) (dLst (dCons (dCall (fIsiX ics ixs its ianc) (dCons (dVar 4) (dCons (dC (.ty "LookupError")) dNil))) (dCons (dCall (fIsiX ics ixs its ianc) (dCons (dVar 4) (dCons (dC (.ty "IndexError")) dNil))) dNil)))) (tName 7))
  (dSeq (dIfS (dTest (dBin fEq (dVar 5) (dC (.str "UnknownReceiver")))) (dAsg (dLst (dCons (dC (.bl false)) (dCons (dC (.bl false)) (dCons (dC (.bl true)) (dCons (dC (.bl true)) (dCons (dC (.bl false)) dNil)))))) (tName 8)) (dIfS (dTest (dBin fEq (dVar 5) (dC (.str "NothingLeft")))) (dAsg (dLst (dCons (dC (.bl false)) (dCons (dC (.bl false)) (dCons (dC (.bl false)) (dCons (dC (.bl true)) (dCons (dC (.bl true)) dNil)))))) (tName 8)) (dAsg (dLst (dCons (dC (.bl true)) (dCons (dC (.bl true)) (dCons (dC (.bl false)) (dCons (dC (.bl false)) (dCons (dC (.bl false)) dNil)))))) (tName 8))))
  (dIfS (dTest (dBin fNe (dVar 7) (dVar 8))) (dRet (dC (.bl false))) dSkip)))))))))
  (dSeq (dAsg (dLst (dCons (dAttr (fc "at") "at" (dCall (fErr1 "InvalidRow" "at" "InvalidRow") (dCons (dC (.int 3)) dNil))) (dCons (dAttr (fc "most") "most" (dCall (fErr1 "Beyond" "most" "Beyond") (dCons (dC (.int 4)) dNil))) (dCons (dAttr (fc "cost") "cost" (dCall (fErr1 "NotBarred" "cost" "NotBarred") (dCons (dC (.int 5)) dNil))) (dCons (dAttr (fc "line") "line" (dCall (fErr1 "InvalidText" "line" "InvalidText") (dCons (dC (.int 6)) dNil))) dNil))))) (tName 9))
  (dSeq (dAsg (dBin fAdd (dVar 9) (dLst (dCons (dAttr (fc "given") "given" (dCall (fErr1 "NotCallable" "given" "NotCallable") (dCons (dTup (dCons (dC (.int 1)) dNil)) dNil))) (dCons (dAttr (fc "name") "name" (dCall (fErr1 "UnknownReceiver" "name" "UnknownReceiver") (dCons (dC (.str "x")) dNil))) (dCons (dAttr (fc "at") "at" (dCall (fErr1 "NoRing" "at" "NoRing") (dCons (dC (.int 0)) dNil))) dNil))))) (tName 9))
  (dRet (dCall (fCall 2 (mLike 12)) (dCons (dVar 9) (dCons (dLst (dCons (dC (.int 3)) (dCons (dC (.int 4)) (dCons (dC (.int 5)) (dCons (dC (.int 6)) (dCons (dTup (dCons (dC (.int 1)) dNil)) (dCons (dC (.str "x")) (dCons (dC (.int 0)) dNil)))))))) dNil))))))))
def m_law : Fn := cleanD (defD 10 b_law)
/-! ### what the module holds -/
structure GS (K : PySem.W.Frag) (mg : Str → Option Value) : Prop where
  f_IndexError : mg "IndexError" = none
  f_LookupError : mg "LookupError" = none
  f_ValueError : mg "ValueError" = none
  f_all : mg "all" = none
  f_bool : mg "bool" = none
  f_int : mg "int" = none
  f_isinstance : mg "isinstance" = none
  f_len : mg "len" = none
  f_list : mg "list" = none
  f_range : mg "range" = none
  f_str : mg "str" = none
  f_super : mg "super" = none
  f_tuple : mg "tuple" = none
  f_zip : mg "zip" = none
  d__law_source : ∃ f fd, mg "_law_source" = some (.ref f) ∧ FunD K "_law_source" "_law_source" (defArgs s__law_source) (defBody s__law_source) (defScope s__law_source) [] [] f fd
  d__law_like : ∃ f fd, mg "_law_like" = some (.ref f) ∧ FunD K "_law_like" "_law_like" (defArgs s__law_like) (defBody s__law_like) (defScope s__law_like) [] [] f fd
  d__law_draw : ∃ f fd, mg "_law_draw" = some (.ref f) ∧ FunD K "_law_draw" "_law_draw" (defArgs s__law_draw) (defBody s__law_draw) (defScope s__law_draw) [] [] f fd
  d__law_of : ∃ f fd, mg "_law_of" = some (.ref f) ∧ FunD K "_law_of" "_law_of" (defArgs s__law_of) (defBody s__law_of) (defScope s__law_of) [] [] f fd
  d__law_error_rows : ∃ f fd, mg "_law_error_rows" = some (.ref f) ∧ FunD K "_law_error_rows" "_law_error_rows" (defArgs s__law_error_rows) (defBody s__law_error_rows) (defScope s__law_error_rows) [] [] f fd
  d__law_error_kinds : ∃ f fd, mg "_law_error_kinds" = some (.ref f) ∧ FunD K "_law_error_kinds" "_law_error_kinds" (defArgs s__law_error_kinds) (defBody s__law_error_kinds) (defScope s__law_error_kinds) [] [] f fd
  d__law_field : ∃ f fd, mg "_law_field" = some (.ref f) ∧ FunD K "_law_field" "_law_field" (defArgs s__law_field) (defBody s__law_field) (defScope s__law_field) [] [] f fd
  m_NothingLeft : mg "NothingLeft" = some (.ref (He.ga K "NothingLeft"))
  m_UnknownReceiver : mg "UnknownReceiver" = some (.ref (He.ga K "UnknownReceiver"))
  m_InvalidText : mg "InvalidText" = some (.ref (He.ga K "InvalidText"))
  m_Overlost : mg "Overlost" = some (.ref (He.ga K "Overlost"))
  m_NoRing : mg "NoRing" = some (.ref (He.ga K "NoRing"))
  m_NoChain : mg "NoChain" = some (.ref (He.ga K "NoChain"))
  m_NotBarred : mg "NotBarred" = some (.ref (He.ga K "NotBarred"))
  m_Beyond : mg "Beyond" = some (.ref (He.ga K "Beyond"))
  m_Unservable : mg "Unservable" = some (.ref (He.ga K "Unservable"))
  m_InvalidKey : mg "InvalidKey" = some (.ref (He.ga K "InvalidKey"))
  m_InvalidFate : mg "InvalidFate" = some (.ref (He.ga K "InvalidFate"))
  m_NotCallable : mg "NotCallable" = some (.ref (He.ga K "NotCallable"))
  m_InvalidCall : mg "InvalidCall" = some (.ref (He.ga K "InvalidCall"))
  m_TooMany : mg "TooMany" = some (.ref (He.ga K "TooMany"))
  m_MixedFields : mg "MixedFields" = some (.ref (He.ga K "MixedFields"))
  m_InvalidSchedule : mg "InvalidSchedule" = some (.ref (He.ga K "InvalidSchedule"))
  m_InvalidNumber : mg "InvalidNumber" = some (.ref (He.ga K "InvalidNumber"))
  m_DuplicateName : mg "DuplicateName" = some (.ref (He.ga K "DuplicateName"))
  m_InvalidName : mg "InvalidName" = some (.ref (He.ga K "InvalidName"))
  m_InvalidRow : mg "InvalidRow" = some (.ref (He.ga K "InvalidRow"))
  m_InvalidLength : mg "InvalidLength" = some (.ref (He.ga K "InvalidLength"))
  m_InvalidPrime : mg "InvalidPrime" = some (.ref (He.ga K "InvalidPrime"))
  m_Missing : mg "Missing" = some (.ref (He.ga K "Missing"))
  m_CallError : mg "CallError" = some (.ref (He.ga K "CallError"))
  ef : ErrFs K mg fc
  isi : IsiF K mg ics ixs its ianc
structure Errs (P : Program) (w : World) (K : PySem.W.Frag) (mg : Str → Option Value) (base : Heap) : Prop where
  mk_NothingLeft : MkErr0 P w K mg base "NothingLeft" "NothingLeft" 1
  mk_UnknownReceiver : MkErr P w K mg base "UnknownReceiver" "name" "UnknownReceiver" 1
  mk_InvalidText : MkErr P w K mg base "InvalidText" "line" "InvalidText" 1
  mk_Overlost : MkErr P w K mg base "Overlost" "name" "Overlost" 1
  mk_NoRing : MkErr P w K mg base "NoRing" "at" "NoRing" 1
  mk_NoChain : MkErr P w K mg base "NoChain" "at" "NoChain" 1
  mk_NotBarred : MkErr P w K mg base "NotBarred" "cost" "NotBarred" 1
  mk_Beyond : MkErr P w K mg base "Beyond" "most" "Beyond" 1
  mk_Unservable : MkErr P w K mg base "Unservable" "name" "Unservable" 1
  mk_InvalidKey : MkErr P w K mg base "InvalidKey" "given" "InvalidKey" 1
  mk_InvalidFate : MkErr P w K mg base "InvalidFate" "given" "InvalidFate" 1
  mk_NotCallable : MkErr P w K mg base "NotCallable" "given" "NotCallable" 1
  mk_InvalidCall : MkErr P w K mg base "InvalidCall" "given" "InvalidCall" 1
  mk_TooMany : MkErr P w K mg base "TooMany" "most" "TooMany" 1
  mk_MixedFields : MkErr0 P w K mg base "MixedFields" "MixedFields" 1
  mk_InvalidSchedule : MkErr P w K mg base "InvalidSchedule" "given" "InvalidSchedule" 1
  mk_InvalidNumber : MkErr P w K mg base "InvalidNumber" "given" "InvalidNumber" 1
  mk_DuplicateName : MkErr P w K mg base "DuplicateName" "name" "DuplicateName" 1
  mk_InvalidName : MkErr P w K mg base "InvalidName" "name" "InvalidName" 1
  mk_InvalidRow : MkErr P w K mg base "InvalidRow" "at" "InvalidRow" 1
  mk_InvalidLength : MkErr P w K mg base "InvalidLength" "given" "InvalidLength" 1
  mk_InvalidPrime : MkErr P w K mg base "InvalidPrime" "given" "InvalidPrime" 1
section
variable {P : Program} {w : World} {K : PySem.W.Frag} {mg : Str → Option Value} {base : Heap}
theorem sc__law_source : FnScope N__law_source P__law_source (defScope s__law_source) := ⟨rfl, rfl, rfl, by decide +kernel, rfl, by decide +kernel, by decide +kernel⟩
theorem ok__law_source (G : GS K mg) (GE : Errs P w K mg base)  : Callee P w K mg base "_law_source" P__law_source [] 1 m__law_source := by
  obtain ⟨f, fd, hm, F⟩ := G.d__law_source
  have E := G.ef
  have nd := (sc__law_source).nd
  have hC : Callee P w K mg base "_law_source" P__law_source [] (0 + 1) (cleanD (defD N__law_source.length b__law_source)) := by
    refine callee hm F sc__law_source (fun _ _ _ _ _ _ us hl => match us, hl with | [_], _ => rfl) (fun q hq => absurd hq List.not_mem_nil) fun cdv A outer s H E B hr => ?_
    have tk := takes_cx (P := P) (w := w) (K := K) (mg := mg) (base := base) (N := N__law_source) (qual := "_law_source") (scope := defScope s__law_source) (f := f) (cdv := cdv) (A := A) (outer := outer) (s := s) (H := H) (E := E)
    unfold b__law_source
    exact (dss_one (ds_ret (de_lst (da_cons (list_ G.f_list (da_cons (de_slice (vv 0) do_none (do_some de_int)) da_nil)) (da_cons de_int (da_cons de_int (da_cons de_int (da_cons de_int da_nil))))))))
  exact hC.adopt
theorem sc__law_like : FnScope N__law_like P__law_like (defScope s__law_like) := ⟨rfl, rfl, rfl, by decide +kernel, rfl, by decide +kernel, by decide +kernel⟩
theorem ok__law_like (G : GS K mg) (GE : Errs P w K mg base)  : ∀ n, Callee P w K mg base "_law_like" P__law_like [] (n + 0) (m__law_like n)
  | 0 => by
    obtain ⟨f, fd, hm, F⟩ := G.d__law_like
    exact callee0 hm F (fun _ _ _ _ _ _ us hl => match us, hl with | [_, _], _ => rfl) (fun q hq => absurd hq List.not_mem_nil)
  | n + 1 => by
    have ih := ok__law_like G GE  n
    obtain ⟨f, fd, hm, F⟩ := G.d__law_like
    have nd := (sc__law_like).nd
    refine callee (N := N__law_like) (m := bLike (mLike n)) hm F sc__law_like (fun _ _ _ _ _ _ us hl => match us, hl with | [_, _], _ => rfl) (fun q hq => absurd hq List.not_mem_nil) fun cdv A outer s H E B hr => ?_
    have tk := takes_cx (P := P) (w := w) (K := K) (mg := mg) (base := base) (N := N__law_like) (qual := "_law_like") (scope := defScope s__law_like) (f := f) (cdv := cdv) (A := A) (outer := outer) (s := s) (H := H) (E := E)
    unfold bLike
    exact (dss_cons (ds_if (dt_val (isi_ G.f_isinstance (da_cons (vv 1) (da_cons (de_tup (da_cons (ty_list G.f_list) (da_cons (ty_tuple G.f_tuple) da_nil))) da_nil))) (by intro _; rfl)) (dss_cons (ds_if (dt_cmp (op_neD (unitsOk hr)) opd_ne (isi_ G.f_isinstance (da_cons (vv 0) (da_cons (ty_list G.f_list) da_nil))) (isi_ G.f_isinstance (da_cons (vv 1) (da_cons (ty_list G.f_list) da_nil))) (nomark _)) (dss_one (ds_ret de_bl)) dss_nil)
  (dss_cons (ds_if (dt_cmp (op_neD (unitsOk hr)) opd_ne (isi_ G.f_isinstance (da_cons (vv 0) (da_cons (ty_tuple G.f_tuple) da_nil))) (isi_ G.f_isinstance (da_cons (vv 1) (da_cons (ty_tuple G.f_tuple) da_nil))) (nomark _)) (dss_one (ds_ret de_bl)) dss_nil)
  (dss_one (ds_ret (de_and (de_cmp (op_eqD (unitsOk hr)) opd_eq (len_ G.f_len (da_cons (vv 0) da_nil)) (len_ G.f_len (da_cons (vv 1) da_nil)) (nomark _)) (de_one (all_ G.f_all (da_cons (de_lc (own := [("_law_one", 2), ("_law_other", 3)]) rfl nd (di_zip (by rfl) G.f_zip (da_cons (vv 0) (da_cons (vv 1) da_nil))) (blkOk_by (by kernel_rfl)) (gd_tup (gsd_cons gd_name (gsd_cons gd_name gsd_nil))) (by decide) (fun _ _ _ _ _ => (pg_tup rfl (pgs_cons (pg_name (i := 2) nd rfl (by first | exact .inl rfl | exact .inr rfl) (by first | exact .inl rfl | exact .inr rfl)) (pgs_cons (pg_name (i := 3) nd rfl (by first | exact .inl rfl | exact .inr rfl) (by first | exact .inl rfl | exact .inr rfl)) pgs_nil)))) (fun _ _ _ _ _ _ => dts_nil) (fun _ _ _ _ _ _ => (de_callN ih (hr.mono (by omega)) takes0 (by rfl) (da_cons (vv 2) (da_cons (vv 3) da_nil))))) da_nil)))))))) dss_nil)
  (dss_cons (ds_if (dw_t (dw_or (dt_cmp op_isN opd_is (vv 1) de_non (nomark _)) (dw_or1 (dt_cmp op_isN opd_is (vv 0) de_non (nomark _))))) (dss_one (ds_ret (de_and (de_cmp op_isN opd_is (vv 1) de_non (nomark _)) (de_one (de_cmp op_isN opd_is (vv 0) de_non (nomark _)))))) dss_nil)
  (dss_cons (ds_if (dw_t (dw_or (dt_cmp (op_neD (unitsOk hr)) opd_ne (isi_ G.f_isinstance (da_cons (vv 0) (da_cons (ty_bool G.f_bool) da_nil))) (isi_ G.f_isinstance (da_cons (vv 1) (da_cons (ty_bool G.f_bool) da_nil))) (nomark _)) (dw_or1 (dt_cmp (op_neD (unitsOk hr)) opd_ne (isi_ G.f_isinstance (da_cons (vv 0) (da_cons (ty_int G.f_int) da_nil))) (isi_ G.f_isinstance (da_cons (vv 1) (da_cons (ty_int G.f_int) da_nil))) (nomark _))))) (dss_one (ds_ret de_bl)) dss_nil)
  (dss_one (ds_ret (de_and (de_cmp (op_eqD (unitsOk hr)) opd_eq (isi_ G.f_isinstance (da_cons (vv 0) (da_cons (ty_str G.f_str) da_nil))) (isi_ G.f_isinstance (da_cons (vv 1) (da_cons (ty_str G.f_str) da_nil))) (nomark _)) (de_one (de_cmp (op_eqD (unitsOk hr)) opd_eq (vv 0) (vv 1) (nomark _)))))))))
theorem sc__law_draw : FnScope N__law_draw P__law_draw (defScope s__law_draw) := ⟨rfl, rfl, rfl, by decide +kernel, rfl, by decide +kernel, by decide +kernel⟩
theorem ok__law_draw (G : GS K mg) (GE : Errs P w K mg base)  : Callee P w K mg base "_law_draw" P__law_draw [] 1 m__law_draw := by
  obtain ⟨f, fd, hm, F⟩ := G.d__law_draw
  have E := G.ef
  have nd := (sc__law_draw).nd
  have hC : Callee P w K mg base "_law_draw" P__law_draw [] (0 + 1) (cleanD (defD N__law_draw.length b__law_draw)) := by
    refine callee hm F sc__law_draw (fun _ _ _ _ _ _ us hl => match us, hl with | [_, _], _ => rfl) (fun q hq => absurd hq List.not_mem_nil) fun cdv A outer s H E B hr => ?_
    have tk := takes_cx (P := P) (w := w) (K := K) (mg := mg) (base := base) (N := N__law_draw) (qual := "_law_draw") (scope := defScope s__law_draw) (f := f) (cdv := cdv) (A := A) (outer := outer) (s := s) (H := H) (E := E)
    unfold b__law_draw bDraw
    exact (dss_cons (ds_if (dw_t (dw_and (dt_cmp (op_eqD (unitsOk hr)) opd_eq (ix_ (vv 0) de_int) de_int (nomark _)) (dw_and1 (dt_cmp op_lt opd_cmp (ix_ (vv 0) de_int) (len_ G.f_len (da_cons (ix_ (vv 0) de_int) da_nil)) (nomark _))))) (dss_cons (ds_set nd rfl (by first | exact .inl rfl | exact .inr rfl) (ix_ (ix_ (vv 0) de_int) (ix_ (vv 0) de_int)))
  (dss_cons (ds_setS (de_op op_addA opd_add (ix_ (vv 0) de_int) de_int) (vv 0) de_int)
  (dss_one (ds_if (dt_cmp op_ge opd_cmp (vv 2) (de_op op_pow opd_pow de_int de_int) (nomark _)) (dss_one (ds_setS (vv 2) (vv 0) de_int)) (dss_one (ds_setS (de_op op_mod opd_mod (int_ G.f_int (da_cons (de_op op_addA opd_add (de_op op_addA opd_add (de_op op_mulA opd_mul (ix_ (vv 0) de_int) de_int) (de_op op_mulA opd_mul (de_op op_mod opd_mod (int_ G.f_int (da_cons (vv 2) da_nil)) de_int) de_int)) de_int) da_nil)) de_int) (vv 0) de_int)))))) dss_nil)
  (dss_cons (ds_if (dt_cmp op_gt opd_cmp (ix_ (vv 0) de_int) de_int (nomark _)) (dss_cons (ds_set nd rfl (by first | exact .inl rfl | exact .inr rfl) (de_op op_mod opd_mod (int_ G.f_int (da_cons (ix_ (vv 0) de_int) da_nil)) (vv 1)))
  (dss_cons (ds_setS (de_op op_fdiv opd_div (ix_ (vv 0) de_int) (vv 1)) (vv 0) de_int)
  (dss_one (ds_ret (vv 3))))) dss_nil)
  (dss_cons (ds_setS (de_op op_addA opd_add (ix_ (vv 0) de_int) de_int) (vv 0) de_int)
  (dss_cons (ds_set nd rfl (by first | exact .inl rfl | exact .inr rfl) (ix_ (vv 0) de_int))
  (dss_cons (ds_setS (de_op op_mod opd_mod (int_ G.f_int (da_cons (de_op op_addA opd_add (de_op op_addA opd_add (de_op op_addA opd_add (de_op op_mulA opd_mul (vv 4) (vv 4)) (de_op op_mulA opd_mul (vv 4) de_int)) (de_op op_mulA opd_mul (ix_ (vv 0) de_int) de_int)) de_int) da_nil)) de_int) (vv 0) de_int)
  (dss_one (ds_ret (de_op op_mod opd_mod (int_ G.f_int (da_cons (de_op op_addA opd_add (de_op op_fdiv opd_div (ix_ (vv 0) de_int) de_int) (de_op op_mulA opd_mul (de_op op_mod opd_mod (int_ G.f_int (da_cons (ix_ (vv 0) de_int) da_nil)) de_int) de_int)) da_nil)) (vv 1)))))))))
  exact hC
theorem sc__law_of : FnScope N__law_of P__law_of (defScope s__law_of) := ⟨rfl, rfl, rfl, by decide +kernel, rfl, by decide +kernel, by decide +kernel⟩
theorem ok__law_of (G : GS K mg) (GE : Errs P w K mg base) (C__law_draw : Callee P w K mg base "_law_draw" P__law_draw [] 1 mDraw) : Callee P w K mg base "_law_of" P__law_of [] 2 m__law_of := by
  obtain ⟨f, fd, hm, F⟩ := G.d__law_of
  have E := G.ef
  have nd := (sc__law_of).nd
  have hC : Callee P w K mg base "_law_of" P__law_of [] (1 + 1) (cleanD (defD N__law_of.length b__law_of)) := by
    refine callee hm F sc__law_of (fun _ _ _ _ _ _ us hl => match us, hl with | [_, _], _ => rfl) (fun q hq => absurd hq List.not_mem_nil) fun cdv A outer s H E B hr => ?_
    have tk := takes_cx (P := P) (w := w) (K := K) (mg := mg) (base := base) (N := N__law_of) (qual := "_law_of") (scope := defScope s__law_of) (f := f) (cdv := cdv) (A := A) (outer := outer) (s := s) (H := H) (E := E)
    unfold b__law_of bOf
    exact (dss_one (ds_ret (ix_ (vv 1) (de_callN C__law_draw (hr.mono (by decide)) tk (by rfl) (da_cons (vv 0) (da_cons (len_ G.f_len (da_cons (vv 1) da_nil)) da_nil))))))
  exact hC
theorem sc__law_error_rows : FnScope N__law_error_rows P__law_error_rows (defScope s__law_error_rows) := ⟨rfl, rfl, rfl, by decide +kernel, rfl, by decide +kernel, by decide +kernel⟩
theorem ok__law_error_rows (G : GS K mg) (GE : Errs P w K mg base)  : Callee P w K mg base "_law_error_rows" P__law_error_rows [] 3 m__law_error_rows := by
  obtain ⟨f, fd, hm, F⟩ := G.d__law_error_rows
  have E := G.ef
  have nd := (sc__law_error_rows).nd
  have hC : Callee P w K mg base "_law_error_rows" P__law_error_rows [] (2 + 1) (cleanD (defD N__law_error_rows.length b__law_error_rows)) := by
    refine callee hm F sc__law_error_rows (fun _ _ _ _ _ _ us hl => match us, hl with | [_], _ => rfl) (fun q hq => absurd hq List.not_mem_nil) fun cdv A outer s H E B hr => ?_
    have tk := takes_cx (P := P) (w := w) (K := K) (mg := mg) (base := base) (N := N__law_error_rows) (qual := "_law_error_rows") (scope := defScope s__law_error_rows) (f := f) (cdv := cdv) (A := A) (outer := outer) (s := s) (H := H) (E := E)
    unfold b__law_error_rows
    exact (dss_cons (ds_set nd rfl (by first | exact .inl rfl | exact .inr rfl) (de_lst (da_cons (de_tup (da_cons (de_err1 GE.mk_InvalidPrime (hr.mono (by decide)) rfl (da_cons (vv 0) da_nil)) (da_cons de_str da_nil))) (da_cons (de_tup (da_cons (de_err1 GE.mk_InvalidLength (hr.mono (by decide)) rfl (da_cons (vv 0) da_nil)) (da_cons de_str da_nil))) (da_cons (de_tup (da_cons (de_err1 GE.mk_InvalidRow (hr.mono (by decide)) rfl (da_cons (vv 0) da_nil)) (da_cons de_str da_nil))) da_nil)))))
  (dss_cons (ds_set nd rfl (by first | exact .inl rfl | exact .inr rfl) (de_op op_addA opd_add (vv 1) (de_lst (da_cons (de_tup (da_cons (de_err1 GE.mk_InvalidName (hr.mono (by decide)) rfl (da_cons (vv 0) da_nil)) (da_cons de_str da_nil))) (da_cons (de_tup (da_cons (de_err1 GE.mk_DuplicateName (hr.mono (by decide)) rfl (da_cons (vv 0) da_nil)) (da_cons de_str da_nil))) da_nil)))))
  (dss_cons (ds_set nd rfl (by first | exact .inl rfl | exact .inr rfl) (de_op op_addA opd_add (vv 1) (de_lst (da_cons (de_tup (da_cons (de_err1 GE.mk_InvalidNumber (hr.mono (by decide)) rfl (da_cons (vv 0) da_nil)) (da_cons de_str da_nil))) (da_cons (de_tup (da_cons (de_err1 GE.mk_InvalidSchedule (hr.mono (by decide)) rfl (da_cons (vv 0) da_nil)) (da_cons de_str da_nil))) da_nil)))))
  (dss_cons (ds_set nd rfl (by first | exact .inl rfl | exact .inr rfl) (de_op op_addA opd_add (vv 1) (de_lst (da_cons (de_tup (da_cons (de_err0 GE.mk_MixedFields (hr.mono (by decide)) rfl) (da_cons de_str da_nil))) (da_cons (de_tup (da_cons (de_err1 GE.mk_TooMany (hr.mono (by decide)) rfl (da_cons (vv 0) da_nil)) (da_cons de_str da_nil))) (da_cons (de_tup (da_cons (de_err1 GE.mk_InvalidCall (hr.mono (by decide)) rfl (da_cons (vv 0) da_nil)) (da_cons de_str da_nil))) da_nil))))))
  (dss_cons (ds_set nd rfl (by first | exact .inl rfl | exact .inr rfl) (de_op op_addA opd_add (vv 1) (de_lst (da_cons (de_tup (da_cons (de_err1 GE.mk_NotCallable (hr.mono (by decide)) rfl (da_cons (vv 0) da_nil)) (da_cons de_str da_nil))) (da_cons (de_tup (da_cons (de_err1 GE.mk_InvalidFate (hr.mono (by decide)) rfl (da_cons (vv 0) da_nil)) (da_cons de_str da_nil))) (da_cons (de_tup (da_cons (de_err1 GE.mk_InvalidKey (hr.mono (by decide)) rfl (da_cons (vv 0) da_nil)) (da_cons de_str da_nil))) da_nil))))))
  (dss_cons (ds_set nd rfl (by first | exact .inl rfl | exact .inr rfl) (de_op op_addA opd_add (vv 1) (de_lst (da_cons (de_tup (da_cons (de_err1 GE.mk_Unservable (hr.mono (by decide)) rfl (da_cons (vv 0) da_nil)) (da_cons de_str da_nil))) (da_cons (de_tup (da_cons (de_err1 GE.mk_Beyond (hr.mono (by decide)) rfl (da_cons (vv 0) da_nil)) (da_cons de_str da_nil))) (da_cons (de_tup (da_cons (de_err1 GE.mk_NotBarred (hr.mono (by decide)) rfl (da_cons (vv 0) da_nil)) (da_cons de_str da_nil))) da_nil))))))
  (dss_cons (ds_set nd rfl (by first | exact .inl rfl | exact .inr rfl) (de_op op_addA opd_add (vv 1) (de_lst (da_cons (de_tup (da_cons (de_err1 GE.mk_NoChain (hr.mono (by decide)) rfl (da_cons (vv 0) da_nil)) (da_cons de_str da_nil))) (da_cons (de_tup (da_cons (de_err1 GE.mk_NoRing (hr.mono (by decide)) rfl (da_cons (vv 0) da_nil)) (da_cons de_str da_nil))) (da_cons (de_tup (da_cons (de_err1 GE.mk_Overlost (hr.mono (by decide)) rfl (da_cons (vv 0) da_nil)) (da_cons de_str da_nil))) da_nil))))))
  (dss_one (ds_ret (de_op op_addA opd_add (vv 1) (de_lst (da_cons (de_tup (da_cons (de_err1 GE.mk_InvalidText (hr.mono (by decide)) rfl (da_cons (vv 0) da_nil)) (da_cons de_str da_nil))) (da_cons (de_tup (da_cons (de_err1 GE.mk_UnknownReceiver (hr.mono (by decide)) rfl (da_cons (vv 0) da_nil)) (da_cons de_str da_nil))) (da_cons (de_tup (da_cons (de_err0 GE.mk_NothingLeft (hr.mono (by decide)) rfl) (da_cons de_str da_nil))) da_nil))))))))))))))
  exact hC
theorem sc__law_error_kinds : FnScope N__law_error_kinds P__law_error_kinds (defScope s__law_error_kinds) := ⟨rfl, rfl, rfl, by decide +kernel, rfl, by decide +kernel, by decide +kernel⟩
theorem ok__law_error_kinds (G : GS K mg) (GE : Errs P w K mg base)  : Callee P w K mg base "_law_error_kinds" P__law_error_kinds [] 1 m__law_error_kinds := by
  obtain ⟨f, fd, hm, F⟩ := G.d__law_error_kinds
  have E := G.ef
  have nd := (sc__law_error_kinds).nd
  have hC : Callee P w K mg base "_law_error_kinds" P__law_error_kinds [] (0 + 1) (cleanD (defD N__law_error_kinds.length b__law_error_kinds)) := by
    refine callee hm F sc__law_error_kinds (fun _ _ _ _ _ _ us hl => match us, hl with | [_], _ => rfl) (fun q hq => absurd hq List.not_mem_nil) fun cdv A outer s H E B hr => ?_
    have tk := takes_cx (P := P) (w := w) (K := K) (mg := mg) (base := base) (N := N__law_error_kinds) (qual := "_law_error_kinds") (scope := defScope s__law_error_kinds) (f := f) (cdv := cdv) (A := A) (outer := outer) (s := s) (H := H) (E := E)
    unfold b__law_error_kinds
    exact (dss_cons (ds_set nd rfl (by first | exact .inl rfl | exact .inr rfl) (de_lst (da_cons (de_tup (da_cons de_str (da_cons (isiX_ G.isi G.f_isinstance (da_cons (vv 0) (da_cons (g_cls G.m_InvalidPrime) da_nil))) da_nil))) (da_cons (de_tup (da_cons de_str (da_cons (isiX_ G.isi G.f_isinstance (da_cons (vv 0) (da_cons (g_cls G.m_InvalidLength) da_nil))) da_nil))) da_nil))))
  (dss_cons (ds_set nd rfl (by first | exact .inl rfl | exact .inr rfl) (de_op op_addA opd_add (vv 1) (de_lst (da_cons (de_tup (da_cons de_str (da_cons (isiX_ G.isi G.f_isinstance (da_cons (vv 0) (da_cons (g_cls G.m_InvalidRow) da_nil))) da_nil))) (da_cons (de_tup (da_cons de_str (da_cons (isiX_ G.isi G.f_isinstance (da_cons (vv 0) (da_cons (g_cls G.m_InvalidName) da_nil))) da_nil))) da_nil)))))
  (dss_cons (ds_set nd rfl (by first | exact .inl rfl | exact .inr rfl) (de_op op_addA opd_add (vv 1) (de_lst (da_cons (de_tup (da_cons de_str (da_cons (isiX_ G.isi G.f_isinstance (da_cons (vv 0) (da_cons (g_cls G.m_DuplicateName) da_nil))) da_nil))) (da_cons (de_tup (da_cons de_str (da_cons (isiX_ G.isi G.f_isinstance (da_cons (vv 0) (da_cons (g_cls G.m_InvalidNumber) da_nil))) da_nil))) da_nil)))))
  (dss_cons (ds_set nd rfl (by first | exact .inl rfl | exact .inr rfl) (de_op op_addA opd_add (vv 1) (de_lst (da_cons (de_tup (da_cons de_str (da_cons (isiX_ G.isi G.f_isinstance (da_cons (vv 0) (da_cons (g_cls G.m_InvalidSchedule) da_nil))) da_nil))) (da_cons (de_tup (da_cons de_str (da_cons (isiX_ G.isi G.f_isinstance (da_cons (vv 0) (da_cons (g_cls G.m_MixedFields) da_nil))) da_nil))) da_nil)))))
  (dss_cons (ds_set nd rfl (by first | exact .inl rfl | exact .inr rfl) (de_op op_addA opd_add (vv 1) (de_lst (da_cons (de_tup (da_cons de_str (da_cons (isiX_ G.isi G.f_isinstance (da_cons (vv 0) (da_cons (g_cls G.m_TooMany) da_nil))) da_nil))) (da_cons (de_tup (da_cons de_str (da_cons (isiX_ G.isi G.f_isinstance (da_cons (vv 0) (da_cons (g_cls G.m_InvalidCall) da_nil))) da_nil))) da_nil)))))
  (dss_cons (ds_set nd rfl (by first | exact .inl rfl | exact .inr rfl) (de_op op_addA opd_add (vv 1) (de_lst (da_cons (de_tup (da_cons de_str (da_cons (isiX_ G.isi G.f_isinstance (da_cons (vv 0) (da_cons (g_cls G.m_NotCallable) da_nil))) da_nil))) (da_cons (de_tup (da_cons de_str (da_cons (isiX_ G.isi G.f_isinstance (da_cons (vv 0) (da_cons (g_cls G.m_InvalidFate) da_nil))) da_nil))) da_nil)))))
  (dss_cons (ds_set nd rfl (by first | exact .inl rfl | exact .inr rfl) (de_op op_addA opd_add (vv 1) (de_lst (da_cons (de_tup (da_cons de_str (da_cons (isiX_ G.isi G.f_isinstance (da_cons (vv 0) (da_cons (g_cls G.m_InvalidKey) da_nil))) da_nil))) (da_cons (de_tup (da_cons de_str (da_cons (isiX_ G.isi G.f_isinstance (da_cons (vv 0) (da_cons (g_cls G.m_Unservable) da_nil))) da_nil))) da_nil)))))
  (dss_cons (ds_set nd rfl (by first | exact .inl rfl | exact .inr rfl) (de_op op_addA opd_add (vv 1) (de_lst (da_cons (de_tup (da_cons de_str (da_cons (isiX_ G.isi G.f_isinstance (da_cons (vv 0) (da_cons (g_cls G.m_Beyond) da_nil))) da_nil))) (da_cons (de_tup (da_cons de_str (da_cons (isiX_ G.isi G.f_isinstance (da_cons (vv 0) (da_cons (g_cls G.m_NotBarred) da_nil))) da_nil))) da_nil)))))
  (dss_cons (ds_set nd rfl (by first | exact .inl rfl | exact .inr rfl) (de_op op_addA opd_add (vv 1) (de_lst (da_cons (de_tup (da_cons de_str (da_cons (isiX_ G.isi G.f_isinstance (da_cons (vv 0) (da_cons (g_cls G.m_NoChain) da_nil))) da_nil))) (da_cons (de_tup (da_cons de_str (da_cons (isiX_ G.isi G.f_isinstance (da_cons (vv 0) (da_cons (g_cls G.m_NoRing) da_nil))) da_nil))) da_nil)))))
  (dss_cons (ds_set nd rfl (by first | exact .inl rfl | exact .inr rfl) (de_op op_addA opd_add (vv 1) (de_lst (da_cons (de_tup (da_cons de_str (da_cons (isiX_ G.isi G.f_isinstance (da_cons (vv 0) (da_cons (g_cls G.m_Overlost) da_nil))) da_nil))) (da_cons (de_tup (da_cons de_str (da_cons (isiX_ G.isi G.f_isinstance (da_cons (vv 0) (da_cons (g_cls G.m_InvalidText) da_nil))) da_nil))) da_nil)))))
  (dss_cons (ds_set nd rfl (by first | exact .inl rfl | exact .inr rfl) (de_op op_addA opd_add (vv 1) (de_lst (da_cons (de_tup (da_cons de_str (da_cons (isiX_ G.isi G.f_isinstance (da_cons (vv 0) (da_cons (g_cls G.m_UnknownReceiver) da_nil))) da_nil))) (da_cons (de_tup (da_cons de_str (da_cons (isiX_ G.isi G.f_isinstance (da_cons (vv 0) (da_cons (g_cls G.m_NothingLeft) da_nil))) da_nil))) da_nil)))))
  (dss_one (ds_ret (de_lc (own := [("_law_name", 2), ("_law_is_one", 3)]) rfl nd (di_seq (vv 1)) (blkOk_by (by kernel_rfl)) (gd_tup (gsd_cons gd_name (gsd_cons gd_name gsd_nil))) (by decide) (fun _ _ _ _ _ => (pg_tup rfl (pgs_cons (pg_name (i := 2) nd rfl (by first | exact .inl rfl | exact .inr rfl) (by first | exact .inl rfl | exact .inr rfl)) (pgs_cons (pg_name (i := 3) nd rfl (by first | exact .inl rfl | exact .inr rfl) (by first | exact .inl rfl | exact .inr rfl)) pgs_nil)))) (fun _ _ _ _ _ _ => (dts_one (dt_val (vv 3) (by intro _; rfl)))) (fun _ _ _ _ _ _ => (vv 2))))))))))))))))
  exact hC
theorem sc__law_field : FnScope N__law_field P__law_field (defScope s__law_field) := ⟨rfl, rfl, rfl, by decide +kernel, rfl, by decide +kernel, by decide +kernel⟩
theorem cf_ok (G : GS K mg) (E : ErrFs K mg fc) : CalleeF P w K mg base "_law_field" P__law_field 1 (mField fc) := by
  obtain ⟨f, fd, hm, F⟩ := G.d__law_field
  have nd := (sc__law_field).nd
  refine ⟨f, fd, hm, F.kp, F.bindsN (fun _ _ _ _ _ _ us hl => match us, hl with | [_], _ => rfl), def_okF (N := N__law_field) (m := bField fc) F sc__law_field (k := 0) fun cdv A outer s H B hr => ?_⟩
  unfold bField
  exact (dss_cons (ds_if (dt_cmp op_in_seq (opd_inS false) (de_attr (vv 0) E.code) (de_tup (da_cons de_str (da_cons de_str (da_cons de_str (da_cons de_str (da_cons de_str (da_cons de_str (da_cons de_str (da_cons de_str da_nil))))))))) (by rfl)) (dss_one (ds_ret (de_tup (da_cons (de_attr (vv 0) E.given) da_nil)))) dss_nil)
  (dss_cons (ds_if (dt_cmp op_in_seq (opd_inS false) (de_attr (vv 0) E.code) (de_tup (da_cons de_str (da_cons de_str (da_cons de_str da_nil)))) (by rfl)) (dss_one (ds_ret (de_tup (da_cons (de_attr (vv 0) E.at_) da_nil)))) dss_nil)
  (dss_cons (ds_if (dt_cmp op_in_seq (opd_inS false) (de_attr (vv 0) E.code) (de_tup (da_cons de_str (da_cons de_str (da_cons de_str (da_cons de_str (da_cons de_str da_nil)))))) (by rfl)) (dss_one (ds_ret (de_tup (da_cons (de_attr (vv 0) E.name) da_nil)))) dss_nil)
  (dss_cons (ds_if (dt_cmp op_in_seq (opd_inS false) (de_attr (vv 0) E.code) (de_tup (da_cons de_str (da_cons de_str da_nil))) (by rfl)) (dss_one (ds_ret (de_tup (da_cons (de_attr (vv 0) E.most) da_nil)))) dss_nil)
  (dss_cons (ds_if (dt_cmp (op_eqD (unitsF hr)) opd_eq (de_attr (vv 0) E.code) de_str (nomark _)) (dss_one (ds_ret (de_tup (da_cons (de_attr (vv 0) E.cost) da_nil)))) dss_nil)
  (dss_one (ds_ret (de_if (dt_cmp (op_eqD (unitsF hr)) opd_eq (de_attr (vv 0) E.code) de_str (nomark _)) (de_tup (da_cons (de_attr (vv 0) E.line) da_nil)) (de_tup da_nil)))))))))
theorem sc_law : FnScope N_law P_law (defScope s_law) := ⟨rfl, rfl, rfl, by decide +kernel, rfl, by decide +kernel, by decide +kernel⟩
abbrev JL_law : Nat := 0
theorem ok_all (G : GS K mg) (GE : Errs P w K mg base) {fd : FuncData} (F : FunD K "law" "law" (defArgs s_law) (defBody s_law) (defScope s_law) [] [] (He.fAd K ("law", none)) fd) : FnOk P w K mg base (L2.CX P w) 13 (He.fAd K ("law", none)) fd P_law (spD ⟨K, mg⟩ 1 m_law) := by
  have C__law_source := ok__law_source (P := P) (w := w) (base := base) G GE 
  have C__law_like := ok__law_like (P := P) (w := w) (base := base) G GE  12
  have C__law_draw := ok__law_draw (P := P) (w := w) (base := base) G GE 
  have C__law_of := ok__law_of (P := P) (w := w) (base := base) G GE C__law_draw
  have C__law_error_rows := ok__law_error_rows (P := P) (w := w) (base := base) G GE 
  have C__law_error_kinds := ok__law_error_kinds (P := P) (w := w) (base := base) G GE 
  have E := G.ef
  have CF := cf_ok (P := P) (w := w) (base := base) G E
  have nd := (sc_law).nd
  refine def_okC F sc_law (k := 12) fun A outer s H E0 B hr => ?_
  have tk := takes_cx (P := P) (w := w) (K := K) (mg := mg) (base := base) (N := N_law) (qual := "law") (scope := defScope s_law) (f := He.fAd K ("law", none)) (cdv := .ref (He.codeOf K ("law", none))) (A := A) (outer := outer) (s := s) (H := H) (E := E0)
  unfold b_law
  exact (dss_cons (ds_set nd rfl (by first | exact .inl rfl | exact .inr rfl) (de_callN C__law_source (hr.mono (by decide)) tk (by rfl) (da_cons (vv 0) da_nil)))
  (dss_cons (ds_for PassesOwn.leaving rfl (di_range1 (by rfl) G.f_range (da_cons de_int da_nil)) (pg_name (i := 2) nd rfl (by first | exact .inl rfl | exact .inr rfl) (by first | exact .inl rfl | exact .inr rfl)) gd_name (dss_cons (ds_set nd rfl (by first | exact .inl rfl | exact .inr rfl) (de_callN C__law_of (hr.mono (by decide)) tk (by rfl) (da_cons (vv 1) (da_cons (de_lst (da_cons de_non (da_cons de_int (da_cons de_int (da_cons de_str (da_cons de_str (da_cons (de_tup (da_cons de_int (da_cons de_int da_nil))) (da_cons (de_lst (da_cons de_int da_nil)) (da_cons de_bl (da_cons (de_callN C__law_draw (hr.mono (by decide)) tk (by rfl) (da_cons (vv 1) (da_cons (de_op op_pow opd_pow de_int de_int) da_nil))) da_nil)))))))))) da_nil))))
  (dss_one (ds_for PassesOwn.leaving rfl (di_seq (de_callN C__law_error_rows (hr.mono (by decide)) tk (by rfl) (da_cons (vv 3) da_nil))) (pg_tup rfl (pgs_cons (pg_name (i := 4) nd rfl (by first | exact .inl rfl | exact .inr rfl) (by first | exact .inl rfl | exact .inr rfl)) (pgs_cons (pg_name (i := 5) nd rfl (by first | exact .inl rfl | exact .inr rfl) (by first | exact .inl rfl | exact .inr rfl)) pgs_nil))) (gd_tup (gsd_cons gd_name (gsd_cons gd_name gsd_nil))) (dss_cons (ds_set nd rfl (by first | exact .inl rfl | exact .inr rfl) (de_if (dt_cmp op_in_seq (opd_inS false) (vv 5) (de_tup (da_cons de_str (da_cons de_str da_nil))) (by rfl)) (de_tup da_nil) (de_tup (da_cons (vv 3) da_nil))))
  (dss_cons (ds_if (dw_t (dw_or (dt_cmp (op_neD (unitsOk hr)) opd_ne (de_attr (vv 4) E.code) (vv 5) (nomark _)) (dw_or (dt_not (dt_val (de_callN C__law_like (hr.mono (by decide)) tk (by rfl) (da_cons (de_callF CF (RoomF.of (hr.mono (by decide))) rfl (da_cons (vv 4) da_nil)) (da_cons (vv 6) da_nil))) (by intro _; rfl))) (dw_or1 (dt_cmp (op_neD (unitsOk hr)) opd_ne (de_callN C__law_error_kinds (hr.mono (by decide)) tk (by rfl) (da_cons (vv 4) da_nil)) (de_lst (da_cons (vv 5) da_nil)) (nomark _)))))) (dss_one (ds_ret de_bl)) dss_nil)
  (dss_cons (ds_set nd rfl (by first | exact .inl rfl | exact .inr rfl) (de_lst (da_cons (isiX_ G.isi G.f_isinstance (da_cons (vv 4) (da_cons (g_cls G.m_CallError) da_nil))) (da_cons (isiX_ G.isi G.f_isinstance (da_cons (vv 4) (da_cons (ty_any G.f_ValueError (by kernel_rfl)) da_nil))) (da_cons (isiX_ G.isi G.f_isinstance (da_cons (vv 4) (da_cons (g_cls G.m_Missing) da_nil))) da_nil)))))
  (dss_cons (ds_set nd rfl (by first | exact .inl rfl | exact .inr rfl) (de_op op_addA opd_add (vv 7) (de_lst (da_cons (isiX_ G.isi G.f_isinstance (da_cons (vv 4) (da_cons (ty_any G.f_LookupError (by kernel_rfl)) da_nil))) (da_cons (isiX_ G.isi G.f_isinstance (da_cons (vv 4) (da_cons (ty_any G.f_IndexError (by kernel_rfl)) da_nil))) da_nil)))))
  (dss_cons (ds_if (dt_cmp (op_eqD (unitsOk hr)) opd_eq (vv 5) de_str (nomark _)) (dss_one (ds_set nd rfl (by first | exact .inl rfl | exact .inr rfl) (de_lst (da_cons de_bl (da_cons de_bl (da_cons de_bl (da_cons de_bl (da_cons de_bl da_nil)))))))) (dss_one (ds_if (dt_cmp (op_eqD (unitsOk hr)) opd_eq (vv 5) de_str (nomark _)) (dss_one (ds_set nd rfl (by first | exact .inl rfl | exact .inr rfl) (de_lst (da_cons de_bl (da_cons de_bl (da_cons de_bl (da_cons de_bl (da_cons de_bl da_nil)))))))) (dss_one (ds_set nd rfl (by first | exact .inl rfl | exact .inr rfl) (de_lst (da_cons de_bl (da_cons de_bl (da_cons de_bl (da_cons de_bl (da_cons de_bl da_nil)))))))))))
  (dss_one (ds_if (dt_cmp (op_neD (unitsOk hr)) opd_ne (vv 7) (vv 8) (nomark _)) (dss_one (ds_ret de_bl)) dss_nil)))))))))))
  (dss_cons (ds_set nd rfl (by first | exact .inl rfl | exact .inr rfl) (de_lst (da_cons (de_attr (de_err1 GE.mk_InvalidRow (hr.mono (by decide)) rfl (da_cons de_int da_nil)) E.at_) (da_cons (de_attr (de_err1 GE.mk_Beyond (hr.mono (by decide)) rfl (da_cons de_int da_nil)) E.most) (da_cons (de_attr (de_err1 GE.mk_NotBarred (hr.mono (by decide)) rfl (da_cons de_int da_nil)) E.cost) (da_cons (de_attr (de_err1 GE.mk_InvalidText (hr.mono (by decide)) rfl (da_cons de_int da_nil)) E.line) da_nil))))))
  (dss_cons (ds_set nd rfl (by first | exact .inl rfl | exact .inr rfl) (de_op op_addA opd_add (vv 9) (de_lst (da_cons (de_attr (de_err1 GE.mk_NotCallable (hr.mono (by decide)) rfl (da_cons (de_tup (da_cons de_int da_nil)) da_nil)) E.given) (da_cons (de_attr (de_err1 GE.mk_UnknownReceiver (hr.mono (by decide)) rfl (da_cons de_str da_nil)) E.name) (da_cons (de_attr (de_err1 GE.mk_NoRing (hr.mono (by decide)) rfl (da_cons de_int da_nil)) E.at_) da_nil))))))
  (dss_one (ds_ret (de_callN C__law_like (hr.mono (by decide)) tk (by rfl) (da_cons (vv 9) (da_cons (de_lst (da_cons de_int (da_cons de_int (da_cons de_int (da_cons de_int (da_cons (de_tup (da_cons de_int da_nil)) (da_cons de_str (da_cons de_int da_nil)))))))) da_nil)))))))))
end
/-! ### the head -/
def dd__law_source : He.DefD := ⟨("_law_source", none), "_law_source", "_law_source", defArgs s__law_source, defBody s__law_source, defScope s__law_source, [], []⟩
def dd__law_like : He.DefD := ⟨("_law_like", none), "_law_like", "_law_like", defArgs s__law_like, defBody s__law_like, defScope s__law_like, [], []⟩
def dd__law_draw : He.DefD := ⟨("_law_draw", none), "_law_draw", "_law_draw", defArgs s__law_draw, defBody s__law_draw, defScope s__law_draw, [], []⟩
def dd__law_of : He.DefD := ⟨("_law_of", none), "_law_of", "_law_of", defArgs s__law_of, defBody s__law_of, defScope s__law_of, [], []⟩
def dd__law_error_rows : He.DefD := ⟨("_law_error_rows", none), "_law_error_rows", "_law_error_rows", defArgs s__law_error_rows, defBody s__law_error_rows, defScope s__law_error_rows, [], []⟩
def dd__law_error_kinds : He.DefD := ⟨("_law_error_kinds", none), "_law_error_kinds", "_law_error_kinds", defArgs s__law_error_kinds, defBody s__law_error_kinds, defScope s__law_error_kinds, [], []⟩
def dd__law_field : He.DefD := ⟨("_law_field", none), "_law_field", "_law_field", defArgs s__law_field, defBody s__law_field, defScope s__law_field, [], []⟩
def dd_law : He.DefD := ⟨("law", none), "law", "law", defArgs s_law, defBody s_law, defScope s_law, [], []⟩
def hfn0 : List He.DefD := [dd__law_source, dd__law_like, dd__law_draw, dd__law_of, dd__law_error_rows, dd__law_error_kinds, dd__law_field, dd_law]
abbrev hfn : List He.DefD := hfn0
def hfa0 : List He.Fa := [.glo "_law_source", .glo "_law_like", .glo "_law_draw", .glo "_law_of", .glo "_law_error_rows", .glo "_law_error_kinds", .glo "_law_field", .glo "law", .glo "NothingLeft", .glo "UnknownReceiver", .glo "InvalidText", .glo "Overlost"]
def hfa1 : List He.Fa := [.glo "NoRing", .glo "NoChain", .glo "NotBarred", .glo "Beyond", .glo "Unservable", .glo "InvalidKey", .glo "InvalidFate", .glo "NotCallable", .glo "InvalidCall", .glo "TooMany", .glo "MixedFields", .glo "InvalidSchedule"]
def hfa2 : List He.Fa := [.glo "InvalidNumber", .glo "DuplicateName", .glo "InvalidName", .glo "InvalidRow", .glo "InvalidLength", .glo "InvalidPrime", .glo "Missing", .glo "CallError", .free "IndexError", .free "LookupError", .free "ValueError", .free "all"]
def hfa3 : List He.Fa := [.free "bool", .free "int", .free "isinstance", .free "len", .free "list", .free "range", .free "str", .free "super", .free "tuple", .free "zip"]
abbrev hfa : List He.Fa := hfa0 ++ hfa1 ++ hfa2 ++ hfa3
def cd_NothingLeft : ClD := ⟨"NothingLeft", "__init__", "__init__", "NothingLeft.__init__", defArgs i_NothingLeft, defBody i_NothingLeft, defScope i_NothingLeft⟩
def cd_UnknownReceiver : ClD := ⟨"UnknownReceiver", "__init__", "__init__", "UnknownReceiver.__init__", defArgs i_UnknownReceiver, defBody i_UnknownReceiver, defScope i_UnknownReceiver⟩
def cd_InvalidText : ClD := ⟨"InvalidText", "__init__", "__init__", "InvalidText.__init__", defArgs i_InvalidText, defBody i_InvalidText, defScope i_InvalidText⟩
def cd_Overlost : ClD := ⟨"Overlost", "__init__", "__init__", "Overlost.__init__", defArgs i_Overlost, defBody i_Overlost, defScope i_Overlost⟩
def cd_NoRing : ClD := ⟨"NoRing", "__init__", "__init__", "NoRing.__init__", defArgs i_NoRing, defBody i_NoRing, defScope i_NoRing⟩
def cd_NoChain : ClD := ⟨"NoChain", "__init__", "__init__", "NoChain.__init__", defArgs i_NoChain, defBody i_NoChain, defScope i_NoChain⟩
def cd_NotBarred : ClD := ⟨"NotBarred", "__init__", "__init__", "NotBarred.__init__", defArgs i_NotBarred, defBody i_NotBarred, defScope i_NotBarred⟩
def cd_Beyond : ClD := ⟨"Beyond", "__init__", "__init__", "Beyond.__init__", defArgs i_Beyond, defBody i_Beyond, defScope i_Beyond⟩
def cd_Unservable : ClD := ⟨"Unservable", "__init__", "__init__", "Unservable.__init__", defArgs i_Unservable, defBody i_Unservable, defScope i_Unservable⟩
def cd_InvalidKey : ClD := ⟨"InvalidKey", "__init__", "__init__", "InvalidKey.__init__", defArgs i_InvalidKey, defBody i_InvalidKey, defScope i_InvalidKey⟩
def cd_InvalidFate : ClD := ⟨"InvalidFate", "__init__", "__init__", "InvalidFate.__init__", defArgs i_InvalidFate, defBody i_InvalidFate, defScope i_InvalidFate⟩
def cd_NotCallable : ClD := ⟨"NotCallable", "__init__", "__init__", "NotCallable.__init__", defArgs i_NotCallable, defBody i_NotCallable, defScope i_NotCallable⟩
def cd_InvalidCall : ClD := ⟨"InvalidCall", "__init__", "__init__", "InvalidCall.__init__", defArgs i_InvalidCall, defBody i_InvalidCall, defScope i_InvalidCall⟩
def cd_TooMany : ClD := ⟨"TooMany", "__init__", "__init__", "TooMany.__init__", defArgs i_TooMany, defBody i_TooMany, defScope i_TooMany⟩
def cd_MixedFields : ClD := ⟨"MixedFields", "__init__", "__init__", "MixedFields.__init__", defArgs i_MixedFields, defBody i_MixedFields, defScope i_MixedFields⟩
def cd_InvalidSchedule : ClD := ⟨"InvalidSchedule", "__init__", "__init__", "InvalidSchedule.__init__", defArgs i_InvalidSchedule, defBody i_InvalidSchedule, defScope i_InvalidSchedule⟩
def cd_InvalidNumber : ClD := ⟨"InvalidNumber", "__init__", "__init__", "InvalidNumber.__init__", defArgs i_InvalidNumber, defBody i_InvalidNumber, defScope i_InvalidNumber⟩
def cd_DuplicateName : ClD := ⟨"DuplicateName", "__init__", "__init__", "DuplicateName.__init__", defArgs i_DuplicateName, defBody i_DuplicateName, defScope i_DuplicateName⟩
def cd_InvalidName : ClD := ⟨"InvalidName", "__init__", "__init__", "InvalidName.__init__", defArgs i_InvalidName, defBody i_InvalidName, defScope i_InvalidName⟩
def cd_InvalidRow : ClD := ⟨"InvalidRow", "__init__", "__init__", "InvalidRow.__init__", defArgs i_InvalidRow, defBody i_InvalidRow, defScope i_InvalidRow⟩
def cd_InvalidLength : ClD := ⟨"InvalidLength", "__init__", "__init__", "InvalidLength.__init__", defArgs i_InvalidLength, defBody i_InvalidLength, defScope i_InvalidLength⟩
def cd_InvalidPrime : ClD := ⟨"InvalidPrime", "__init__", "__init__", "InvalidPrime.__init__", defArgs i_InvalidPrime, defBody i_InvalidPrime, defScope i_InvalidPrime⟩
def hfc0 : List ClD := [cd_NothingLeft, cd_UnknownReceiver, cd_InvalidText, cd_Overlost, cd_NoRing, cd_NoChain, cd_NotBarred, cd_Beyond, cd_Unservable, cd_InvalidKey, cd_InvalidFate, cd_NotCallable]
def hfc1 : List ClD := [cd_InvalidCall, cd_TooMany, cd_MixedFields, cd_InvalidSchedule, cd_InvalidNumber, cd_DuplicateName, cd_InvalidName, cd_InvalidRow, cd_InvalidLength, cd_InvalidPrime]
abbrev hfc : List ClD := hfc0 ++ hfc1
def hbe : List (List (PySem.W.Frag → Bool)) := [errBs .ie "NothingLeft" "code", errBs .le "UnknownReceiver" "name", errBs .ve "InvalidText" "line", errBs .ve "Overlost" "name", errBs .ve "NoRing" "at", errBs .ve "NoChain" "at", errBs .ve "NotBarred" "cost", errBs .ve "Beyond" "most", errBs .ve "Unservable" "name", errBs .ve "InvalidKey" "given", errBs .ve "InvalidFate" "given", errBs .ve "NotCallable" "given", errBs .ve "InvalidCall" "given", errBs .ve "TooMany" "most", errBs .ve "MixedFields" "code", errBs .ve "InvalidSchedule" "given", errBs .ve "InvalidNumber" "given", errBs .ve "DuplicateName" "name", errBs .ve "InvalidName" "name", errBs .ve "InvalidRow" "at", errBs .ve "InvalidLength" "given", errBs .ve "InvalidPrime" "given"]
def hbx : List (PySem.W.Frag → Bool) := [isiB ics ixs its ianc]
abbrev hbs : List (PySem.W.Frag → Bool) := hbe.flatten ++ hbx
def htf : List He.Defn := []
def hnm0 : List PySem.Str := ["CallError", "Missing", "InvalidPrime", "InvalidLength", "InvalidRow", "InvalidName", "DuplicateName", "InvalidNumber", "InvalidSchedule", "MixedFields", "TooMany", "InvalidCall"]
def hnm1 : List PySem.Str := ["NotCallable", "InvalidFate", "InvalidKey", "Unservable", "Beyond", "NotBarred", "NoChain", "NoRing", "Overlost", "InvalidText", "UnknownReceiver", "NothingLeft"]
def hnm2 : List PySem.Str := ["_law_source", "_law_draw", "_law_of", "_law_like", "_law_field", "_law_error_rows", "_law_error_kinds"]
abbrev hnm : List PySem.Str := hnm0 ++ hnm1 ++ hnm2
abbrev R : PySem.W.OpenRow := PySem.W.OpenLaw.row PySem.Challenge.rw_mendcalls_k01_errors_by_themselves
abbrev P0 : Program := (PySem.Challenge.rw_mendcalls_k01_errors_by_themselves).prog
abbrev hfile : Str := "/claim/cut.py"
theorem file0 : P0.main.file = hfile := by rfl
abbrev hk : PySem.W.Hook := hookY hfile 5 hfa hfn hfc hbs htf
def ob (s : PySem.W.SharedT) : AlY := obsY hfile 5 hfa hfn hfc hbs htf (HandSHeadRun.getT s)
theorem ob_eq (s : PySem.W.SharedT) : ob s = hk.obs s.abs := obsY_eq (HandSHeadRun.getT_eq s)
theorem run (w : World) : HandSHeadRun.RunEq R (PySem.W.view R.prog [33]) hk ob 9000 hnm w := by
  intro os
  kernel_rfl
section
variable {K : PySem.W.Frag} {h : Heap} {mg : Str → Option Value} (X : K.In h) (G : h.Ns mainGlobals mg) (c : SaysY hfile hfa hfn hfc hbs htf h K)
include X G c
theorem g__law_source : mg "_law_source" = some (.ref (He.ga K "_law_source")) := He.glo_ok X G (c.b.says.plain.fact 0 (f := .glo "_law_source") rfl)
theorem g__law_like : mg "_law_like" = some (.ref (He.ga K "_law_like")) := He.glo_ok X G (c.b.says.plain.fact 1 (f := .glo "_law_like") rfl)
theorem g__law_draw : mg "_law_draw" = some (.ref (He.ga K "_law_draw")) := He.glo_ok X G (c.b.says.plain.fact 2 (f := .glo "_law_draw") rfl)
theorem g__law_of : mg "_law_of" = some (.ref (He.ga K "_law_of")) := He.glo_ok X G (c.b.says.plain.fact 3 (f := .glo "_law_of") rfl)
theorem g__law_error_rows : mg "_law_error_rows" = some (.ref (He.ga K "_law_error_rows")) := He.glo_ok X G (c.b.says.plain.fact 4 (f := .glo "_law_error_rows") rfl)
theorem g__law_error_kinds : mg "_law_error_kinds" = some (.ref (He.ga K "_law_error_kinds")) := He.glo_ok X G (c.b.says.plain.fact 5 (f := .glo "_law_error_kinds") rfl)
theorem g__law_field : mg "_law_field" = some (.ref (He.ga K "_law_field")) := He.glo_ok X G (c.b.says.plain.fact 6 (f := .glo "_law_field") rfl)
theorem g_law : mg "law" = some (.ref (He.ga K "law")) := He.glo_ok X G (c.b.says.plain.fact 7 (f := .glo "law") rfl)
theorem g_NothingLeft : mg "NothingLeft" = some (.ref (He.ga K "NothingLeft")) := He.glo_ok X G (c.b.says.plain.fact 8 (f := .glo "NothingLeft") rfl)
theorem g_UnknownReceiver : mg "UnknownReceiver" = some (.ref (He.ga K "UnknownReceiver")) := He.glo_ok X G (c.b.says.plain.fact 9 (f := .glo "UnknownReceiver") rfl)
theorem g_InvalidText : mg "InvalidText" = some (.ref (He.ga K "InvalidText")) := He.glo_ok X G (c.b.says.plain.fact 10 (f := .glo "InvalidText") rfl)
theorem g_Overlost : mg "Overlost" = some (.ref (He.ga K "Overlost")) := He.glo_ok X G (c.b.says.plain.fact 11 (f := .glo "Overlost") rfl)
theorem g_NoRing : mg "NoRing" = some (.ref (He.ga K "NoRing")) := He.glo_ok X G (c.b.says.plain.fact 12 (f := .glo "NoRing") rfl)
theorem g_NoChain : mg "NoChain" = some (.ref (He.ga K "NoChain")) := He.glo_ok X G (c.b.says.plain.fact 13 (f := .glo "NoChain") rfl)
theorem g_NotBarred : mg "NotBarred" = some (.ref (He.ga K "NotBarred")) := He.glo_ok X G (c.b.says.plain.fact 14 (f := .glo "NotBarred") rfl)
theorem g_Beyond : mg "Beyond" = some (.ref (He.ga K "Beyond")) := He.glo_ok X G (c.b.says.plain.fact 15 (f := .glo "Beyond") rfl)
theorem g_Unservable : mg "Unservable" = some (.ref (He.ga K "Unservable")) := He.glo_ok X G (c.b.says.plain.fact 16 (f := .glo "Unservable") rfl)
theorem g_InvalidKey : mg "InvalidKey" = some (.ref (He.ga K "InvalidKey")) := He.glo_ok X G (c.b.says.plain.fact 17 (f := .glo "InvalidKey") rfl)
theorem g_InvalidFate : mg "InvalidFate" = some (.ref (He.ga K "InvalidFate")) := He.glo_ok X G (c.b.says.plain.fact 18 (f := .glo "InvalidFate") rfl)
theorem g_NotCallable : mg "NotCallable" = some (.ref (He.ga K "NotCallable")) := He.glo_ok X G (c.b.says.plain.fact 19 (f := .glo "NotCallable") rfl)
theorem g_InvalidCall : mg "InvalidCall" = some (.ref (He.ga K "InvalidCall")) := He.glo_ok X G (c.b.says.plain.fact 20 (f := .glo "InvalidCall") rfl)
theorem g_TooMany : mg "TooMany" = some (.ref (He.ga K "TooMany")) := He.glo_ok X G (c.b.says.plain.fact 21 (f := .glo "TooMany") rfl)
theorem g_MixedFields : mg "MixedFields" = some (.ref (He.ga K "MixedFields")) := He.glo_ok X G (c.b.says.plain.fact 22 (f := .glo "MixedFields") rfl)
theorem g_InvalidSchedule : mg "InvalidSchedule" = some (.ref (He.ga K "InvalidSchedule")) := He.glo_ok X G (c.b.says.plain.fact 23 (f := .glo "InvalidSchedule") rfl)
theorem g_InvalidNumber : mg "InvalidNumber" = some (.ref (He.ga K "InvalidNumber")) := He.glo_ok X G (c.b.says.plain.fact 24 (f := .glo "InvalidNumber") rfl)
theorem g_DuplicateName : mg "DuplicateName" = some (.ref (He.ga K "DuplicateName")) := He.glo_ok X G (c.b.says.plain.fact 25 (f := .glo "DuplicateName") rfl)
theorem g_InvalidName : mg "InvalidName" = some (.ref (He.ga K "InvalidName")) := He.glo_ok X G (c.b.says.plain.fact 26 (f := .glo "InvalidName") rfl)
theorem g_InvalidRow : mg "InvalidRow" = some (.ref (He.ga K "InvalidRow")) := He.glo_ok X G (c.b.says.plain.fact 27 (f := .glo "InvalidRow") rfl)
theorem g_InvalidLength : mg "InvalidLength" = some (.ref (He.ga K "InvalidLength")) := He.glo_ok X G (c.b.says.plain.fact 28 (f := .glo "InvalidLength") rfl)
theorem g_InvalidPrime : mg "InvalidPrime" = some (.ref (He.ga K "InvalidPrime")) := He.glo_ok X G (c.b.says.plain.fact 29 (f := .glo "InvalidPrime") rfl)
theorem g_Missing : mg "Missing" = some (.ref (He.ga K "Missing")) := He.glo_ok X G (c.b.says.plain.fact 30 (f := .glo "Missing") rfl)
theorem g_CallError : mg "CallError" = some (.ref (He.ga K "CallError")) := He.glo_ok X G (c.b.says.plain.fact 31 (f := .glo "CallError") rfl)
omit X G in
theorem e_NothingLeft : ErrOk K .ie "NothingLeft" "code" := errOk_of fun b hb => c.b.chkM (List.mem_append_left _ (List.mem_flatten.mpr ⟨errBs .ie "NothingLeft" "code", List.mem_of_getElem? (i := 0) rfl, hb⟩))
omit X G in
theorem e_UnknownReceiver : ErrOk K .le "UnknownReceiver" "name" := errOk_of fun b hb => c.b.chkM (List.mem_append_left _ (List.mem_flatten.mpr ⟨errBs .le "UnknownReceiver" "name", List.mem_of_getElem? (i := 1) rfl, hb⟩))
omit X G in
theorem e_InvalidText : ErrOk K .ve "InvalidText" "line" := errOk_of fun b hb => c.b.chkM (List.mem_append_left _ (List.mem_flatten.mpr ⟨errBs .ve "InvalidText" "line", List.mem_of_getElem? (i := 2) rfl, hb⟩))
omit X G in
theorem e_Overlost : ErrOk K .ve "Overlost" "name" := errOk_of fun b hb => c.b.chkM (List.mem_append_left _ (List.mem_flatten.mpr ⟨errBs .ve "Overlost" "name", List.mem_of_getElem? (i := 3) rfl, hb⟩))
omit X G in
theorem e_NoRing : ErrOk K .ve "NoRing" "at" := errOk_of fun b hb => c.b.chkM (List.mem_append_left _ (List.mem_flatten.mpr ⟨errBs .ve "NoRing" "at", List.mem_of_getElem? (i := 4) rfl, hb⟩))
omit X G in
theorem e_NoChain : ErrOk K .ve "NoChain" "at" := errOk_of fun b hb => c.b.chkM (List.mem_append_left _ (List.mem_flatten.mpr ⟨errBs .ve "NoChain" "at", List.mem_of_getElem? (i := 5) rfl, hb⟩))
omit X G in
theorem e_NotBarred : ErrOk K .ve "NotBarred" "cost" := errOk_of fun b hb => c.b.chkM (List.mem_append_left _ (List.mem_flatten.mpr ⟨errBs .ve "NotBarred" "cost", List.mem_of_getElem? (i := 6) rfl, hb⟩))
omit X G in
theorem e_Beyond : ErrOk K .ve "Beyond" "most" := errOk_of fun b hb => c.b.chkM (List.mem_append_left _ (List.mem_flatten.mpr ⟨errBs .ve "Beyond" "most", List.mem_of_getElem? (i := 7) rfl, hb⟩))
omit X G in
theorem e_Unservable : ErrOk K .ve "Unservable" "name" := errOk_of fun b hb => c.b.chkM (List.mem_append_left _ (List.mem_flatten.mpr ⟨errBs .ve "Unservable" "name", List.mem_of_getElem? (i := 8) rfl, hb⟩))
omit X G in
theorem e_InvalidKey : ErrOk K .ve "InvalidKey" "given" := errOk_of fun b hb => c.b.chkM (List.mem_append_left _ (List.mem_flatten.mpr ⟨errBs .ve "InvalidKey" "given", List.mem_of_getElem? (i := 9) rfl, hb⟩))
omit X G in
theorem e_InvalidFate : ErrOk K .ve "InvalidFate" "given" := errOk_of fun b hb => c.b.chkM (List.mem_append_left _ (List.mem_flatten.mpr ⟨errBs .ve "InvalidFate" "given", List.mem_of_getElem? (i := 10) rfl, hb⟩))
omit X G in
theorem e_NotCallable : ErrOk K .ve "NotCallable" "given" := errOk_of fun b hb => c.b.chkM (List.mem_append_left _ (List.mem_flatten.mpr ⟨errBs .ve "NotCallable" "given", List.mem_of_getElem? (i := 11) rfl, hb⟩))
omit X G in
theorem e_InvalidCall : ErrOk K .ve "InvalidCall" "given" := errOk_of fun b hb => c.b.chkM (List.mem_append_left _ (List.mem_flatten.mpr ⟨errBs .ve "InvalidCall" "given", List.mem_of_getElem? (i := 12) rfl, hb⟩))
omit X G in
theorem e_TooMany : ErrOk K .ve "TooMany" "most" := errOk_of fun b hb => c.b.chkM (List.mem_append_left _ (List.mem_flatten.mpr ⟨errBs .ve "TooMany" "most", List.mem_of_getElem? (i := 13) rfl, hb⟩))
omit X G in
theorem e_MixedFields : ErrOk K .ve "MixedFields" "code" := errOk_of fun b hb => c.b.chkM (List.mem_append_left _ (List.mem_flatten.mpr ⟨errBs .ve "MixedFields" "code", List.mem_of_getElem? (i := 14) rfl, hb⟩))
omit X G in
theorem e_InvalidSchedule : ErrOk K .ve "InvalidSchedule" "given" := errOk_of fun b hb => c.b.chkM (List.mem_append_left _ (List.mem_flatten.mpr ⟨errBs .ve "InvalidSchedule" "given", List.mem_of_getElem? (i := 15) rfl, hb⟩))
omit X G in
theorem e_InvalidNumber : ErrOk K .ve "InvalidNumber" "given" := errOk_of fun b hb => c.b.chkM (List.mem_append_left _ (List.mem_flatten.mpr ⟨errBs .ve "InvalidNumber" "given", List.mem_of_getElem? (i := 16) rfl, hb⟩))
omit X G in
theorem e_DuplicateName : ErrOk K .ve "DuplicateName" "name" := errOk_of fun b hb => c.b.chkM (List.mem_append_left _ (List.mem_flatten.mpr ⟨errBs .ve "DuplicateName" "name", List.mem_of_getElem? (i := 17) rfl, hb⟩))
omit X G in
theorem e_InvalidName : ErrOk K .ve "InvalidName" "name" := errOk_of fun b hb => c.b.chkM (List.mem_append_left _ (List.mem_flatten.mpr ⟨errBs .ve "InvalidName" "name", List.mem_of_getElem? (i := 18) rfl, hb⟩))
omit X G in
theorem e_InvalidRow : ErrOk K .ve "InvalidRow" "at" := errOk_of fun b hb => c.b.chkM (List.mem_append_left _ (List.mem_flatten.mpr ⟨errBs .ve "InvalidRow" "at", List.mem_of_getElem? (i := 19) rfl, hb⟩))
omit X G in
theorem e_InvalidLength : ErrOk K .ve "InvalidLength" "given" := errOk_of fun b hb => c.b.chkM (List.mem_append_left _ (List.mem_flatten.mpr ⟨errBs .ve "InvalidLength" "given", List.mem_of_getElem? (i := 20) rfl, hb⟩))
omit X G in
theorem e_InvalidPrime : ErrOk K .ve "InvalidPrime" "given" := errOk_of fun b hb => c.b.chkM (List.mem_append_left _ (List.mem_flatten.mpr ⟨errBs .ve "InvalidPrime" "given", List.mem_of_getElem? (i := 21) rfl, hb⟩))
theorem gs_of : GS K mg where
  f_IndexError := He.free_ok X G (c.b.says.plain.fact 32 (f := .free "IndexError") rfl)
  f_LookupError := He.free_ok X G (c.b.says.plain.fact 33 (f := .free "LookupError") rfl)
  f_ValueError := He.free_ok X G (c.b.says.plain.fact 34 (f := .free "ValueError") rfl)
  f_all := He.free_ok X G (c.b.says.plain.fact 35 (f := .free "all") rfl)
  f_bool := He.free_ok X G (c.b.says.plain.fact 36 (f := .free "bool") rfl)
  f_int := He.free_ok X G (c.b.says.plain.fact 37 (f := .free "int") rfl)
  f_isinstance := He.free_ok X G (c.b.says.plain.fact 38 (f := .free "isinstance") rfl)
  f_len := He.free_ok X G (c.b.says.plain.fact 39 (f := .free "len") rfl)
  f_list := He.free_ok X G (c.b.says.plain.fact 40 (f := .free "list") rfl)
  f_range := He.free_ok X G (c.b.says.plain.fact 41 (f := .free "range") rfl)
  f_str := He.free_ok X G (c.b.says.plain.fact 42 (f := .free "str") rfl)
  f_super := He.free_ok X G (c.b.says.plain.fact 43 (f := .free "super") rfl)
  f_tuple := He.free_ok X G (c.b.says.plain.fact 44 (f := .free "tuple") rfl)
  f_zip := He.free_ok X G (c.b.says.plain.fact 45 (f := .free "zip") rfl)
  d__law_source := by
    obtain ⟨fd, F⟩ := c.b.says.plain.def_ 0 (d := dd__law_source) rfl
    exact ⟨_, fd, g__law_source X G c, F⟩
  d__law_like := by
    obtain ⟨fd, F⟩ := c.b.says.plain.def_ 1 (d := dd__law_like) rfl
    exact ⟨_, fd, g__law_like X G c, F⟩
  d__law_draw := by
    obtain ⟨fd, F⟩ := c.b.says.plain.def_ 2 (d := dd__law_draw) rfl
    exact ⟨_, fd, g__law_draw X G c, F⟩
  d__law_of := by
    obtain ⟨fd, F⟩ := c.b.says.plain.def_ 3 (d := dd__law_of) rfl
    exact ⟨_, fd, g__law_of X G c, F⟩
  d__law_error_rows := by
    obtain ⟨fd, F⟩ := c.b.says.plain.def_ 4 (d := dd__law_error_rows) rfl
    exact ⟨_, fd, g__law_error_rows X G c, F⟩
  d__law_error_kinds := by
    obtain ⟨fd, F⟩ := c.b.says.plain.def_ 5 (d := dd__law_error_kinds) rfl
    exact ⟨_, fd, g__law_error_kinds X G c, F⟩
  d__law_field := by
    obtain ⟨fd, F⟩ := c.b.says.plain.def_ 6 (d := dd__law_field) rfl
    exact ⟨_, fd, g__law_field X G c, F⟩
  m_NothingLeft := g_NothingLeft X G c
  m_UnknownReceiver := g_UnknownReceiver X G c
  m_InvalidText := g_InvalidText X G c
  m_Overlost := g_Overlost X G c
  m_NoRing := g_NoRing X G c
  m_NoChain := g_NoChain X G c
  m_NotBarred := g_NotBarred X G c
  m_Beyond := g_Beyond X G c
  m_Unservable := g_Unservable X G c
  m_InvalidKey := g_InvalidKey X G c
  m_InvalidFate := g_InvalidFate X G c
  m_NotCallable := g_NotCallable X G c
  m_InvalidCall := g_InvalidCall X G c
  m_TooMany := g_TooMany X G c
  m_MixedFields := g_MixedFields X G c
  m_InvalidSchedule := g_InvalidSchedule X G c
  m_InvalidNumber := g_InvalidNumber X G c
  m_DuplicateName := g_DuplicateName X G c
  m_InvalidName := g_InvalidName X G c
  m_InvalidRow := g_InvalidRow X G c
  m_InvalidLength := g_InvalidLength X G c
  m_InvalidPrime := g_InvalidPrime X G c
  m_Missing := g_Missing X G c
  m_CallError := g_CallError X G c
  ef := by
    constructor
    · constructor
      intro x hx
      have e : fc "code" = (["NothingLeft", "UnknownReceiver", "InvalidText", "Overlost", "NoRing", "NoChain", "NotBarred", "Beyond", "Unservable", "InvalidKey", "InvalidFate", "NotCallable", "InvalidCall", "TooMany", "MixedFields", "InvalidSchedule", "InvalidNumber", "DuplicateName", "InvalidName", "InvalidRow", "InvalidLength", "InvalidPrime"] : List Str) := by rfl
      rw [e] at hx
      simp only [List.mem_cons, List.not_mem_nil, or_false] at hx
      rcases hx with rfl | rfl | rfl | rfl | rfl | rfl | rfl | rfl | rfl | rfl | rfl | rfl | rfl | rfl | rfl | rfl | rfl | rfl | rfl | rfl | rfl | rfl
      · exact ⟨_, g_NothingLeft X G c, (e_NothingLeft c).xf, (e_NothingLeft c).no1⟩
      · exact ⟨_, g_UnknownReceiver X G c, (e_UnknownReceiver c).xf, (e_UnknownReceiver c).no1⟩
      · exact ⟨_, g_InvalidText X G c, (e_InvalidText c).xf, (e_InvalidText c).no1⟩
      · exact ⟨_, g_Overlost X G c, (e_Overlost c).xf, (e_Overlost c).no1⟩
      · exact ⟨_, g_NoRing X G c, (e_NoRing c).xf, (e_NoRing c).no1⟩
      · exact ⟨_, g_NoChain X G c, (e_NoChain c).xf, (e_NoChain c).no1⟩
      · exact ⟨_, g_NotBarred X G c, (e_NotBarred c).xf, (e_NotBarred c).no1⟩
      · exact ⟨_, g_Beyond X G c, (e_Beyond c).xf, (e_Beyond c).no1⟩
      · exact ⟨_, g_Unservable X G c, (e_Unservable c).xf, (e_Unservable c).no1⟩
      · exact ⟨_, g_InvalidKey X G c, (e_InvalidKey c).xf, (e_InvalidKey c).no1⟩
      · exact ⟨_, g_InvalidFate X G c, (e_InvalidFate c).xf, (e_InvalidFate c).no1⟩
      · exact ⟨_, g_NotCallable X G c, (e_NotCallable c).xf, (e_NotCallable c).no1⟩
      · exact ⟨_, g_InvalidCall X G c, (e_InvalidCall c).xf, (e_InvalidCall c).no1⟩
      · exact ⟨_, g_TooMany X G c, (e_TooMany c).xf, (e_TooMany c).no1⟩
      · exact ⟨_, g_MixedFields X G c, (e_MixedFields c).xf, (e_MixedFields c).no1⟩
      · exact ⟨_, g_InvalidSchedule X G c, (e_InvalidSchedule c).xf, (e_InvalidSchedule c).no1⟩
      · exact ⟨_, g_InvalidNumber X G c, (e_InvalidNumber c).xf, (e_InvalidNumber c).no1⟩
      · exact ⟨_, g_DuplicateName X G c, (e_DuplicateName c).xf, (e_DuplicateName c).no1⟩
      · exact ⟨_, g_InvalidName X G c, (e_InvalidName c).xf, (e_InvalidName c).no1⟩
      · exact ⟨_, g_InvalidRow X G c, (e_InvalidRow c).xf, (e_InvalidRow c).no1⟩
      · exact ⟨_, g_InvalidLength X G c, (e_InvalidLength c).xf, (e_InvalidLength c).no1⟩
      · exact ⟨_, g_InvalidPrime X G c, (e_InvalidPrime c).xf, (e_InvalidPrime c).no1⟩

    · constructor
      intro x hx
      have e : fc "given" = (["InvalidKey", "InvalidFate", "NotCallable", "InvalidCall", "InvalidSchedule", "InvalidNumber", "InvalidLength", "InvalidPrime"] : List Str) := by rfl
      rw [e] at hx
      simp only [List.mem_cons, List.not_mem_nil, or_false] at hx
      rcases hx with rfl | rfl | rfl | rfl | rfl | rfl | rfl | rfl
      · exact ⟨_, g_InvalidKey X G c, (e_InvalidKey c).xf, (e_InvalidKey c).no2⟩
      · exact ⟨_, g_InvalidFate X G c, (e_InvalidFate c).xf, (e_InvalidFate c).no2⟩
      · exact ⟨_, g_NotCallable X G c, (e_NotCallable c).xf, (e_NotCallable c).no2⟩
      · exact ⟨_, g_InvalidCall X G c, (e_InvalidCall c).xf, (e_InvalidCall c).no2⟩
      · exact ⟨_, g_InvalidSchedule X G c, (e_InvalidSchedule c).xf, (e_InvalidSchedule c).no2⟩
      · exact ⟨_, g_InvalidNumber X G c, (e_InvalidNumber c).xf, (e_InvalidNumber c).no2⟩
      · exact ⟨_, g_InvalidLength X G c, (e_InvalidLength c).xf, (e_InvalidLength c).no2⟩
      · exact ⟨_, g_InvalidPrime X G c, (e_InvalidPrime c).xf, (e_InvalidPrime c).no2⟩

    · constructor
      intro x hx
      have e : fc "at" = (["NoRing", "NoChain", "InvalidRow"] : List Str) := by rfl
      rw [e] at hx
      simp only [List.mem_cons, List.not_mem_nil, or_false] at hx
      rcases hx with rfl | rfl | rfl
      · exact ⟨_, g_NoRing X G c, (e_NoRing c).xf, (e_NoRing c).no2⟩
      · exact ⟨_, g_NoChain X G c, (e_NoChain c).xf, (e_NoChain c).no2⟩
      · exact ⟨_, g_InvalidRow X G c, (e_InvalidRow c).xf, (e_InvalidRow c).no2⟩

    · constructor
      intro x hx
      have e : fc "name" = (["UnknownReceiver", "Overlost", "Unservable", "DuplicateName", "InvalidName"] : List Str) := by rfl
      rw [e] at hx
      simp only [List.mem_cons, List.not_mem_nil, or_false] at hx
      rcases hx with rfl | rfl | rfl | rfl | rfl
      · exact ⟨_, g_UnknownReceiver X G c, (e_UnknownReceiver c).xf, (e_UnknownReceiver c).no2⟩
      · exact ⟨_, g_Overlost X G c, (e_Overlost c).xf, (e_Overlost c).no2⟩
      · exact ⟨_, g_Unservable X G c, (e_Unservable c).xf, (e_Unservable c).no2⟩
      · exact ⟨_, g_DuplicateName X G c, (e_DuplicateName c).xf, (e_DuplicateName c).no2⟩
      · exact ⟨_, g_InvalidName X G c, (e_InvalidName c).xf, (e_InvalidName c).no2⟩

    · constructor
      intro x hx
      have e : fc "most" = (["Beyond", "TooMany"] : List Str) := by rfl
      rw [e] at hx
      simp only [List.mem_cons, List.not_mem_nil, or_false] at hx
      rcases hx with rfl | rfl
      · exact ⟨_, g_Beyond X G c, (e_Beyond c).xf, (e_Beyond c).no2⟩
      · exact ⟨_, g_TooMany X G c, (e_TooMany c).xf, (e_TooMany c).no2⟩

    · constructor
      intro x hx
      have e : fc "cost" = (["NotBarred"] : List Str) := by rfl
      rw [e] at hx
      simp only [List.mem_cons, List.not_mem_nil, or_false] at hx
      subst hx
      exact ⟨_, g_NotBarred X G c, (e_NotBarred c).xf, (e_NotBarred c).no2⟩

    · constructor
      intro x hx
      have e : fc "line" = (["InvalidText"] : List Str) := by rfl
      rw [e] at hx
      simp only [List.mem_cons, List.not_mem_nil, or_false] at hx
      subst hx
      exact ⟨_, g_InvalidText X G c, (e_InvalidText c).xf, (e_InvalidText c).no2⟩


  isi := isiB_ok (c.b.chkM (List.mem_append_right _ (List.mem_of_getElem? (i := 0) rfl))) (by
    intro x hx
    have e : ics = (["NothingLeft", "UnknownReceiver", "InvalidText", "Overlost", "NoRing", "NoChain", "NotBarred", "Beyond", "Unservable", "InvalidKey", "InvalidFate", "NotCallable", "InvalidCall", "TooMany", "MixedFields", "InvalidSchedule", "InvalidNumber", "DuplicateName", "InvalidName", "InvalidRow", "InvalidLength", "InvalidPrime"] : List Str) := by rfl
    rw [e] at hx
    simp only [List.mem_cons, List.not_mem_nil, or_false] at hx
    rcases hx with rfl | rfl | rfl | rfl | rfl | rfl | rfl | rfl | rfl | rfl | rfl | rfl | rfl | rfl | rfl | rfl | rfl | rfl | rfl | rfl | rfl | rfl
    · exact g_NothingLeft X G c
    · exact g_UnknownReceiver X G c
    · exact g_InvalidText X G c
    · exact g_Overlost X G c
    · exact g_NoRing X G c
    · exact g_NoChain X G c
    · exact g_NotBarred X G c
    · exact g_Beyond X G c
    · exact g_Unservable X G c
    · exact g_InvalidKey X G c
    · exact g_InvalidFate X G c
    · exact g_NotCallable X G c
    · exact g_InvalidCall X G c
    · exact g_TooMany X G c
    · exact g_MixedFields X G c
    · exact g_InvalidSchedule X G c
    · exact g_InvalidNumber X G c
    · exact g_DuplicateName X G c
    · exact g_InvalidName X G c
    · exact g_InvalidRow X G c
    · exact g_InvalidLength X G c
    · exact g_InvalidPrime X G c
    ) (by
    intro x hx
    have e : ixs = (["NothingLeft", "UnknownReceiver", "InvalidText", "Overlost", "NoRing", "NoChain", "NotBarred", "Beyond", "Unservable", "InvalidKey", "InvalidFate", "NotCallable", "InvalidCall", "TooMany", "MixedFields", "InvalidSchedule", "InvalidNumber", "DuplicateName", "InvalidName", "InvalidRow", "InvalidLength", "InvalidPrime", "Missing", "CallError"] : List Str) := by rfl
    rw [e] at hx
    simp only [List.mem_cons, List.not_mem_nil, or_false] at hx
    rcases hx with rfl | rfl | rfl | rfl | rfl | rfl | rfl | rfl | rfl | rfl | rfl | rfl | rfl | rfl | rfl | rfl | rfl | rfl | rfl | rfl | rfl | rfl | rfl | rfl
    · exact g_NothingLeft X G c
    · exact g_UnknownReceiver X G c
    · exact g_InvalidText X G c
    · exact g_Overlost X G c
    · exact g_NoRing X G c
    · exact g_NoChain X G c
    · exact g_NotBarred X G c
    · exact g_Beyond X G c
    · exact g_Unservable X G c
    · exact g_InvalidKey X G c
    · exact g_InvalidFate X G c
    · exact g_NotCallable X G c
    · exact g_InvalidCall X G c
    · exact g_TooMany X G c
    · exact g_MixedFields X G c
    · exact g_InvalidSchedule X G c
    · exact g_InvalidNumber X G c
    · exact g_DuplicateName X G c
    · exact g_InvalidName X G c
    · exact g_InvalidRow X G c
    · exact g_InvalidLength X G c
    · exact g_InvalidPrime X G c
    · exact g_Missing X G c
    · exact g_CallError X G c
    )
omit X G c in
theorem sc_NothingLeft : SupScope ["self"] ["self"] (defScope i_NothingLeft) := ⟨rfl, rfl, rfl, by decide, rfl, by decide +kernel, by decide +kernel, by decide +kernel, by decide +kernel, by decide +kernel⟩
omit X G c in
theorem sc_UnknownReceiver : SupScope ["self", "name"] ["self", "name"] (defScope i_UnknownReceiver) := ⟨rfl, rfl, rfl, by decide, rfl, by decide +kernel, by decide +kernel, by decide +kernel, by decide +kernel, by decide +kernel⟩
omit X G c in
theorem sc_InvalidText : SupScope ["self", "line"] ["self", "line"] (defScope i_InvalidText) := ⟨rfl, rfl, rfl, by decide, rfl, by decide +kernel, by decide +kernel, by decide +kernel, by decide +kernel, by decide +kernel⟩
omit X G c in
theorem sc_Overlost : SupScope ["self", "name"] ["self", "name"] (defScope i_Overlost) := ⟨rfl, rfl, rfl, by decide, rfl, by decide +kernel, by decide +kernel, by decide +kernel, by decide +kernel, by decide +kernel⟩
omit X G c in
theorem sc_NoRing : SupScope ["self", "at"] ["self", "at"] (defScope i_NoRing) := ⟨rfl, rfl, rfl, by decide, rfl, by decide +kernel, by decide +kernel, by decide +kernel, by decide +kernel, by decide +kernel⟩
omit X G c in
theorem sc_NoChain : SupScope ["self", "at"] ["self", "at"] (defScope i_NoChain) := ⟨rfl, rfl, rfl, by decide, rfl, by decide +kernel, by decide +kernel, by decide +kernel, by decide +kernel, by decide +kernel⟩
omit X G c in
theorem sc_NotBarred : SupScope ["self", "cost"] ["self", "cost"] (defScope i_NotBarred) := ⟨rfl, rfl, rfl, by decide, rfl, by decide +kernel, by decide +kernel, by decide +kernel, by decide +kernel, by decide +kernel⟩
omit X G c in
theorem sc_Beyond : SupScope ["self", "most"] ["self", "most"] (defScope i_Beyond) := ⟨rfl, rfl, rfl, by decide, rfl, by decide +kernel, by decide +kernel, by decide +kernel, by decide +kernel, by decide +kernel⟩
omit X G c in
theorem sc_Unservable : SupScope ["self", "name"] ["self", "name"] (defScope i_Unservable) := ⟨rfl, rfl, rfl, by decide, rfl, by decide +kernel, by decide +kernel, by decide +kernel, by decide +kernel, by decide +kernel⟩
omit X G c in
theorem sc_InvalidKey : SupScope ["self", "given"] ["self", "given"] (defScope i_InvalidKey) := ⟨rfl, rfl, rfl, by decide, rfl, by decide +kernel, by decide +kernel, by decide +kernel, by decide +kernel, by decide +kernel⟩
omit X G c in
theorem sc_InvalidFate : SupScope ["self", "given"] ["self", "given"] (defScope i_InvalidFate) := ⟨rfl, rfl, rfl, by decide, rfl, by decide +kernel, by decide +kernel, by decide +kernel, by decide +kernel, by decide +kernel⟩
omit X G c in
theorem sc_NotCallable : SupScope ["self", "given"] ["self", "given"] (defScope i_NotCallable) := ⟨rfl, rfl, rfl, by decide, rfl, by decide +kernel, by decide +kernel, by decide +kernel, by decide +kernel, by decide +kernel⟩
omit X G c in
theorem sc_InvalidCall : SupScope ["self", "given"] ["self", "given"] (defScope i_InvalidCall) := ⟨rfl, rfl, rfl, by decide, rfl, by decide +kernel, by decide +kernel, by decide +kernel, by decide +kernel, by decide +kernel⟩
omit X G c in
theorem sc_TooMany : SupScope ["self", "most"] ["self", "most"] (defScope i_TooMany) := ⟨rfl, rfl, rfl, by decide, rfl, by decide +kernel, by decide +kernel, by decide +kernel, by decide +kernel, by decide +kernel⟩
omit X G c in
theorem sc_MixedFields : SupScope ["self"] ["self"] (defScope i_MixedFields) := ⟨rfl, rfl, rfl, by decide, rfl, by decide +kernel, by decide +kernel, by decide +kernel, by decide +kernel, by decide +kernel⟩
omit X G c in
theorem sc_InvalidSchedule : SupScope ["self", "given"] ["self", "given"] (defScope i_InvalidSchedule) := ⟨rfl, rfl, rfl, by decide, rfl, by decide +kernel, by decide +kernel, by decide +kernel, by decide +kernel, by decide +kernel⟩
omit X G c in
theorem sc_InvalidNumber : SupScope ["self", "given"] ["self", "given"] (defScope i_InvalidNumber) := ⟨rfl, rfl, rfl, by decide, rfl, by decide +kernel, by decide +kernel, by decide +kernel, by decide +kernel, by decide +kernel⟩
omit X G c in
theorem sc_DuplicateName : SupScope ["self", "name"] ["self", "name"] (defScope i_DuplicateName) := ⟨rfl, rfl, rfl, by decide, rfl, by decide +kernel, by decide +kernel, by decide +kernel, by decide +kernel, by decide +kernel⟩
omit X G c in
theorem sc_InvalidName : SupScope ["self", "name"] ["self", "name"] (defScope i_InvalidName) := ⟨rfl, rfl, rfl, by decide, rfl, by decide +kernel, by decide +kernel, by decide +kernel, by decide +kernel, by decide +kernel⟩
omit X G c in
theorem sc_InvalidRow : SupScope ["self", "at"] ["self", "at"] (defScope i_InvalidRow) := ⟨rfl, rfl, rfl, by decide, rfl, by decide +kernel, by decide +kernel, by decide +kernel, by decide +kernel, by decide +kernel⟩
omit X G c in
theorem sc_InvalidLength : SupScope ["self", "given"] ["self", "given"] (defScope i_InvalidLength) := ⟨rfl, rfl, rfl, by decide, rfl, by decide +kernel, by decide +kernel, by decide +kernel, by decide +kernel, by decide +kernel⟩
omit X G c in
theorem sc_InvalidPrime : SupScope ["self", "given"] ["self", "given"] (defScope i_InvalidPrime) := ⟨rfl, rfl, rfl, by decide, rfl, by decide +kernel, by decide +kernel, by decide +kernel, by decide +kernel, by decide +kernel⟩
theorem errs_of {w : World} {base : Heap} : Errs P0 w K mg base where
  mk_NothingLeft := by
    have hs := (gs_of X G c).f_super
    have E := e_NothingLeft c
    obtain ⟨fd, F⟩ := SaysC.cl (P := P0) (show SaysC P0.main.file hfa hfn hfc K from c.b.says) 0 (d := cd_NothingLeft) rfl
    exact mkErr0_of (g_NothingLeft X G c) E.sup E.no1 E.ini.1 E.ini.2 F sc_NothingLeft rfl rfl hs (by decide +kernel) (fun _ => rfl) (fun _ => rfl) (F.binds fun _ _ _ _ _ _ _ us hl => match us, hl with | [_], _ => rfl)
  mk_UnknownReceiver := by
    have hs := (gs_of X G c).f_super
    have E := e_UnknownReceiver c
    obtain ⟨fd, F⟩ := SaysC.cl (P := P0) (show SaysC P0.main.file hfa hfn hfc K from c.b.says) 1 (d := cd_UnknownReceiver) rfl
    exact mkErr_of (g_UnknownReceiver X G c) E.sup E.no1 E.no2 E.ini.1 E.ini.2 F sc_UnknownReceiver rfl rfl hs (by decide +kernel) (fun _ => rfl) (fun _ => rfl) (fun _ => rfl) (by decide) (by decide) (F.binds fun _ _ _ _ _ _ _ us hl => match us, hl with | [_, _], _ => rfl)
  mk_InvalidText := by
    have hs := (gs_of X G c).f_super
    have E := e_InvalidText c
    obtain ⟨fd, F⟩ := SaysC.cl (P := P0) (show SaysC P0.main.file hfa hfn hfc K from c.b.says) 2 (d := cd_InvalidText) rfl
    exact mkErr_of (g_InvalidText X G c) E.sup E.no1 E.no2 E.ini.1 E.ini.2 F sc_InvalidText rfl rfl hs (by decide +kernel) (fun _ => rfl) (fun _ => rfl) (fun _ => rfl) (by decide) (by decide) (F.binds fun _ _ _ _ _ _ _ us hl => match us, hl with | [_, _], _ => rfl)
  mk_Overlost := by
    have hs := (gs_of X G c).f_super
    have E := e_Overlost c
    obtain ⟨fd, F⟩ := SaysC.cl (P := P0) (show SaysC P0.main.file hfa hfn hfc K from c.b.says) 3 (d := cd_Overlost) rfl
    exact mkErr_of (g_Overlost X G c) E.sup E.no1 E.no2 E.ini.1 E.ini.2 F sc_Overlost rfl rfl hs (by decide +kernel) (fun _ => rfl) (fun _ => rfl) (fun _ => rfl) (by decide) (by decide) (F.binds fun _ _ _ _ _ _ _ us hl => match us, hl with | [_, _], _ => rfl)
  mk_NoRing := by
    have hs := (gs_of X G c).f_super
    have E := e_NoRing c
    obtain ⟨fd, F⟩ := SaysC.cl (P := P0) (show SaysC P0.main.file hfa hfn hfc K from c.b.says) 4 (d := cd_NoRing) rfl
    exact mkErr_of (g_NoRing X G c) E.sup E.no1 E.no2 E.ini.1 E.ini.2 F sc_NoRing rfl rfl hs (by decide +kernel) (fun _ => rfl) (fun _ => rfl) (fun _ => rfl) (by decide) (by decide) (F.binds fun _ _ _ _ _ _ _ us hl => match us, hl with | [_, _], _ => rfl)
  mk_NoChain := by
    have hs := (gs_of X G c).f_super
    have E := e_NoChain c
    obtain ⟨fd, F⟩ := SaysC.cl (P := P0) (show SaysC P0.main.file hfa hfn hfc K from c.b.says) 5 (d := cd_NoChain) rfl
    exact mkErr_of (g_NoChain X G c) E.sup E.no1 E.no2 E.ini.1 E.ini.2 F sc_NoChain rfl rfl hs (by decide +kernel) (fun _ => rfl) (fun _ => rfl) (fun _ => rfl) (by decide) (by decide) (F.binds fun _ _ _ _ _ _ _ us hl => match us, hl with | [_, _], _ => rfl)
  mk_NotBarred := by
    have hs := (gs_of X G c).f_super
    have E := e_NotBarred c
    obtain ⟨fd, F⟩ := SaysC.cl (P := P0) (show SaysC P0.main.file hfa hfn hfc K from c.b.says) 6 (d := cd_NotBarred) rfl
    exact mkErr_of (g_NotBarred X G c) E.sup E.no1 E.no2 E.ini.1 E.ini.2 F sc_NotBarred rfl rfl hs (by decide +kernel) (fun _ => rfl) (fun _ => rfl) (fun _ => rfl) (by decide) (by decide) (F.binds fun _ _ _ _ _ _ _ us hl => match us, hl with | [_, _], _ => rfl)
  mk_Beyond := by
    have hs := (gs_of X G c).f_super
    have E := e_Beyond c
    obtain ⟨fd, F⟩ := SaysC.cl (P := P0) (show SaysC P0.main.file hfa hfn hfc K from c.b.says) 7 (d := cd_Beyond) rfl
    exact mkErr_of (g_Beyond X G c) E.sup E.no1 E.no2 E.ini.1 E.ini.2 F sc_Beyond rfl rfl hs (by decide +kernel) (fun _ => rfl) (fun _ => rfl) (fun _ => rfl) (by decide) (by decide) (F.binds fun _ _ _ _ _ _ _ us hl => match us, hl with | [_, _], _ => rfl)
  mk_Unservable := by
    have hs := (gs_of X G c).f_super
    have E := e_Unservable c
    obtain ⟨fd, F⟩ := SaysC.cl (P := P0) (show SaysC P0.main.file hfa hfn hfc K from c.b.says) 8 (d := cd_Unservable) rfl
    exact mkErr_of (g_Unservable X G c) E.sup E.no1 E.no2 E.ini.1 E.ini.2 F sc_Unservable rfl rfl hs (by decide +kernel) (fun _ => rfl) (fun _ => rfl) (fun _ => rfl) (by decide) (by decide) (F.binds fun _ _ _ _ _ _ _ us hl => match us, hl with | [_, _], _ => rfl)
  mk_InvalidKey := by
    have hs := (gs_of X G c).f_super
    have E := e_InvalidKey c
    obtain ⟨fd, F⟩ := SaysC.cl (P := P0) (show SaysC P0.main.file hfa hfn hfc K from c.b.says) 9 (d := cd_InvalidKey) rfl
    exact mkErr_of (g_InvalidKey X G c) E.sup E.no1 E.no2 E.ini.1 E.ini.2 F sc_InvalidKey rfl rfl hs (by decide +kernel) (fun _ => rfl) (fun _ => rfl) (fun _ => rfl) (by decide) (by decide) (F.binds fun _ _ _ _ _ _ _ us hl => match us, hl with | [_, _], _ => rfl)
  mk_InvalidFate := by
    have hs := (gs_of X G c).f_super
    have E := e_InvalidFate c
    obtain ⟨fd, F⟩ := SaysC.cl (P := P0) (show SaysC P0.main.file hfa hfn hfc K from c.b.says) 10 (d := cd_InvalidFate) rfl
    exact mkErr_of (g_InvalidFate X G c) E.sup E.no1 E.no2 E.ini.1 E.ini.2 F sc_InvalidFate rfl rfl hs (by decide +kernel) (fun _ => rfl) (fun _ => rfl) (fun _ => rfl) (by decide) (by decide) (F.binds fun _ _ _ _ _ _ _ us hl => match us, hl with | [_, _], _ => rfl)
  mk_NotCallable := by
    have hs := (gs_of X G c).f_super
    have E := e_NotCallable c
    obtain ⟨fd, F⟩ := SaysC.cl (P := P0) (show SaysC P0.main.file hfa hfn hfc K from c.b.says) 11 (d := cd_NotCallable) rfl
    exact mkErr_of (g_NotCallable X G c) E.sup E.no1 E.no2 E.ini.1 E.ini.2 F sc_NotCallable rfl rfl hs (by decide +kernel) (fun _ => rfl) (fun _ => rfl) (fun _ => rfl) (by decide) (by decide) (F.binds fun _ _ _ _ _ _ _ us hl => match us, hl with | [_, _], _ => rfl)
  mk_InvalidCall := by
    have hs := (gs_of X G c).f_super
    have E := e_InvalidCall c
    obtain ⟨fd, F⟩ := SaysC.cl (P := P0) (show SaysC P0.main.file hfa hfn hfc K from c.b.says) 12 (d := cd_InvalidCall) rfl
    exact mkErr_of (g_InvalidCall X G c) E.sup E.no1 E.no2 E.ini.1 E.ini.2 F sc_InvalidCall rfl rfl hs (by decide +kernel) (fun _ => rfl) (fun _ => rfl) (fun _ => rfl) (by decide) (by decide) (F.binds fun _ _ _ _ _ _ _ us hl => match us, hl with | [_, _], _ => rfl)
  mk_TooMany := by
    have hs := (gs_of X G c).f_super
    have E := e_TooMany c
    obtain ⟨fd, F⟩ := SaysC.cl (P := P0) (show SaysC P0.main.file hfa hfn hfc K from c.b.says) 13 (d := cd_TooMany) rfl
    exact mkErr_of (g_TooMany X G c) E.sup E.no1 E.no2 E.ini.1 E.ini.2 F sc_TooMany rfl rfl hs (by decide +kernel) (fun _ => rfl) (fun _ => rfl) (fun _ => rfl) (by decide) (by decide) (F.binds fun _ _ _ _ _ _ _ us hl => match us, hl with | [_, _], _ => rfl)
  mk_MixedFields := by
    have hs := (gs_of X G c).f_super
    have E := e_MixedFields c
    obtain ⟨fd, F⟩ := SaysC.cl (P := P0) (show SaysC P0.main.file hfa hfn hfc K from c.b.says) 14 (d := cd_MixedFields) rfl
    exact mkErr0_of (g_MixedFields X G c) E.sup E.no1 E.ini.1 E.ini.2 F sc_MixedFields rfl rfl hs (by decide +kernel) (fun _ => rfl) (fun _ => rfl) (F.binds fun _ _ _ _ _ _ _ us hl => match us, hl with | [_], _ => rfl)
  mk_InvalidSchedule := by
    have hs := (gs_of X G c).f_super
    have E := e_InvalidSchedule c
    obtain ⟨fd, F⟩ := SaysC.cl (P := P0) (show SaysC P0.main.file hfa hfn hfc K from c.b.says) 15 (d := cd_InvalidSchedule) rfl
    exact mkErr_of (g_InvalidSchedule X G c) E.sup E.no1 E.no2 E.ini.1 E.ini.2 F sc_InvalidSchedule rfl rfl hs (by decide +kernel) (fun _ => rfl) (fun _ => rfl) (fun _ => rfl) (by decide) (by decide) (F.binds fun _ _ _ _ _ _ _ us hl => match us, hl with | [_, _], _ => rfl)
  mk_InvalidNumber := by
    have hs := (gs_of X G c).f_super
    have E := e_InvalidNumber c
    obtain ⟨fd, F⟩ := SaysC.cl (P := P0) (show SaysC P0.main.file hfa hfn hfc K from c.b.says) 16 (d := cd_InvalidNumber) rfl
    exact mkErr_of (g_InvalidNumber X G c) E.sup E.no1 E.no2 E.ini.1 E.ini.2 F sc_InvalidNumber rfl rfl hs (by decide +kernel) (fun _ => rfl) (fun _ => rfl) (fun _ => rfl) (by decide) (by decide) (F.binds fun _ _ _ _ _ _ _ us hl => match us, hl with | [_, _], _ => rfl)
  mk_DuplicateName := by
    have hs := (gs_of X G c).f_super
    have E := e_DuplicateName c
    obtain ⟨fd, F⟩ := SaysC.cl (P := P0) (show SaysC P0.main.file hfa hfn hfc K from c.b.says) 17 (d := cd_DuplicateName) rfl
    exact mkErr_of (g_DuplicateName X G c) E.sup E.no1 E.no2 E.ini.1 E.ini.2 F sc_DuplicateName rfl rfl hs (by decide +kernel) (fun _ => rfl) (fun _ => rfl) (fun _ => rfl) (by decide) (by decide) (F.binds fun _ _ _ _ _ _ _ us hl => match us, hl with | [_, _], _ => rfl)
  mk_InvalidName := by
    have hs := (gs_of X G c).f_super
    have E := e_InvalidName c
    obtain ⟨fd, F⟩ := SaysC.cl (P := P0) (show SaysC P0.main.file hfa hfn hfc K from c.b.says) 18 (d := cd_InvalidName) rfl
    exact mkErr_of (g_InvalidName X G c) E.sup E.no1 E.no2 E.ini.1 E.ini.2 F sc_InvalidName rfl rfl hs (by decide +kernel) (fun _ => rfl) (fun _ => rfl) (fun _ => rfl) (by decide) (by decide) (F.binds fun _ _ _ _ _ _ _ us hl => match us, hl with | [_, _], _ => rfl)
  mk_InvalidRow := by
    have hs := (gs_of X G c).f_super
    have E := e_InvalidRow c
    obtain ⟨fd, F⟩ := SaysC.cl (P := P0) (show SaysC P0.main.file hfa hfn hfc K from c.b.says) 19 (d := cd_InvalidRow) rfl
    exact mkErr_of (g_InvalidRow X G c) E.sup E.no1 E.no2 E.ini.1 E.ini.2 F sc_InvalidRow rfl rfl hs (by decide +kernel) (fun _ => rfl) (fun _ => rfl) (fun _ => rfl) (by decide) (by decide) (F.binds fun _ _ _ _ _ _ _ us hl => match us, hl with | [_, _], _ => rfl)
  mk_InvalidLength := by
    have hs := (gs_of X G c).f_super
    have E := e_InvalidLength c
    obtain ⟨fd, F⟩ := SaysC.cl (P := P0) (show SaysC P0.main.file hfa hfn hfc K from c.b.says) 20 (d := cd_InvalidLength) rfl
    exact mkErr_of (g_InvalidLength X G c) E.sup E.no1 E.no2 E.ini.1 E.ini.2 F sc_InvalidLength rfl rfl hs (by decide +kernel) (fun _ => rfl) (fun _ => rfl) (fun _ => rfl) (by decide) (by decide) (F.binds fun _ _ _ _ _ _ _ us hl => match us, hl with | [_, _], _ => rfl)
  mk_InvalidPrime := by
    have hs := (gs_of X G c).f_super
    have E := e_InvalidPrime c
    obtain ⟨fd, F⟩ := SaysC.cl (P := P0) (show SaysC P0.main.file hfa hfn hfc K from c.b.says) 21 (d := cd_InvalidPrime) rfl
    exact mkErr_of (g_InvalidPrime X G c) E.sup E.no1 E.no2 E.ini.1 E.ini.2 F sc_InvalidPrime rfl rfl hs (by decide +kernel) (fun _ => rfl) (fun _ => rfl) (fun _ => rfl) (by decide) (by decide) (F.binds fun _ _ _ _ _ _ _ us hl => match us, hl with | [_, _], _ => rfl)
theorem facts {w : World} {f : Addr} (hfa0 : mg ("law" : Str) = some (.ref f)) :
    ∃ fd : FuncData, (∀ (s : Shared) (v : Value), BindsTo s fd ⟨[v], []⟩ [("_law_script", v)]) ∧ ∀ base : Heap, K.In base → base.Ns mainGlobals mg → FnOk P0 w K mg base CX0 13 f fd ["_law_script"] (fun vs H Q _ => spD ⟨K, mg⟩ 1 m_law vs H Q fun _ _ _ => False) := by
  obtain ⟨fd, F⟩ := c.b.says.plain.def_ 7 (d := dd_law) rfl
  have e := hfa0.symm.trans (g_law X G c)
  cases e
  have b := FunD.bindsA (ps := ["_law_script"]) F fun _ _ _ _ _ _ us hl => match us, hl with | [_], _ => rfl
  exact ⟨fd, fun s v => b s [v] rfl, fun base _ _ => ok_calm (ok_all (gs_of X G c) (errs_of X G c) F)⟩
end
abbrev qs : List ((Str × Option Str) × Str) := []
/-- what the law comes down to -/
def Pure : Prop := ∀ ns : List Int, ns.length ≤ 63 → ∃ μ : Mu, m_law [.scr (ns.map D.int)] (qs.map fun z => MObj.tab z.1 z.2) = some (.val (.bl true), μ)
end Lw_k01
open PySem PySem.W PySem.Calls PyProof.Rows
theorem Lw_k01.holds (hpure : Lw_k01.Pure) : PySem.Challenge.rw_mendcalls_k01_errors_by_themselves.Holds := by
  w_on; o_law
  refine HandSHeadRun.head_any (r := OpenLaw.row PySem.Challenge.rw_mendcalls_k01_errors_by_themselves) (q := view (OpenLaw.row PySem.Challenge.rw_mendcalls_k01_errors_by_themselves).prog [33]) (H := Lw_k01.hk) (ob := Lw_k01.ob) (M := 9000) (loose := Lw_k01.hnm) (d := HandSHeadRun.topDef (OpenLaw.row PySem.Challenge.rw_mendcalls_k01_errors_by_themselves).prog 33) (kwd := []) Lw_k01.ob_eq
    (by kernel_rfl) (fun s => by kernel_rfl) Lw_k01.run (by kernel_rfl) (by kernel_rfl) (by kernel_rfl) (by rfl) (by first | assumption | decide +kernel) (by decide +kernel) ⟨rfl, rfl, rfl, rfl, rfl, by decide +kernel⟩ ?hw ?hc
  case hw => w_witness2
  case hc =>
    refine LamX.walk_ofTsE (l := PySem.Challenge.rw_mendcalls_k01_errors_by_themselves) (n := 63) (k := 13) (x := "_law_script") (CX := fun _ => L2.CX0) rfl (by decide) (by kernel_rfl) ⟨rfl, by decide, by decide⟩ ?F (fun _ _ _ _ _ z => z)
    intro w mg fa h Y G hmg0
    obtain ⟨K, KX, c⟩ := Y
    have hmg : mg ("law" : PySem.Str) = some (.ref fa) := by
      have e : (HandSHeadRun.topDef (OpenLaw.row PySem.Challenge.rw_mendcalls_k01_errors_by_themselves).prog 33).name = ("law" : PySem.Str) := by kernel_rfl
      rw [← e]
      exact hmg0
    obtain ⟨fd, hb, hF⟩ := Lw_k01.facts (w := w) KX G c hmg
    have each : ∀ p ∈ Lw_k01.htf.map (He.cT K), ∃ z ∈ Lw_k01.htf, p = He.cT K z := fun p hp => (let ⟨z, hz, e⟩ := List.mem_map.mp hp; ⟨z, hz, e.symm⟩)
    refine ⟨K, KX, fd, Lw_k01.htf.map (He.cT K), _, fun p hp => ?_, fun p hp => ?_, fun p hp => ?_, hb, fun H a ns hl _ hT hS => ?_, fun base h1 h2 TT => hF base h1 h2 ⟩
    · obtain ⟨z, hz, rfl⟩ := each p hp
      exact c.empty z hz
    · obtain ⟨z, hz, rfl⟩ := each p hp
      exact c.out z hz
    · obtain ⟨z, hz, rfl⟩ := each p hp
      exact PySem.W.codeHd_of_K KX (c.hd z hz)
    · obtain ⟨μ, hm⟩ := hpure ns hl
      refine Dv.sp_startT (qs := Lw_k01.qs) (ρ := Lw_k01.qs.map fun z => (He.cT K z.1).2) hm hl rfl (by simp) (fun p hp => ?_) hS
      obtain ⟨z, hz, rfl⟩ := List.mem_map.mp hp
      have hz2 : z.1 ∈ Lw_k01.htf := by
        have : Lw_k01.htf = Lw_k01.qs.map (·.1) := rfl
        rw [this]
        exact List.mem_map.mpr ⟨z, hz, rfl⟩
      exact hT (He.cT K z.1) (List.mem_map.mpr ⟨z.1, hz2, rfl⟩)


namespace Lw_k01
open PySem PySem.Spec PyProof.Rows L2 Dv
def loopB : DSt := (dSeq (dAsg (dIf (dTest (dBin (fInS false) (dVar 5) (dTup (dCons (dC (.str "MixedFields")) (dCons (dC (.str "NothingLeft")) dNil))))) (dTup dNil) (dTup (dCons (dVar 3) dNil))) (tName 6))
  (dSeq (dIfS (dOrT (dTest (dBin fNe (dAttr (fc "code") "code" (dVar 4)) (dVar 5))) (dOrT (dNotT (dTest (dCall (fCall 2 (mLike 12)) (dCons (dCall (fCall 1 (valOnly (mField fc))) (dCons (dVar 4) dNil)) (dCons (dVar 6) dNil))))) (dTest (dBin fNe (dCall (fCall 1 m__law_error_kinds) (dCons (dVar 4) dNil)) (dLst (dCons (dVar 5) dNil)))))) (dRet (dC (.bl false))) dSkip)
  (dSeq (dAsg (dLst (dCons (dCall (fIsiX ics ixs its ianc) (dCons (dVar 4) (dCons (dC (.glo "CallError")) dNil))) (dCons (dCall (fIsiX ics ixs its ianc) (dCons (dVar 4) (dCons (dC (.ty "ValueError")) dNil))) (dCons (dCall (fIsiX ics ixs its ianc) (dCons (dVar 4) (dCons (dC (.glo "Missing")) dNil))) dNil)))) (tName 7))
  (dSeq (dAsg (dBin fAdd (dVar 7) (dLst (dCons (dCall (fIsiX ics ixs its ianc) (dCons (dVar 4) (dCons (dC (.ty "LookupError")) dNil))) (dCons (dCall (fIsiX ics ixs its ianc) (dCons (dVar 4) (dCons (dC (.ty "IndexError")) dNil))) dNil)))) (tName 7))
  (dSeq (dIfS (dTest (dBin fEq (dVar 5) (dC (.str "UnknownReceiver")))) (dAsg (dLst (dCons (dC (.bl false)) (dCons (dC (.bl false)) (dCons (dC (.bl true)) (dCons (dC (.bl true)) (dCons (dC (.bl false)) dNil)))))) (tName 8)) (dIfS (dTest (dBin fEq (dVar 5) (dC (.str "NothingLeft")))) (dAsg (dLst (dCons (dC (.bl false)) (dCons (dC (.bl false)) (dCons (dC (.bl false)) (dCons (dC (.bl true)) (dCons (dC (.bl true)) dNil)))))) (tName 8)) (dAsg (dLst (dCons (dC (.bl true)) (dCons (dC (.bl true)) (dCons (dC (.bl false)) (dCons (dC (.bl false)) (dCons (dC (.bl false)) dNil)))))) (tName 8))))
  (dIfS (dTest (dBin fNe (dVar 7) (dVar 8))) (dRet (dC (.bl false))) dSkip))))))
def testA : DEnv → Mu → Res Bool := (dTest (dBin fNe (dAttr (fc "code") "code" (dVar 4)) (dVar 5)))
def argsL : DEnv → Mu → Res (List D) := (dCons (dCall (fCall 1 (valOnly (mField fc))) (dCons (dVar 4) dNil)) (dCons (dVar 6) dNil))
def testK : DEnv → Mu → Res Bool := (dTest (dBin fNe (dCall (fCall 1 m__law_error_kinds) (dCons (dVar 4) dNil)) (dLst (dCons (dVar 5) dNil))))
def partS : DSt := (dSeq (dAsg (dLst (dCons (dCall (fIsiX ics ixs its ianc) (dCons (dVar 4) (dCons (dC (.glo "CallError")) dNil))) (dCons (dCall (fIsiX ics ixs its ianc) (dCons (dVar 4) (dCons (dC (.ty "ValueError")) dNil))) (dCons (dCall (fIsiX ics ixs its ianc) (dCons (dVar 4) (dCons (dC (.glo "Missing")) dNil))) dNil)))) (tName 7))
  (dSeq (dAsg (dBin fAdd (dVar 7) (dLst (dCons (dCall (fIsiX ics ixs its ianc) (dCons (dVar 4) (dCons (dC (.ty "LookupError")) dNil))) (dCons (dCall (fIsiX ics ixs its ianc) (dCons (dVar 4) (dCons (dC (.ty "IndexError")) dNil))) dNil)))) (tName 7))
  (dSeq (dIfS (dTest (dBin fEq (dVar 5) (dC (.str "UnknownReceiver")))) (dAsg (dLst (dCons (dC (.bl false)) (dCons (dC (.bl false)) (dCons (dC (.bl true)) (dCons (dC (.bl true)) (dCons (dC (.bl false)) dNil)))))) (tName 8)) (dIfS (dTest (dBin fEq (dVar 5) (dC (.str "NothingLeft")))) (dAsg (dLst (dCons (dC (.bl false)) (dCons (dC (.bl false)) (dCons (dC (.bl false)) (dCons (dC (.bl true)) (dCons (dC (.bl true)) dNil)))))) (tName 8)) (dAsg (dLst (dCons (dC (.bl true)) (dCons (dC (.bl true)) (dCons (dC (.bl false)) (dCons (dC (.bl false)) (dCons (dC (.bl false)) dNil)))))) (tName 8))))
  (dIfS (dTest (dBin fNe (dVar 7) (dVar 8))) (dRet (dC (.bl false))) dSkip))))
theorem plumb (d e due : D) (c : Str) (knd : List D) (μ : Mu) (scr t2 t6 t7 t8 t9 : SV)
    (h1 : (dAsg (dIf (dTest (dBin (fInS false) (dVar 5) (dTup (dCons (dC (.str "MixedFields")) (dCons (dC (.str "NothingLeft")) dNil))))) (dTup dNil) (dTup (dCons (dVar 3) dNil))) (tName 6)) [scr, .v (.obj 0), t2, .v d, .v e, .v (.str c), t6, t7, t8, t9] μ = some (.val .nx, [scr, .v (.obj 0), t2, .v d, .v e, .v (.str c), .v due, t7, t8, t9], μ))
    (hA : testA [scr, .v (.obj 0), t2, .v d, .v e, .v (.str c), .v due, t7, t8, t9] μ = some (.val false, μ))
    (hL : argsL [scr, .v (.obj 0), t2, .v d, .v e, .v (.str c), .v due, t7, t8, t9] μ = some (.val [due, due], μ)) (hb : nobor due = true) (hlk : lkD 11 due = true)
    (hK : testK [scr, .v (.obj 0), t2, .v d, .v e, .v (.str c), .v due, t7, t8, t9] μ = some (.val false, μ))
    (h3 : partS [scr, .v (.obj 0), t2, .v d, .v e, .v (.str c), .v due, t7, t8, t9] μ = some (.val .nx, [scr, .v (.obj 0), t2, .v d, .v e, .v (.str c), .v due, .v (.lst knd), .v (.lst knd), t9], μ)) :
    loopB [scr, .v (.obj 0), t2, .v d, .v e, .v (.str c), t6, t7, t8, t9] μ = some (.val .nx, [scr, .v (.obj 0), t2, .v d, .v e, .v (.str c), .v due, .v (.lst knd), .v (.lst knd), t9], μ) := by
  refine seq_nx h1 (seq_nx (env' := [scr, .v (.obj 0), t2, .v d, .v e, .v (.str c), .v due, t7, t8, t9]) (μ' := μ) (ifs_f (μ' := μ) ?_ rfl) h3)
  have hl : dCall (fCall 2 (mLike 12)) argsL [scr, .v (.obj 0), t2, .v d, .v e, .v (.str c), .v due, t7, t8, t9] μ = some (.val (.bl true), μ) := by
    unfold dCall
    rw [hL]
    exact call_ (like_refl 11 due hlk) rfl (by simp only [List.all_cons, List.all_nil, hb, Bool.and_self])
  show dOrT testA (dOrT (dNotT (dTest (dCall (fCall 2 (mLike 12)) argsL))) testK) _ μ = _
  simp only [dOrT, dNotT, dTest, fTest, bindR, Dv.ret, hA, hl, hK, Bool.false_eq_true, if_false, Bool.not_true]
def goodD : D → Bool
  | .non => true
  | .bl _ => true
  | .int _ => true
  | .str _ => true
  | .tup _ => true
  | .lst _ => true
  | _ => false
theorem lk1 (d : D) (h : lkD 10 d = true) : lkD 11 (.tup [d]) = true := by
  show (lkD 10 d && true) = true
  rw [Bool.and_true]; exact h
theorem row_InvalidPrime (d : D) (hg : goodD d = true) (lk : lkD 10 d = true) (μ : Mu) (scr t2 t6 t7 t8 t9 : SV) : loopB [scr, .v (.obj 0), t2, .v d, .v (.exn "InvalidPrime" [("given", d), ("code", .str "InvalidPrime")]), .v (.str "InvalidPrime"), t6, t7, t8, t9] μ = some (.val .nx, [scr, .v (.obj 0), t2, .v d, .v (.exn "InvalidPrime" [("given", d), ("code", .str "InvalidPrime")]), .v (.str "InvalidPrime"), .v (.tup [d]), .v (.lst [.bl true, .bl true, .bl false, .bl false, .bl false]), .v (.lst [.bl true, .bl true, .bl false, .bl false, .bl false]), t9], μ) := by
  cases d <;> first
    | (cases hg; done)
    | exact plumb _ _ (.tup [_]) _ _ μ scr t2 t6 t7 t8 t9 (by kernel_rfl) (by kernel_rfl) (by kernel_rfl) rfl (lk1 _ lk) (by kernel_rfl) (by kernel_rfl)
theorem row_InvalidLength (d : D) (hg : goodD d = true) (lk : lkD 10 d = true) (μ : Mu) (scr t2 t6 t7 t8 t9 : SV) : loopB [scr, .v (.obj 0), t2, .v d, .v (.exn "InvalidLength" [("given", d), ("code", .str "InvalidLength")]), .v (.str "InvalidLength"), t6, t7, t8, t9] μ = some (.val .nx, [scr, .v (.obj 0), t2, .v d, .v (.exn "InvalidLength" [("given", d), ("code", .str "InvalidLength")]), .v (.str "InvalidLength"), .v (.tup [d]), .v (.lst [.bl true, .bl true, .bl false, .bl false, .bl false]), .v (.lst [.bl true, .bl true, .bl false, .bl false, .bl false]), t9], μ) := by
  cases d <;> first
    | (cases hg; done)
    | exact plumb _ _ (.tup [_]) _ _ μ scr t2 t6 t7 t8 t9 (by kernel_rfl) (by kernel_rfl) (by kernel_rfl) rfl (lk1 _ lk) (by kernel_rfl) (by kernel_rfl)
theorem row_InvalidRow (d : D) (hg : goodD d = true) (lk : lkD 10 d = true) (μ : Mu) (scr t2 t6 t7 t8 t9 : SV) : loopB [scr, .v (.obj 0), t2, .v d, .v (.exn "InvalidRow" [("at", d), ("code", .str "InvalidRow")]), .v (.str "InvalidRow"), t6, t7, t8, t9] μ = some (.val .nx, [scr, .v (.obj 0), t2, .v d, .v (.exn "InvalidRow" [("at", d), ("code", .str "InvalidRow")]), .v (.str "InvalidRow"), .v (.tup [d]), .v (.lst [.bl true, .bl true, .bl false, .bl false, .bl false]), .v (.lst [.bl true, .bl true, .bl false, .bl false, .bl false]), t9], μ) := by
  cases d <;> first
    | (cases hg; done)
    | exact plumb _ _ (.tup [_]) _ _ μ scr t2 t6 t7 t8 t9 (by kernel_rfl) (by kernel_rfl) (by kernel_rfl) rfl (lk1 _ lk) (by kernel_rfl) (by kernel_rfl)
theorem row_InvalidName (d : D) (hg : goodD d = true) (lk : lkD 10 d = true) (μ : Mu) (scr t2 t6 t7 t8 t9 : SV) : loopB [scr, .v (.obj 0), t2, .v d, .v (.exn "InvalidName" [("name", d), ("code", .str "InvalidName")]), .v (.str "InvalidName"), t6, t7, t8, t9] μ = some (.val .nx, [scr, .v (.obj 0), t2, .v d, .v (.exn "InvalidName" [("name", d), ("code", .str "InvalidName")]), .v (.str "InvalidName"), .v (.tup [d]), .v (.lst [.bl true, .bl true, .bl false, .bl false, .bl false]), .v (.lst [.bl true, .bl true, .bl false, .bl false, .bl false]), t9], μ) := by
  cases d <;> first
    | (cases hg; done)
    | exact plumb _ _ (.tup [_]) _ _ μ scr t2 t6 t7 t8 t9 (by kernel_rfl) (by kernel_rfl) (by kernel_rfl) rfl (lk1 _ lk) (by kernel_rfl) (by kernel_rfl)
theorem row_DuplicateName (d : D) (hg : goodD d = true) (lk : lkD 10 d = true) (μ : Mu) (scr t2 t6 t7 t8 t9 : SV) : loopB [scr, .v (.obj 0), t2, .v d, .v (.exn "DuplicateName" [("name", d), ("code", .str "DuplicateName")]), .v (.str "DuplicateName"), t6, t7, t8, t9] μ = some (.val .nx, [scr, .v (.obj 0), t2, .v d, .v (.exn "DuplicateName" [("name", d), ("code", .str "DuplicateName")]), .v (.str "DuplicateName"), .v (.tup [d]), .v (.lst [.bl true, .bl true, .bl false, .bl false, .bl false]), .v (.lst [.bl true, .bl true, .bl false, .bl false, .bl false]), t9], μ) := by
  cases d <;> first
    | (cases hg; done)
    | exact plumb _ _ (.tup [_]) _ _ μ scr t2 t6 t7 t8 t9 (by kernel_rfl) (by kernel_rfl) (by kernel_rfl) rfl (lk1 _ lk) (by kernel_rfl) (by kernel_rfl)
theorem row_InvalidNumber (d : D) (hg : goodD d = true) (lk : lkD 10 d = true) (μ : Mu) (scr t2 t6 t7 t8 t9 : SV) : loopB [scr, .v (.obj 0), t2, .v d, .v (.exn "InvalidNumber" [("given", d), ("code", .str "InvalidNumber")]), .v (.str "InvalidNumber"), t6, t7, t8, t9] μ = some (.val .nx, [scr, .v (.obj 0), t2, .v d, .v (.exn "InvalidNumber" [("given", d), ("code", .str "InvalidNumber")]), .v (.str "InvalidNumber"), .v (.tup [d]), .v (.lst [.bl true, .bl true, .bl false, .bl false, .bl false]), .v (.lst [.bl true, .bl true, .bl false, .bl false, .bl false]), t9], μ) := by
  cases d <;> first
    | (cases hg; done)
    | exact plumb _ _ (.tup [_]) _ _ μ scr t2 t6 t7 t8 t9 (by kernel_rfl) (by kernel_rfl) (by kernel_rfl) rfl (lk1 _ lk) (by kernel_rfl) (by kernel_rfl)
theorem row_InvalidSchedule (d : D) (hg : goodD d = true) (lk : lkD 10 d = true) (μ : Mu) (scr t2 t6 t7 t8 t9 : SV) : loopB [scr, .v (.obj 0), t2, .v d, .v (.exn "InvalidSchedule" [("given", d), ("code", .str "InvalidSchedule")]), .v (.str "InvalidSchedule"), t6, t7, t8, t9] μ = some (.val .nx, [scr, .v (.obj 0), t2, .v d, .v (.exn "InvalidSchedule" [("given", d), ("code", .str "InvalidSchedule")]), .v (.str "InvalidSchedule"), .v (.tup [d]), .v (.lst [.bl true, .bl true, .bl false, .bl false, .bl false]), .v (.lst [.bl true, .bl true, .bl false, .bl false, .bl false]), t9], μ) := by
  cases d <;> first
    | (cases hg; done)
    | exact plumb _ _ (.tup [_]) _ _ μ scr t2 t6 t7 t8 t9 (by kernel_rfl) (by kernel_rfl) (by kernel_rfl) rfl (lk1 _ lk) (by kernel_rfl) (by kernel_rfl)
theorem row_MixedFields (d : D) (hg : goodD d = true) (lk : lkD 10 d = true) (μ : Mu) (scr t2 t6 t7 t8 t9 : SV) : loopB [scr, .v (.obj 0), t2, .v d, .v (.exn "MixedFields" [("code", .str "MixedFields")]), .v (.str "MixedFields"), t6, t7, t8, t9] μ = some (.val .nx, [scr, .v (.obj 0), t2, .v d, .v (.exn "MixedFields" [("code", .str "MixedFields")]), .v (.str "MixedFields"), .v (.tup []), .v (.lst [.bl true, .bl true, .bl false, .bl false, .bl false]), .v (.lst [.bl true, .bl true, .bl false, .bl false, .bl false]), t9], μ) := by
  cases d <;> first
    | (cases hg; done)
    | exact plumb _ _ (.tup []) _ _ μ scr t2 t6 t7 t8 t9 (by kernel_rfl) (by kernel_rfl) (by kernel_rfl) rfl rfl (by kernel_rfl) (by kernel_rfl)
theorem row_TooMany (d : D) (hg : goodD d = true) (lk : lkD 10 d = true) (μ : Mu) (scr t2 t6 t7 t8 t9 : SV) : loopB [scr, .v (.obj 0), t2, .v d, .v (.exn "TooMany" [("most", d), ("code", .str "TooMany")]), .v (.str "TooMany"), t6, t7, t8, t9] μ = some (.val .nx, [scr, .v (.obj 0), t2, .v d, .v (.exn "TooMany" [("most", d), ("code", .str "TooMany")]), .v (.str "TooMany"), .v (.tup [d]), .v (.lst [.bl true, .bl true, .bl false, .bl false, .bl false]), .v (.lst [.bl true, .bl true, .bl false, .bl false, .bl false]), t9], μ) := by
  cases d <;> first
    | (cases hg; done)
    | exact plumb _ _ (.tup [_]) _ _ μ scr t2 t6 t7 t8 t9 (by kernel_rfl) (by kernel_rfl) (by kernel_rfl) rfl (lk1 _ lk) (by kernel_rfl) (by kernel_rfl)
theorem row_InvalidCall (d : D) (hg : goodD d = true) (lk : lkD 10 d = true) (μ : Mu) (scr t2 t6 t7 t8 t9 : SV) : loopB [scr, .v (.obj 0), t2, .v d, .v (.exn "InvalidCall" [("given", d), ("code", .str "InvalidCall")]), .v (.str "InvalidCall"), t6, t7, t8, t9] μ = some (.val .nx, [scr, .v (.obj 0), t2, .v d, .v (.exn "InvalidCall" [("given", d), ("code", .str "InvalidCall")]), .v (.str "InvalidCall"), .v (.tup [d]), .v (.lst [.bl true, .bl true, .bl false, .bl false, .bl false]), .v (.lst [.bl true, .bl true, .bl false, .bl false, .bl false]), t9], μ) := by
  cases d <;> first
    | (cases hg; done)
    | exact plumb _ _ (.tup [_]) _ _ μ scr t2 t6 t7 t8 t9 (by kernel_rfl) (by kernel_rfl) (by kernel_rfl) rfl (lk1 _ lk) (by kernel_rfl) (by kernel_rfl)
theorem row_NotCallable (d : D) (hg : goodD d = true) (lk : lkD 10 d = true) (μ : Mu) (scr t2 t6 t7 t8 t9 : SV) : loopB [scr, .v (.obj 0), t2, .v d, .v (.exn "NotCallable" [("given", d), ("code", .str "NotCallable")]), .v (.str "NotCallable"), t6, t7, t8, t9] μ = some (.val .nx, [scr, .v (.obj 0), t2, .v d, .v (.exn "NotCallable" [("given", d), ("code", .str "NotCallable")]), .v (.str "NotCallable"), .v (.tup [d]), .v (.lst [.bl true, .bl true, .bl false, .bl false, .bl false]), .v (.lst [.bl true, .bl true, .bl false, .bl false, .bl false]), t9], μ) := by
  cases d <;> first
    | (cases hg; done)
    | exact plumb _ _ (.tup [_]) _ _ μ scr t2 t6 t7 t8 t9 (by kernel_rfl) (by kernel_rfl) (by kernel_rfl) rfl (lk1 _ lk) (by kernel_rfl) (by kernel_rfl)
theorem row_InvalidFate (d : D) (hg : goodD d = true) (lk : lkD 10 d = true) (μ : Mu) (scr t2 t6 t7 t8 t9 : SV) : loopB [scr, .v (.obj 0), t2, .v d, .v (.exn "InvalidFate" [("given", d), ("code", .str "InvalidFate")]), .v (.str "InvalidFate"), t6, t7, t8, t9] μ = some (.val .nx, [scr, .v (.obj 0), t2, .v d, .v (.exn "InvalidFate" [("given", d), ("code", .str "InvalidFate")]), .v (.str "InvalidFate"), .v (.tup [d]), .v (.lst [.bl true, .bl true, .bl false, .bl false, .bl false]), .v (.lst [.bl true, .bl true, .bl false, .bl false, .bl false]), t9], μ) := by
  cases d <;> first
    | (cases hg; done)
    | exact plumb _ _ (.tup [_]) _ _ μ scr t2 t6 t7 t8 t9 (by kernel_rfl) (by kernel_rfl) (by kernel_rfl) rfl (lk1 _ lk) (by kernel_rfl) (by kernel_rfl)
theorem row_InvalidKey (d : D) (hg : goodD d = true) (lk : lkD 10 d = true) (μ : Mu) (scr t2 t6 t7 t8 t9 : SV) : loopB [scr, .v (.obj 0), t2, .v d, .v (.exn "InvalidKey" [("given", d), ("code", .str "InvalidKey")]), .v (.str "InvalidKey"), t6, t7, t8, t9] μ = some (.val .nx, [scr, .v (.obj 0), t2, .v d, .v (.exn "InvalidKey" [("given", d), ("code", .str "InvalidKey")]), .v (.str "InvalidKey"), .v (.tup [d]), .v (.lst [.bl true, .bl true, .bl false, .bl false, .bl false]), .v (.lst [.bl true, .bl true, .bl false, .bl false, .bl false]), t9], μ) := by
  cases d <;> first
    | (cases hg; done)
    | exact plumb _ _ (.tup [_]) _ _ μ scr t2 t6 t7 t8 t9 (by kernel_rfl) (by kernel_rfl) (by kernel_rfl) rfl (lk1 _ lk) (by kernel_rfl) (by kernel_rfl)
theorem row_Unservable (d : D) (hg : goodD d = true) (lk : lkD 10 d = true) (μ : Mu) (scr t2 t6 t7 t8 t9 : SV) : loopB [scr, .v (.obj 0), t2, .v d, .v (.exn "Unservable" [("name", d), ("code", .str "Unservable")]), .v (.str "Unservable"), t6, t7, t8, t9] μ = some (.val .nx, [scr, .v (.obj 0), t2, .v d, .v (.exn "Unservable" [("name", d), ("code", .str "Unservable")]), .v (.str "Unservable"), .v (.tup [d]), .v (.lst [.bl true, .bl true, .bl false, .bl false, .bl false]), .v (.lst [.bl true, .bl true, .bl false, .bl false, .bl false]), t9], μ) := by
  cases d <;> first
    | (cases hg; done)
    | exact plumb _ _ (.tup [_]) _ _ μ scr t2 t6 t7 t8 t9 (by kernel_rfl) (by kernel_rfl) (by kernel_rfl) rfl (lk1 _ lk) (by kernel_rfl) (by kernel_rfl)
theorem row_Beyond (d : D) (hg : goodD d = true) (lk : lkD 10 d = true) (μ : Mu) (scr t2 t6 t7 t8 t9 : SV) : loopB [scr, .v (.obj 0), t2, .v d, .v (.exn "Beyond" [("most", d), ("code", .str "Beyond")]), .v (.str "Beyond"), t6, t7, t8, t9] μ = some (.val .nx, [scr, .v (.obj 0), t2, .v d, .v (.exn "Beyond" [("most", d), ("code", .str "Beyond")]), .v (.str "Beyond"), .v (.tup [d]), .v (.lst [.bl true, .bl true, .bl false, .bl false, .bl false]), .v (.lst [.bl true, .bl true, .bl false, .bl false, .bl false]), t9], μ) := by
  cases d <;> first
    | (cases hg; done)
    | exact plumb _ _ (.tup [_]) _ _ μ scr t2 t6 t7 t8 t9 (by kernel_rfl) (by kernel_rfl) (by kernel_rfl) rfl (lk1 _ lk) (by kernel_rfl) (by kernel_rfl)
theorem row_NotBarred (d : D) (hg : goodD d = true) (lk : lkD 10 d = true) (μ : Mu) (scr t2 t6 t7 t8 t9 : SV) : loopB [scr, .v (.obj 0), t2, .v d, .v (.exn "NotBarred" [("cost", d), ("code", .str "NotBarred")]), .v (.str "NotBarred"), t6, t7, t8, t9] μ = some (.val .nx, [scr, .v (.obj 0), t2, .v d, .v (.exn "NotBarred" [("cost", d), ("code", .str "NotBarred")]), .v (.str "NotBarred"), .v (.tup [d]), .v (.lst [.bl true, .bl true, .bl false, .bl false, .bl false]), .v (.lst [.bl true, .bl true, .bl false, .bl false, .bl false]), t9], μ) := by
  cases d <;> first
    | (cases hg; done)
    | exact plumb _ _ (.tup [_]) _ _ μ scr t2 t6 t7 t8 t9 (by kernel_rfl) (by kernel_rfl) (by kernel_rfl) rfl (lk1 _ lk) (by kernel_rfl) (by kernel_rfl)
theorem row_NoChain (d : D) (hg : goodD d = true) (lk : lkD 10 d = true) (μ : Mu) (scr t2 t6 t7 t8 t9 : SV) : loopB [scr, .v (.obj 0), t2, .v d, .v (.exn "NoChain" [("at", d), ("code", .str "NoChain")]), .v (.str "NoChain"), t6, t7, t8, t9] μ = some (.val .nx, [scr, .v (.obj 0), t2, .v d, .v (.exn "NoChain" [("at", d), ("code", .str "NoChain")]), .v (.str "NoChain"), .v (.tup [d]), .v (.lst [.bl true, .bl true, .bl false, .bl false, .bl false]), .v (.lst [.bl true, .bl true, .bl false, .bl false, .bl false]), t9], μ) := by
  cases d <;> first
    | (cases hg; done)
    | exact plumb _ _ (.tup [_]) _ _ μ scr t2 t6 t7 t8 t9 (by kernel_rfl) (by kernel_rfl) (by kernel_rfl) rfl (lk1 _ lk) (by kernel_rfl) (by kernel_rfl)
theorem row_NoRing (d : D) (hg : goodD d = true) (lk : lkD 10 d = true) (μ : Mu) (scr t2 t6 t7 t8 t9 : SV) : loopB [scr, .v (.obj 0), t2, .v d, .v (.exn "NoRing" [("at", d), ("code", .str "NoRing")]), .v (.str "NoRing"), t6, t7, t8, t9] μ = some (.val .nx, [scr, .v (.obj 0), t2, .v d, .v (.exn "NoRing" [("at", d), ("code", .str "NoRing")]), .v (.str "NoRing"), .v (.tup [d]), .v (.lst [.bl true, .bl true, .bl false, .bl false, .bl false]), .v (.lst [.bl true, .bl true, .bl false, .bl false, .bl false]), t9], μ) := by
  cases d <;> first
    | (cases hg; done)
    | exact plumb _ _ (.tup [_]) _ _ μ scr t2 t6 t7 t8 t9 (by kernel_rfl) (by kernel_rfl) (by kernel_rfl) rfl (lk1 _ lk) (by kernel_rfl) (by kernel_rfl)
theorem row_Overlost (d : D) (hg : goodD d = true) (lk : lkD 10 d = true) (μ : Mu) (scr t2 t6 t7 t8 t9 : SV) : loopB [scr, .v (.obj 0), t2, .v d, .v (.exn "Overlost" [("name", d), ("code", .str "Overlost")]), .v (.str "Overlost"), t6, t7, t8, t9] μ = some (.val .nx, [scr, .v (.obj 0), t2, .v d, .v (.exn "Overlost" [("name", d), ("code", .str "Overlost")]), .v (.str "Overlost"), .v (.tup [d]), .v (.lst [.bl true, .bl true, .bl false, .bl false, .bl false]), .v (.lst [.bl true, .bl true, .bl false, .bl false, .bl false]), t9], μ) := by
  cases d <;> first
    | (cases hg; done)
    | exact plumb _ _ (.tup [_]) _ _ μ scr t2 t6 t7 t8 t9 (by kernel_rfl) (by kernel_rfl) (by kernel_rfl) rfl (lk1 _ lk) (by kernel_rfl) (by kernel_rfl)
theorem row_InvalidText (d : D) (hg : goodD d = true) (lk : lkD 10 d = true) (μ : Mu) (scr t2 t6 t7 t8 t9 : SV) : loopB [scr, .v (.obj 0), t2, .v d, .v (.exn "InvalidText" [("line", d), ("code", .str "InvalidText")]), .v (.str "InvalidText"), t6, t7, t8, t9] μ = some (.val .nx, [scr, .v (.obj 0), t2, .v d, .v (.exn "InvalidText" [("line", d), ("code", .str "InvalidText")]), .v (.str "InvalidText"), .v (.tup [d]), .v (.lst [.bl true, .bl true, .bl false, .bl false, .bl false]), .v (.lst [.bl true, .bl true, .bl false, .bl false, .bl false]), t9], μ) := by
  cases d <;> first
    | (cases hg; done)
    | exact plumb _ _ (.tup [_]) _ _ μ scr t2 t6 t7 t8 t9 (by kernel_rfl) (by kernel_rfl) (by kernel_rfl) rfl (lk1 _ lk) (by kernel_rfl) (by kernel_rfl)
theorem row_UnknownReceiver (d : D) (hg : goodD d = true) (lk : lkD 10 d = true) (μ : Mu) (scr t2 t6 t7 t8 t9 : SV) : loopB [scr, .v (.obj 0), t2, .v d, .v (.exn "UnknownReceiver" [("name", d), ("code", .str "UnknownReceiver")]), .v (.str "UnknownReceiver"), t6, t7, t8, t9] μ = some (.val .nx, [scr, .v (.obj 0), t2, .v d, .v (.exn "UnknownReceiver" [("name", d), ("code", .str "UnknownReceiver")]), .v (.str "UnknownReceiver"), .v (.tup [d]), .v (.lst [.bl false, .bl false, .bl true, .bl true, .bl false]), .v (.lst [.bl false, .bl false, .bl true, .bl true, .bl false]), t9], μ) := by
  cases d <;> first
    | (cases hg; done)
    | exact plumb _ _ (.tup [_]) _ _ μ scr t2 t6 t7 t8 t9 (by kernel_rfl) (by kernel_rfl) (by kernel_rfl) rfl (lk1 _ lk) (by kernel_rfl) (by kernel_rfl)
theorem row_NothingLeft (d : D) (hg : goodD d = true) (lk : lkD 10 d = true) (μ : Mu) (scr t2 t6 t7 t8 t9 : SV) : loopB [scr, .v (.obj 0), t2, .v d, .v (.exn "NothingLeft" [("code", .str "NothingLeft")]), .v (.str "NothingLeft"), t6, t7, t8, t9] μ = some (.val .nx, [scr, .v (.obj 0), t2, .v d, .v (.exn "NothingLeft" [("code", .str "NothingLeft")]), .v (.str "NothingLeft"), .v (.tup []), .v (.lst [.bl false, .bl false, .bl false, .bl true, .bl true]), .v (.lst [.bl false, .bl false, .bl false, .bl true, .bl true]), t9], μ) := by
  cases d <;> first
    | (cases hg; done)
    | exact plumb _ _ (.tup []) _ _ μ scr t2 t6 t7 t8 t9 (by kernel_rfl) (by kernel_rfl) (by kernel_rfl) rfl rfl (by kernel_rfl) (by kernel_rfl)
def rowsD (d : D) : List D := [.tup [.exn "InvalidPrime" [("given", d), ("code", .str "InvalidPrime")], .str "InvalidPrime"], .tup [.exn "InvalidLength" [("given", d), ("code", .str "InvalidLength")], .str "InvalidLength"], .tup [.exn "InvalidRow" [("at", d), ("code", .str "InvalidRow")], .str "InvalidRow"], .tup [.exn "InvalidName" [("name", d), ("code", .str "InvalidName")], .str "InvalidName"], .tup [.exn "DuplicateName" [("name", d), ("code", .str "DuplicateName")], .str "DuplicateName"], .tup [.exn "InvalidNumber" [("given", d), ("code", .str "InvalidNumber")], .str "InvalidNumber"], .tup [.exn "InvalidSchedule" [("given", d), ("code", .str "InvalidSchedule")], .str "InvalidSchedule"], .tup [.exn "MixedFields" [("code", .str "MixedFields")], .str "MixedFields"], .tup [.exn "TooMany" [("most", d), ("code", .str "TooMany")], .str "TooMany"], .tup [.exn "InvalidCall" [("given", d), ("code", .str "InvalidCall")], .str "InvalidCall"], .tup [.exn "NotCallable" [("given", d), ("code", .str "NotCallable")], .str "NotCallable"], .tup [.exn "InvalidFate" [("given", d), ("code", .str "InvalidFate")], .str "InvalidFate"], .tup [.exn "InvalidKey" [("given", d), ("code", .str "InvalidKey")], .str "InvalidKey"], .tup [.exn "Unservable" [("name", d), ("code", .str "Unservable")], .str "Unservable"], .tup [.exn "Beyond" [("most", d), ("code", .str "Beyond")], .str "Beyond"], .tup [.exn "NotBarred" [("cost", d), ("code", .str "NotBarred")], .str "NotBarred"], .tup [.exn "NoChain" [("at", d), ("code", .str "NoChain")], .str "NoChain"], .tup [.exn "NoRing" [("at", d), ("code", .str "NoRing")], .str "NoRing"], .tup [.exn "Overlost" [("name", d), ("code", .str "Overlost")], .str "Overlost"], .tup [.exn "InvalidText" [("line", d), ("code", .str "InvalidText")], .str "InvalidText"], .tup [.exn "UnknownReceiver" [("name", d), ("code", .str "UnknownReceiver")], .str "UnknownReceiver"], .tup [.exn "NothingLeft" [("code", .str "NothingLeft")], .str "NothingLeft"]]
theorem rows_it (d : D) (hg : goodD d = true) (μ : Mu) (scr t2 t4 t5 t6 t7 t8 t9 : SV) : dIter (dCall (fCall 1 m__law_error_rows) (dCons (dVar 3) dNil)) [scr, .v (.obj 0), t2, .v d, t4, t5, t6, t7, t8, t9] μ = some (.val (rowsD d), μ) := by
  cases d <;> first
    | (cases hg; done)
    | kernel_rfl
theorem inner (d : D) (hg : goodD d = true) (lk : lkD 10 d = true) (μ : Mu) (scr t2 t4 t5 t6 t7 t8 t9 : SV) : ∃ u4 u5 u6 u7 u8 u9, (dFor (dIter (dCall (fCall 1 m__law_error_rows) (dCons (dVar 3) dNil))) (Dv.tTup 2 (tsCons (tName 4) (tsCons (tName 5) tsNil))) loopB) [scr, .v (.obj 0), t2, .v d, t4, t5, t6, t7, t8, t9] μ = some (.val .nx, [scr, .v (.obj 0), t2, .v d, u4, u5, u6, u7, u8, u9], μ) := by
  obtain ⟨env', μ', e, ⟨u4, u5, u6, u7, u8, u9, rfl⟩, rfl⟩ := for_nx (tg := Dv.tTup 2 (tsCons (tName 4) (tsCons (tName 5) tsNil))) (body := loopB) (fun env μ' => (∃ u4 u5 u6 u7 u8 u9, env = [scr, .v (.obj 0), t2, .v d, u4, u5, u6, u7, u8, u9]) ∧ μ' = μ) (rowsD d) (fun r hr env μ' ⟨⟨u4, u5, u6, u7, u8, u9, h1⟩, h2⟩ => by
    subst h1 h2
    unfold rowsD at hr
    simp only [List.mem_cons, List.not_mem_nil, or_false] at hr
    rcases hr with rfl | rfl | rfl | rfl | rfl | rfl | rfl | rfl | rfl | rfl | rfl | rfl | rfl | rfl | rfl | rfl | rfl | rfl | rfl | rfl | rfl | rfl

    · exact ⟨_, _, _, rfl, row_InvalidPrime d hg lk μ' scr t2 u6 u7 u8 u9, ⟨_, _, _, _, _, _, rfl⟩, rfl⟩
    · exact ⟨_, _, _, rfl, row_InvalidLength d hg lk μ' scr t2 u6 u7 u8 u9, ⟨_, _, _, _, _, _, rfl⟩, rfl⟩
    · exact ⟨_, _, _, rfl, row_InvalidRow d hg lk μ' scr t2 u6 u7 u8 u9, ⟨_, _, _, _, _, _, rfl⟩, rfl⟩
    · exact ⟨_, _, _, rfl, row_InvalidName d hg lk μ' scr t2 u6 u7 u8 u9, ⟨_, _, _, _, _, _, rfl⟩, rfl⟩
    · exact ⟨_, _, _, rfl, row_DuplicateName d hg lk μ' scr t2 u6 u7 u8 u9, ⟨_, _, _, _, _, _, rfl⟩, rfl⟩
    · exact ⟨_, _, _, rfl, row_InvalidNumber d hg lk μ' scr t2 u6 u7 u8 u9, ⟨_, _, _, _, _, _, rfl⟩, rfl⟩
    · exact ⟨_, _, _, rfl, row_InvalidSchedule d hg lk μ' scr t2 u6 u7 u8 u9, ⟨_, _, _, _, _, _, rfl⟩, rfl⟩
    · exact ⟨_, _, _, rfl, row_MixedFields d hg lk μ' scr t2 u6 u7 u8 u9, ⟨_, _, _, _, _, _, rfl⟩, rfl⟩
    · exact ⟨_, _, _, rfl, row_TooMany d hg lk μ' scr t2 u6 u7 u8 u9, ⟨_, _, _, _, _, _, rfl⟩, rfl⟩
    · exact ⟨_, _, _, rfl, row_InvalidCall d hg lk μ' scr t2 u6 u7 u8 u9, ⟨_, _, _, _, _, _, rfl⟩, rfl⟩
    · exact ⟨_, _, _, rfl, row_NotCallable d hg lk μ' scr t2 u6 u7 u8 u9, ⟨_, _, _, _, _, _, rfl⟩, rfl⟩
    · exact ⟨_, _, _, rfl, row_InvalidFate d hg lk μ' scr t2 u6 u7 u8 u9, ⟨_, _, _, _, _, _, rfl⟩, rfl⟩
    · exact ⟨_, _, _, rfl, row_InvalidKey d hg lk μ' scr t2 u6 u7 u8 u9, ⟨_, _, _, _, _, _, rfl⟩, rfl⟩
    · exact ⟨_, _, _, rfl, row_Unservable d hg lk μ' scr t2 u6 u7 u8 u9, ⟨_, _, _, _, _, _, rfl⟩, rfl⟩
    · exact ⟨_, _, _, rfl, row_Beyond d hg lk μ' scr t2 u6 u7 u8 u9, ⟨_, _, _, _, _, _, rfl⟩, rfl⟩
    · exact ⟨_, _, _, rfl, row_NotBarred d hg lk μ' scr t2 u6 u7 u8 u9, ⟨_, _, _, _, _, _, rfl⟩, rfl⟩
    · exact ⟨_, _, _, rfl, row_NoChain d hg lk μ' scr t2 u6 u7 u8 u9, ⟨_, _, _, _, _, _, rfl⟩, rfl⟩
    · exact ⟨_, _, _, rfl, row_NoRing d hg lk μ' scr t2 u6 u7 u8 u9, ⟨_, _, _, _, _, _, rfl⟩, rfl⟩
    · exact ⟨_, _, _, rfl, row_Overlost d hg lk μ' scr t2 u6 u7 u8 u9, ⟨_, _, _, _, _, _, rfl⟩, rfl⟩
    · exact ⟨_, _, _, rfl, row_InvalidText d hg lk μ' scr t2 u6 u7 u8 u9, ⟨_, _, _, _, _, _, rfl⟩, rfl⟩
    · exact ⟨_, _, _, rfl, row_UnknownReceiver d hg lk μ' scr t2 u6 u7 u8 u9, ⟨_, _, _, _, _, _, rfl⟩, rfl⟩
    · exact ⟨_, _, _, rfl, row_NothingLeft d hg lk μ' scr t2 u6 u7 u8 u9, ⟨_, _, _, _, _, _, rfl⟩, rfl⟩
    ) [scr, .v (.obj 0), t2, .v d, t4, t5, t6, t7, t8, t9] μ ⟨⟨_, _, _, _, _, _, rfl⟩, rfl⟩
  exact ⟨u4, u5, u6, u7, u8, u9, for_of (rows_it d hg _ scr t2 t4 t5 t6 t7 t8 t9) e⟩
def turnB : DSt := (dSeq (dAsg (dCall (fCall 2 mOf) (dCons (dVar 1) (dCons (dLst (dCons (dC .non) (dCons (dC (.int 0)) (dCons (dC (.int 7)) (dCons (dC (.str "")) (dCons (dC (.str "ann")) (dCons (dTup (dCons (dC (.int 1)) (dCons (dC (.int 0)) dNil))) (dCons (dLst (dCons (dC (.int 1)) dNil)) (dCons (dC (.bl true)) (dCons (dCall (fCall 2 mDraw) (dCons (dVar 1) (dCons (dBin fPow (dC (.int 10)) (dC (.int 9))) dNil))) dNil)))))))))) dNil))) (tName 3))
  (dFor (dIter (dCall (fCall 1 m__law_error_rows) (dCons (dVar 3) dNil))) (Dv.tTup 2 (tsCons (tName 4) (tsCons (tName 5) tsNil))) loopB))
theorem turn_ok (s : Src) (hs : OkS s) (scr t2 t3 t4 t5 t6 t7 t8 t9 : SV) : ∃ u3 u4 u5 u6 u7 u8 u9 s', turnB [scr, .v (.obj 0), t2, t3, t4, t5, t6, t7, t8, t9] [.src s] = some (.val .nx, [scr, .v (.obj 0), t2, u3, u4, u5, u6, u7, u8, u9], [.src s']) ∧ OkS s' := by
  obtain ⟨g, s1, e1, g0, g1, o1⟩ := draw_ok s 1000000000 hs (by decide) (by decide)
  obtain ⟨d, s2, hd, e2, o2⟩ := of_ok s1 [.non, .int 0, .int 7, .str "", .str "ann", .tup [.int 1, .int 0], .lst [.int 1], .bl true, .int g] o1 (by simp) (by simp) (fun d hd => by simp only [List.mem_cons, List.not_mem_nil, or_false] at hd; rcases hd with rfl | rfl | rfl | rfl | rfl | rfl | rfl | rfl | rfl <;> rfl) (fun d hd => by simp only [List.mem_cons, List.not_mem_nil, or_false] at hd; rcases hd with rfl | rfl | rfl | rfl | rfl | rfl | rfl | rfl | rfl <;> rfl)
  have hb : goodD d = true ∧ lkD 10 d = true ∧ nobor d = true ∧ hold d = d := by
    simp only [List.mem_cons, List.not_mem_nil, or_false] at hd
    rcases hd with rfl | rfl | rfl | rfl | rfl | rfl | rfl | rfl | rfl <;> exact ⟨rfl, by kernel_rfl, rfl, rfl⟩
  obtain ⟨u4, u5, u6, u7, u8, u9, e⟩ := inner d hb.1 hb.2.1 [.src s2] scr t2 t4 t5 t6 t7 t8 t9
  refine ⟨.v d, u4, u5, u6, u7, u8, u9, s2, seq_nx (env' := [scr, .v (.obj 0), t2, .v d, t4, t5, t6, t7, t8, t9]) (μ' := [.src s2]) ?_ e, o2⟩
  have hp : ∀ μ, fPow (.int 10) (.int 9) μ = some (.val (.int 1000000000), μ) := fun μ => rfl
  simp (decide := true) only [dSeq, dIfS, dRet, dSkip, dAsg, tName, unbor, bindS, dTest, fTest, dBin, dC, dVar, dNotT, dAndT, dOrT, dAndV, dOrV, dIf, bindR, Dv.ret, hold_new, hold_int, hold_bl, hold_tup, hold_lst, hold_obj, hold_str, hold_non, hold_ty, hold_bor, dCall, dCons, dNil, dIter, fIter, dArg, nobor_new, nobor_int, nobor_bl, nobor_tup, nobor_lst, nobor_obj, nobor_str, nobor_non, nobor_ty, Bool.and_self, and_self, if_true, if_false, Bool.false_eq_true, Bool.not_true, Bool.not_false, List.all_cons, List.all_nil, List.length_cons, List.length_nil, Nat.zero_add, Nat.reduceAdd, List.getElem?_cons_zero, List.getElem?_cons_succ, List.set_cons_zero, List.set_cons_succ, fCall, decide_true, decide_false, dTup, fTup, dLst, fLst, hp, e1, e2, hb.2.2.1, hb.2.2.2]
theorem pure : Pure := by
  intro ns hl
  obtain ⟨s, e, ho⟩ := source_ok 63 10014 ns hl
  have ho := ho (by decide) (by decide)
  obtain ⟨env', μ', ef, s', t2, t3, t4, t5, t6, t7, t8, t9, rfl, rfl, o'⟩ := for_nx (tg := tName 2) (body := turnB) (fun env μ => ∃ s t2 t3 t4 t5 t6 t7 t8 t9, env = [.v (.scr (intsD ns)), .v (.obj 0), t2, t3, t4, t5, t6, t7, t8, t9] ∧ μ = [.src s] ∧ OkS s) (rangeD 0 4) (fun d hd env μ ⟨s, t2, t3, t4, t5, t6, t7, t8, t9, h1, h2, ho⟩ => by
    subst h1 h2
    obtain ⟨q3, q4, q5, q6, q7, q8, q9, s', e, o⟩ := turn_ok s ho (.v (.scr (intsD ns))) (.v d) t3 t4 t5 t6 t7 t8 t9
    exact ⟨_, _, _, rfl, e, s', _, q3, q4, q5, q6, q7, q8, q9, rfl, rfl, o⟩) [.v (.scr (intsD ns)), .v (.obj 0), .no, .no, .no, .no, .no, .no, .no, .no] [.src s] ⟨s, _, _, _, _, _, _, _, _, rfl, rfl, ho⟩

  refine ⟨[.src s'], def_ret (env := [.v (.scr (intsD ns)), .v (.obj 0), t2, t3, t4, t5, t6, t7, t8, .v (.lst [.int 3, .int 4, .int 5, .int 6, .tup [.int 1], .str "x", .int 0])]) ?_ rfl⟩
  show b_law [.v (.scr (intsD ns)), .no, .no, .no, .no, .no, .no, .no, .no, .no] [] = _
  unfold b_law
  refine seq_nx (env' := [.v (.scr (intsD ns)), .v (.obj 0), .no, .no, .no, .no, .no, .no, .no, .no]) (μ' := [.src s]) ?_ (seq_nx (for_of (ds := rangeD 0 4) (μ1 := [.src s]) rfl ef) ?_)
  · have e' : m__law_source [.scr (intsD ns)] [] = some (.val (.obj 0), [.src s]) := e
    have h : hold (.scr (intsD ns)) = .scr (intsD ns) := rfl
    have h2 : nobor (.scr (intsD ns)) = true := rfl
    simp (decide := true) only [dSeq, dIfS, dRet, dSkip, dAsg, tName, unbor, bindS, dTest, fTest, dBin, dC, dVar, dNotT, dAndT, dOrT, dAndV, dOrV, dIf, bindR, Dv.ret, hold_new, hold_int, hold_bl, hold_tup, hold_lst, hold_obj, hold_str, hold_non, hold_ty, hold_bor, dCall, dCons, dNil, dIter, fIter, dArg, nobor_new, nobor_int, nobor_bl, nobor_tup, nobor_lst, nobor_obj, nobor_str, nobor_non, nobor_ty, Bool.and_self, and_self, if_true, if_false, Bool.false_eq_true, Bool.not_true, Bool.not_false, List.all_cons, List.all_nil, List.length_cons, List.length_nil, Nat.zero_add, Nat.reduceAdd, List.getElem?_cons_zero, List.getElem?_cons_succ, List.set_cons_zero, List.set_cons_succ, decide_true, decide_false, h2, h, call_ (n := 1) (ha := by rfl) e']
  · kernel_rfl
end Lw_k01
theorem PySem.Challenge.cw_mendcalls_k01_errors_by_themselves_holds : PySem.Challenge.rw_mendcalls_k01_errors_by_themselves.Holds := by
  exact Lw_k01.holds Lw_k01.pure
